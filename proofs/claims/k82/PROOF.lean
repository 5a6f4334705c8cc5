import PyProof.Rows.All
import Wide.All
import OpenK.AllK
import Wide.FinOn
import HandS.Lambda
import HandS.HeadHook4
import HandS.ForMost
import HandS.TupAny
import HandS.IsInst
import HandS.Deep
import HandS.Wide
import HandS.ForExc
import HandS.Star
import HandS.TupMul
import HandS.RaiseMore
import HandS.RaiseFrom
import HandS.SuiteRaise
import HandS.ExcCtx
import KE.GoesRaise
import PyProof.RulesMatch
import HandS.TupSets
import KE.KSortTupG
import HandS.OwnEq
import HandS.TryOnly
import HandS.ExcIs
import HandS.Property
import HandS.ClsMeth
import PyProof.InstEq
import PyProof.ListStr
import HandS.Text
import HandS.HeadHook1
import HandS.HeadNt
import HandS.HeadWalk
import HandS.Head0
import HandS.Head1
import HandS.Head2
import PySem.Challenge.RW_asunmoved_k82_texts_of_readers
set_option Elab.async false
set_option linter.all false
set_option maxRecDepth 100000
set_option maxHeartbeats 4000000
/-! The data layer, part 0: which code tables a run keeps (of this claim's defs that make lambdas). -/
namespace DL
open PySem PySem.Spec PyProof.Rows L2
def tblAt (K : PySem.W.Frag) (x : Str) : Addr × Str := ((He.cT K (x, none)).2, (x ++ ".<locals>.") ++ "<lambda>")
def TBS (K : PySem.W.Frag) : List (Addr × Str) := [tblAt K "law", tblAt K "_law_right"]
end DL

/-! The data layer, part 1: plain data trees, how they lie in the abstract heap, readings over data. -/
namespace DL
open PySem PySem.Spec PyProof.Rows L2

/-- a plain value: what a proof over data speaks of -/
inductive D where
  | non | bl (b : Bool) | int (i : Int) | str (x : Str)
  | tup (xs : List D) | lst (xs : List D)
  | ins (C : Addr) (ks : List Str) (xs : List D)
  | dic (ks : List Key) (xs : List D)
  | die
  | raw (v : V)
  | scr (ns : List Int)

/-- the dice at a: a list of three ints -/
def Die (H : Hp) (a : Addr) : Prop := ∃ i j k : Int, H a = some (.lst [.int i, .int j, .int k])
/-- z: the address of the dice, if any; n: the addresses that no data reach; o: those among them that a statement may change -/
structure Cz (K : PySem.W.Frag) where
  z : Option Addr
  n : Addr → Prop
  no : ∀ a, z = some a → n a
  o : Addr → Prop
  on : ∀ a, o a → n a
/-- something other than a code table -/
def There (H : Hp) (a : Addr) : Prop := ∃ o, H a = some o ∧ ∀ ps, o ≠ .tbl ps
/-- the heap as a context wants it -/
structure Ok {K : PySem.W.Frag} (c : Cz K) (H : Hp) : Prop where
  die : ∀ a, c.z = some a → Die H a
  there : ∀ a, c.n a → There H a
  tabs : LamX.Tabs (TBS K) H
/-- what a piece of code may do to the heap -/
structure Ev {K : PySem.W.Frag} (c : Cz K) (H H' : Hp) : Prop where
  keep : ∀ a o, c.z ≠ some a → ¬ c.o a → (∀ ps, o ≠ .tbl ps) → H a = some o → H' a = some o
  thr : ∀ a, There H a → There H' a
  die : ∀ a, c.z = some a → Die H a → Die H' a
  tab : (∀ a, c.z = some a → Die H a) → LamX.Tabs (TBS K) H → LamX.Tabs (TBS K) H'

/-- a tuple at a: a tracked one, or one of the module's own -/
def TpA (K : PySem.W.Frag) (c : Cz K) (H : Hp) (a : Addr) (vs : List V) : Prop := (H a = some (.tup vs) ∧ ¬ c.n a) ∨
  ∃ (o : Obj) (its : Array Value) (n : Nat), K.lookup a = some o ∧ o.cls = .type "tuple" ∧ o.data = .seq its n ∧ its.size ≤ sizeLine ∧ Vals vs its.toList
theorem TpA.sq {K : PySem.W.Frag} {c : Cz K} {H : Hp} {a : Addr} {vs : List V} (h : TpA K c H a vs) : SqT K H a vs := h.elim (fun h => .inl (.inl h.1)) .inr
/-- the script at a: a list of ints that nobody writes -/
def ScA (K : PySem.W.Frag) (c : Cz K) (H : Hp) (a : Addr) (ns : List Int) : Prop := (Rd H a (.lst (ns.map V.int)) ∧ ¬ c.n a) ∨
  ∃ (o : Obj) (its : Array Value) (n : Nat), K.lookup a = some o ∧ o.cls = .type "list" ∧ o.dict = none ∧ o.data = .seq its n ∧ its.size ≤ sizeLine ∧ Vals (ns.map V.int) its.toList
theorem ScA.sq {K : PySem.W.Frag} {c : Cz K} {H : Hp} {a : Addr} {ns : List Int} (h : ScA K c H a ns) : SqL K H a (ns.map V.int) := h.elim (fun h => .inl h.1) .inr
theorem rd_there {H : Hp} {a : Addr} {vs : List V} (h : Rd H a (.lst vs)) : There H a := by
  rcases h with h | ⟨o, h⟩
  · exact ⟨_, h, fun _ q => (by cases q)⟩
  · exact ⟨_, h, fun _ q => (by cases q)⟩
mutual
inductive Rp (K : PySem.W.Frag) (c : Cz K) (H : Hp) : V → D → Prop
  | non : Rp K c H .non .non
  | bl (b : Bool) : Rp K c H (.bl b) (.bl b)
  | int (i : Int) : Rp K c H (.int i) (.int i)
  | str (x : Str) : Rp K c H (.str x) (.str x)
  | tup {a : Addr} {vs : List V} {ds : List D} : TpA K c H a vs → RpAll K c H vs ds → Rp K c H (.ref a) (.tup ds)
  | lst {a : Addr} {vs : List V} {ds : List D} : H a = some (.lst vs) → ¬ c.n a → RpAll K c H vs ds → Rp K c H (.ref a) (.lst ds)
  | ins {a C dx : Addr} {ks : List Str} {vs : List V} {ds : List D} : H a = some (.ins C dx (ks.zip vs)) → ¬ c.n a → ks.length = vs.length → RpAll K c H vs ds → Rp K c H (.ref a) (.ins C ks ds)
  | dic {a : Addr} {ks : List Key} {vs : List V} {ds : List D} : H a = some (.dK (ks.zip vs)) → ¬ c.n a → ks.length = vs.length → RpAll K c H vs ds → Rp K c H (.ref a) (.dic ks ds)
  | die {a : Addr} : c.z = some a → Rp K c H (.ref a) .die
  | raw (v : V) : Rp K c H v (.raw v)
  | scr {a : Addr} {ns : List Int} : ScA K c H a ns → Rp K c H (.ref a) (.scr ns)
inductive RpAll (K : PySem.W.Frag) (c : Cz K) (H : Hp) : List V → List D → Prop
  | nil : RpAll K c H [] []
  | cons {v : V} {vs : List V} {d : D} {ds : List D} : Rp K c H v d → RpAll K c H vs ds → RpAll K c H (v :: vs) (d :: ds)
end

section
variable {K : PySem.W.Frag} {z : Cz K} {H H' H'' : Hp}
theorem Ev.refl : Ev z H H := ⟨fun _ _ _ _ _ h => h, fun _ h => h, fun _ _ h => h, fun _ h => h⟩
theorem Ev.trans (a : Ev z H H') (b : Ev z H' H'') : Ev z H H'' := ⟨fun c o n w t h => b.keep c o n w t (a.keep c o n w t h), fun c h => b.thr c (a.thr c h), fun c e h => b.die c e (a.die c e h), fun d h => b.tab (fun c e => a.die c e (d c e)) (a.tab d h)⟩
theorem Ok.ev (k : Ok z H) (e : Ev z H H') : Ok z H' := ⟨fun a q => e.die a q (k.die a q), fun a q => e.thr a (k.there a q), e.tab k.die k.tabs⟩
theorem Ok.new {p : Addr} (k : Ok z H) (h : H p = none) : ¬ z.n p := fun q => by
  obtain ⟨o, e, _⟩ := k.there p q
  rw [h] at e
  cases e
theorem Cz.nz {a : Addr} (h : ¬ z.n a) : z.z ≠ some a := fun q => h (z.no a q)
theorem Cz.nw {a : Addr} (h : ¬ z.n a) : ¬ z.o a := fun q => h (z.on a q)
theorem Ok.nz {a : Addr} (k : Ok z H) (h : ¬ z.n a) : z.z ≠ some a := Cz.nz h
theorem Ev.same (s : ∀ a o, H a = some o → H' a = some o) : Ev z H H' := ⟨fun a o _ _ _ e => s a o e, fun a ⟨o, e, t⟩ => ⟨o, s a o e, t⟩, fun a _ ⟨i, j, l, q⟩ => ⟨i, j, l, s _ _ q⟩, fun _ h => h.ext s⟩
theorem Ev.new {p : Addr} {o : HO} (h : H p = none) : Ev z H (upd H p o) := Ev.same fun a u e => by
  rw [upd_ne (ne_of_none e h)]
  exact e
theorem tpA_ev {a : Addr} {vs : List V} (h : TpA K z H a vs) (e : Ev z H H') : TpA K z H' a vs := h.elim (fun h => .inl ⟨e.keep _ _ (Cz.nz h.2) (Cz.nw h.2) (fun _ w => by cases w) h.1, h.2⟩) .inr
theorem scA_ev {a : Addr} {ns : List Int} (h : ScA K z H a ns) (e : Ev z H H') : ScA K z H' a ns := h.elim (fun h => .inl ⟨h.1.elim (fun q => .inl (e.keep _ _ (Cz.nz h.2) (Cz.nw h.2) (fun _ w => by cases w) q)) (fun ⟨o, q⟩ => .inr ⟨o, e.keep _ _ (Cz.nz h.2) (Cz.nw h.2) (fun _ w => by cases w) q⟩), h.2⟩) .inr
mutual
theorem Rp.evn (e : Ev z H H') : ∀ {d : D} {v : V}, Rp K z H v d → Rp K z H' v d
  | .non, _, h => by cases h; exact .non
  | .bl b, _, h => by cases h; exact .bl b
  | .int i, _, h => by cases h; exact .int i
  | .str x, _, h => by cases h; exact .str x
  | .tup ds, _, h => by
    cases h with
    | tup a q => exact .tup (tpA_ev a e) (RpAll.evn e q)
  | .lst ds, _, h => by
    cases h with
    | lst a n q => exact .lst (e.keep _ _ (Cz.nz n) (Cz.nw n) (fun _ w => by cases w) a) n (RpAll.evn e q)
  | .ins C ks ds, _, h => by
    cases h with
    | ins a n l q => exact .ins (e.keep _ _ (Cz.nz n) (Cz.nw n) (fun _ w => by cases w) a) n l (RpAll.evn e q)
  | .dic ks ds, _, h => by
    cases h with
    | dic a n l q => exact .dic (e.keep _ _ (Cz.nz n) (Cz.nw n) (fun _ w => by cases w) a) n l (RpAll.evn e q)
  | .die, _, h => by
    cases h with
    | die a => exact .die a
  | .raw v, _, h => by cases h; exact .raw v
  | .scr ns, _, h => by
    cases h with
    | scr a => exact .scr (scA_ev a e)
theorem RpAll.evn (e : Ev z H H') : ∀ {ds : List D} {vs : List V}, RpAll K z H vs ds → RpAll K z H' vs ds
  | [], _, h => by cases h; exact .nil
  | d :: ds, _, h => by
    cases h with
    | cons a b => exact .cons (Rp.evn e a) (RpAll.evn e b)
end
theorem Rp.ev {d : D} {v : V} (r : Rp K z H v d) (k : Ok z H) (e : Ev z H H') : Rp K z H' v d := Rp.evn e r
theorem RpAll.ev {ds : List D} {vs : List V} (r : RpAll K z H vs ds) (k : Ok z H) (e : Ev z H H') : RpAll K z H' vs ds := RpAll.evn e r
mutual
/-- another context: what matters is what no data reach -/
theorem Rp.re {y : Cz K} (zz : y.z = z.z) (w : ∀ a, There H a → ¬ z.n a → ¬ y.n a) : ∀ {d : D} {v : V}, Rp K z H v d → Rp K y H v d
  | .non, _, h => by cases h; exact .non
  | .bl b, _, h => by cases h; exact .bl b
  | .int i, _, h => by cases h; exact .int i
  | .str x, _, h => by cases h; exact .str x
  | .tup ds, _, h => by
    cases h with
    | tup a q => exact .tup (a.elim (fun h => .inl ⟨h.1, w _ ⟨_, h.1, fun _ q => (by cases q)⟩ h.2⟩) .inr) (RpAll.re zz w q)
  | .lst ds, _, h => by
    cases h with
    | lst a n q => exact .lst a (w _ ⟨_, a, fun _ q => (by cases q)⟩ n) (RpAll.re zz w q)
  | .ins C ks ds, _, h => by
    cases h with
    | ins a n l q => exact .ins a (w _ ⟨_, a, fun _ q => (by cases q)⟩ n) l (RpAll.re zz w q)
  | .dic ks ds, _, h => by
    cases h with
    | dic a n l q => exact .dic a (w _ ⟨_, a, fun _ q => (by cases q)⟩ n) l (RpAll.re zz w q)
  | .die, _, h => by
    cases h with
    | die a => exact .die (zz.trans a)
  | .raw v, _, h => by cases h; exact .raw v
  | .scr ns, _, h => by
    cases h with
    | scr a => exact .scr (a.elim (fun h => .inl ⟨h.1, w _ (rd_there h.1) h.2⟩) .inr)
theorem RpAll.re {y : Cz K} (zz : y.z = z.z) (w : ∀ a, There H a → ¬ z.n a → ¬ y.n a) : ∀ {ds : List D} {vs : List V}, RpAll K z H vs ds → RpAll K y H vs ds
  | [], _, h => by cases h; exact .nil
  | d :: ds, _, h => by
    cases h with
    | cons a b => exact .cons (Rp.re zz w a) (RpAll.re zz w b)
end
mutual
/-- a write at an address that no data reach -/
theorem Rp.wr {p : Addr} {o : HO} (hp : z.n p) : ∀ {d : D} {v : V}, Rp K z H v d → Rp K z (upd H p o) v d
  | .non, _, h => by cases h; exact .non
  | .bl b, _, h => by cases h; exact .bl b
  | .int i, _, h => by cases h; exact .int i
  | .str x, _, h => by cases h; exact .str x
  | .tup ds, _, h => by
    cases h with
    | tup a q => exact .tup (a.elim (fun h => .inl ⟨by rw [upd_ne (fun e => h.2 (by rw [e]; exact hp))]; exact h.1, h.2⟩) .inr) (RpAll.wr hp q)
  | .lst ds, _, h => by
    cases h with
    | lst a n q => exact .lst (by rw [upd_ne (fun e => n (by rw [e]; exact hp))]; exact a) n (RpAll.wr hp q)
  | .ins C ks ds, _, h => by
    cases h with
    | ins a n l q => exact .ins (by rw [upd_ne (fun e => n (by rw [e]; exact hp))]; exact a) n l (RpAll.wr hp q)
  | .dic ks ds, _, h => by
    cases h with
    | dic a n l q => exact .dic (by rw [upd_ne (fun e => n (by rw [e]; exact hp))]; exact a) n l (RpAll.wr hp q)
  | .die, _, h => by
    cases h with
    | die a => exact .die a
  | .raw v, _, h => by cases h; exact .raw v
  | .scr ns, _, h => by
    cases h with
    | scr a =>
      refine .scr (a.elim (fun h => .inl ⟨?_, h.2⟩) .inr)
      unfold Rd
      rw [upd_ne (fun e => h.2 (by rw [e]; exact hp))]
      exact h.1
theorem RpAll.wr {p : Addr} {o : HO} (hp : z.n p) : ∀ {ds : List D} {vs : List V}, RpAll K z H vs ds → RpAll K z (upd H p o) vs ds
  | [], _, h => by cases h; exact .nil
  | d :: ds, _, h => by
    cases h with
    | cons a b => exact .cons (Rp.wr hp a) (RpAll.wr hp b)
end
theorem RpAll.len : ∀ {vs : List V} {ds : List D}, RpAll K z H vs ds → vs.length = ds.length
  | [], [], _ => rfl
  | [], _ :: _, h => by cases h
  | _ :: _, [], h => by cases h
  | _ :: _, _ :: _, h => by
    cases h with
    | cons a b => simp [RpAll.len b]
theorem RpAll.get : ∀ {vs : List V} {ds : List D} {i : Nat} {v : V}, RpAll K z H vs ds → vs[i]? = some v → ∃ d, ds[i]? = some d ∧ Rp K z H v d
  | [], _, i, v, _, e => by simp at e
  | _ :: _, [], _, _, h, _ => by cases h
  | _ :: _, d :: _, 0, v, h, e => by
    cases h with
    | cons a b =>
      simp at e
      subst e
      exact ⟨d, rfl, a⟩
  | _ :: _, _ :: _, i + 1, v, h, e => by
    cases h with
    | cons a b =>
      obtain ⟨d, q, r⟩ := RpAll.get (i := i) b (by simpa using e)
      exact ⟨d, by simpa using q, r⟩
theorem RpAll.getD : ∀ {vs : List V} {ds : List D} {i : Nat} {d : D}, RpAll K z H vs ds → ds[i]? = some d → ∃ v, vs[i]? = some v ∧ Rp K z H v d
  | _, [], i, v, _, e => by simp at e
  | [], _ :: _, _, _, h, _ => by cases h
  | v :: _, _ :: _, 0, d, h, e => by
    cases h with
    | cons a b =>
      simp at e
      subst e
      exact ⟨v, rfl, a⟩
  | _ :: _, _ :: _, i + 1, d, h, e => by
    cases h with
    | cons a b =>
      obtain ⟨d, q, r⟩ := RpAll.getD (i := i) b (by simpa using e)
      exact ⟨d, by simpa using q, r⟩
theorem RpAll.app : ∀ {vs ws : List V} {ds es : List D}, RpAll K z H vs ds → RpAll K z H ws es → RpAll K z H (vs ++ ws) (ds ++ es)
  | [], _, [], _, _, b => b
  | [], _, _ :: _, _, h, _ => by cases h
  | _ :: _, _, [], _, h, _ => by cases h
  | _ :: _, _, _ :: _, _, h, b => by
    cases h with
    | cons p q => exact .cons p (RpAll.app q b)
theorem RpAll.take : ∀ (n : Nat) {vs : List V} {ds : List D}, RpAll K z H vs ds → RpAll K z H (vs.take n) (ds.take n)
  | 0, _, _, _ => .nil
  | _ + 1, [], [], _ => .nil
  | _ + 1, [], _ :: _, h => by cases h
  | _ + 1, _ :: _, [], h => by cases h
  | n + 1, _ :: _, _ :: _, h => by
    cases h with
    | cons p q => exact .cons p (RpAll.take n q)
theorem RpAll.drop : ∀ (n : Nat) {vs : List V} {ds : List D}, RpAll K z H vs ds → RpAll K z H (vs.drop n) (ds.drop n)
  | 0, _, _, h => h
  | _ + 1, [], [], _ => .nil
  | _ + 1, [], _ :: _, h => by cases h
  | _ + 1, _ :: _, [], h => by cases h
  | n + 1, _ :: _, _ :: _, h => by
    cases h with
    | cons p q => exact RpAll.drop n q
theorem RpAll.one {v : V} {d : D} (h : Rp K z H v d) : RpAll K z H [v] [d] := .cons h .nil
theorem RpAll.strs : ∀ (xs : List Str), RpAll K z H (xs.map V.str) (xs.map D.str)
  | [] => .nil
  | x :: xs => .cons (.str x) (RpAll.strs xs)
theorem RpAll.ints : ∀ (xs : List Int), RpAll K z H (xs.map V.int) (xs.map D.int)
  | [] => .nil
  | x :: xs => .cons (.int x) (RpAll.ints xs)
theorem RpAll.of_strs : ∀ {vs : List V} {xs : List Str}, RpAll K z H vs (xs.map D.str) → vs = xs.map V.str
  | [], [], _ => rfl
  | [], _ :: _, h => by cases h
  | _ :: _, [], h => by cases h
  | _ :: _, _ :: _, h => by
    cases h with
    | cons a b =>
      cases a
      rw [RpAll.of_strs b]
      rfl
theorem RpAll.of_bls : ∀ {vs : List V} {xs : List Bool}, RpAll K z H vs (xs.map D.bl) → vs = xs.map V.bl
  | [], [], _ => rfl
  | [], _ :: _, h => by cases h
  | _ :: _, [], h => by cases h
  | _ :: _, _ :: _, h => by
    cases h with
    | cons a b =>
      cases a
      rw [RpAll.of_bls b]
      rfl
theorem RpAll.of_ints : ∀ {vs : List V} {xs : List Int}, RpAll K z H vs (xs.map D.int) → vs = xs.map V.int
  | [], [], _ => rfl
  | [], _ :: _, h => by cases h
  | _ :: _, [], h => by cases h
  | _ :: _, _ :: _, h => by
    cases h with
    | cons a b =>
      cases a
      rw [RpAll.of_ints b]
      rfl
end

/-! ### slots -/
abbrev DS := List (Option D)
structure Sl (K : PySem.W.Frag) (z : Cz K) (H : Hp) (σ : L2.St) (δ : DS) : Prop where
  len : σ.length = δ.length
  get : ∀ (i : Nat) (d : D), δ[i]? = some (some d) → ∃ v, σ[i]? = some (some v) ∧ Rp K z H v d
section
variable {K : PySem.W.Frag} {z : Cz K} {H H' : Hp} {σ : L2.St} {δ : DS}
theorem Sl.ev (s : Sl K z H σ δ) (k : Ok z H) (e : Ev z H H') : Sl K z H' σ δ := ⟨s.len, fun i d h => by
  obtain ⟨v, a, b⟩ := s.get i d h
  exact ⟨v, a, b.ev k e⟩⟩
theorem Sl.set {v : V} {d : D} (s : Sl K z H σ δ) (r : Rp K z H v d) (i : Nat) : Sl K z H (σ.set i (some v)) (δ.set i (some d)) := by
  refine ⟨by simp [s.len], fun j c h => ?_⟩
  by_cases hj : i = j
  · subst hj
    have hl : i < δ.length := by
      have := (List.getElem?_eq_some_iff.mp h).1
      simpa using this
    rw [List.getElem?_set_self hl] at h
    cases h
    exact ⟨v, List.getElem?_set_self (by rw [s.len]; exact hl), r⟩
  · rw [List.getElem?_set_ne hj] at h
    obtain ⟨w, a, b⟩ := s.get j c h
    exact ⟨w, by rw [List.getElem?_set_ne hj]; exact a, b⟩
theorem Sl.clear (s : Sl K z H σ δ) (i : Nat) : Sl K z H (σ.set i none) (δ.set i none) := by
  refine ⟨by simp [s.len], fun j c h => ?_⟩
  by_cases hj : i = j
  · subst hj
    by_cases hl : i < δ.length
    · rw [List.getElem?_set_self hl] at h
      cases h
    · rw [List.getElem?_eq_none (by simpa using hl)] at h
      cases h
  · rw [List.getElem?_set_ne hj] at h
    obtain ⟨w, a, b⟩ := s.get j c h
    exact ⟨w, by rw [List.getElem?_set_ne hj]; exact a, b⟩
def wipeD (δ : DS) : List Nat → DS
  | [] => δ
  | v :: vs => (wipeD δ vs).set v none
theorem Sl.wipe (s : Sl K z H σ δ) : ∀ vs : List Nat, Sl K z H (L2.wipe σ vs) (wipeD δ vs)
  | [] => s
  | v :: vs => (Sl.wipe s vs).clear v
end
def startD (n : Nat) (ds : List D) : DS := ds.map some ++ List.replicate (n - ds.length) none
theorem Sl.start {K : PySem.W.Frag} {z : Cz K} {H : Hp} {N : List Str} {vs : List V} {ds : List D} (r : RpAll K z H vs ds) : Sl K z H (L2.start N vs) (startD N.length ds) := by
  have hl := r.len
  refine ⟨by simp [L2.start, startD, hl], fun i d h => ?_⟩
  unfold startD at h
  unfold L2.start
  by_cases hi : i < ds.length
  · rw [List.getElem?_append_left (by simpa using hi), List.getElem?_map] at h
    cases q : ds[i]? with
    | none => rw [q] at h; cases h
    | some e =>
      rw [q] at h
      cases h
      obtain ⟨v, a, b⟩ := r.getD q
      refine ⟨v, ?_, b⟩
      rw [List.getElem?_append_left (by simpa [hl] using hi), List.getElem?_map, a]
      rfl
  · rw [List.getElem?_append_right (by simpa using hi)] at h
    rw [List.getElem?_replicate] at h
    split at h <;> cases h

/-! ### exceptions, readings over data -/
/-- an exception: its class, its fields (of an own class with fields) -/
inductive XD where
  | own (C : Addr)
  | fld (C : Addr) (ks : List Str) (ds : List D)
inductive Xr (K : PySem.W.Frag) (z : Cz K) (H : Hp) : Value → Option Addr → XD → Prop
  | own (C : Addr) : Xr K z H (.ref C) none (.own C)
  | fld {C a : Addr} {ks : List Str} {vs : List V} {ds : List D} : H a = some (.xd (ks.zip vs)) → ks.length = vs.length → RpAll K z H vs ds → Xr K z H (.ref C) (some a) (.fld C ks ds)

abbrev PQ := D → Prop
abbrev XQ := XD → Prop
abbrev DW := PQ → XQ → Prop
abbrev DE := DS → DW
abbrev DT := DS → (Bool → Prop) → XQ → Prop
abbrev DA := DS → (List D → Prop) → XQ → Prop
/-- what is wished behind a value; behind an exception -/
def Kq (K : PySem.W.Frag) (z : Cz K) (H : Hp) (P : PQ) (Q : VK) : Prop := ∀ d v H', P d → Ev z H H' → Rp K z H' v d → Q v H'
def Kx (K : PySem.W.Frag) (z : Cz K) (H : Hp) (σ : L2.St) (E : XQ) (W : WX) : Prop := ∀ x c dd H', E x → Ev z H H' → Xr K z H' c dd x → W c dd σ H'
def up (K : PySem.W.Frag) (W : WX) (f : DE) : TE := fun σ H Q => ∃ z δ P E, Ok z H ∧ Sl K z H σ δ ∧ f δ P E ∧ Kq K z H P Q ∧ Kx K z H σ E W
def upT (K : PySem.W.Frag) (W : WX) (f : DT) : TT := fun σ H Q => ∃ z δ P E, Ok z H ∧ Sl K z H σ δ ∧ f δ P E ∧ (∀ b H', P b → Ev z H H' → Q b H') ∧ Kx K z H σ E W
def upA (K : PySem.W.Frag) (W : WX) (f : DA) : TA := fun σ H Q => ∃ z δ P E, Ok z H ∧ Sl K z H σ δ ∧ f δ P E ∧ (∀ ds vs H', P ds → Ev z H H' → RpAll K z H' vs ds → Q vs H') ∧ Kx K z H σ E W
section
variable {K : PySem.W.Frag} {z : Cz K} {H H' : Hp} {σ : L2.St} {P : PQ} {Q : VK} {E : XQ} {W : WX}
theorem Kq.ev (k : Kq K z H P Q) (e : Ev z H H') : Kq K z H' P Q := fun d v H'' p e' r => k d v H'' p (e.trans e') r
theorem Kx.ev (k : Kx K z H σ E W) (e : Ev z H H') : Kx K z H' σ E W := fun x c dd H'' p e' r => k x c dd H'' p (e.trans e') r
end
section
variable {X : Cx} {e : Expr}
theorem PE_imp {t t' : TE} (h : PE X e t) (hi : ∀ σ H Q, t' σ H Q → t σ H Q) : PE X e t' := ⟨fun pins s σ H Q I q => h.run pins s σ H Q I (hi σ H Q q)⟩
theorem PT_imp {t t' : TT} (h : PT X e t) (hi : ∀ σ H Q, t' σ H Q → t σ H Q) : PT X e t' := ⟨fun pins s σ H Q I q => h.run pins s σ H Q I (hi σ H Q q)⟩
theorem PW_imp {t t' : TT} (h : PW X e t) (hi : ∀ σ H Q, t' σ H Q → t σ H Q) : PW X e t' := ⟨fun wh pins s σ H Q I q => h.run wh pins s σ H Q I (hi σ H Q q)⟩
theorem PA_imp {es : List Expr} {t t' : TA} (h : PA X es t) (hi : ∀ σ H Q, t' σ H Q → t σ H Q) : PA X es t' := ⟨fun pos pins s σ H Q I q => h.run pos pins s σ H Q I (hi σ H Q q)⟩
theorem PS_imp {st : Stmt} {t t' : TS} (h : PS X st t) (hi : ∀ T σ H, t' T σ H → t T σ H) : PS X st t' := ⟨fun pins s σ H T I q => h.run pins s σ H T I (hi T σ H q)⟩
theorem PSs_imp {st : List Stmt} {t t' : TS} (h : PSs X st t) (hi : ∀ T σ H, t' T σ H → t T σ H) : PSs X st t' := ⟨fun pins s σ H T I q => h.run pins s σ H T I (hi T σ H q)⟩
end

/-! ### names, constants -/
def dVar (i : Nat) : DE := fun δ P _ => match δ[i]? with
  | some (some d) => P d
  | _ => False
def dC (d : D) : DE := fun _ P _ => P d
section
variable {X : Cx} {W : WX} {e : Expr}
theorem pd_var {i : Nat} (h : PE X e (tVar i)) : PE X e (up X.K W (dVar i)) := by
  refine PE_imp h fun σ H Q ⟨z, δ, P, E, ok, sl, hf, kq, kx⟩ => ?_
  unfold dVar at hf
  split at hf
  · rename_i d q
    obtain ⟨v, a, b⟩ := sl.get i d q
    exact ⟨v, a, kq d v H hf .refl b⟩
  · exact hf.elim
theorem pd_c {v : V} {d : D} (r : ∀ z H, Rp X.K z H v d) (h : PE X e (tC v)) : PE X e (up X.K W (dC d)) :=
  PE_imp h fun σ H Q ⟨z, δ, P, E, ok, sl, hf, kq, kx⟩ => kq d v H hf .refl (r z H)
theorem pd_int {i : Int} {j : Nat} {pos : Pos} : PE X (.Constant (.int i) j pos) (up X.K W (dC (.int i))) := pd_c (fun _ _ => .int i) pe_int
theorem pd_str {x : Str} {j : Nat} {pos : Pos} : PE X (.Constant (.str x) j pos) (up X.K W (dC (.str x))) := pd_c (fun _ _ => .str x) pe_str
theorem pd_bl {b : Bool} {j : Nat} {pos : Pos} : PE X (.Constant (.bool b) j pos) (up X.K W (dC (.bl b))) := pd_c (fun _ _ => .bl b) pe_bl
theorem pd_non {j : Nat} {pos : Pos} : PE X (.Constant .none j pos) (up X.K W (dC .non)) := pd_c (fun _ _ => .non) pe_non
/-- a module's constant, by its value -/
theorem pd_glob {x : Str} {v : V} {d : D} {pos : Pos} (hg : Gl X x) (hm : ∃ u, X.mg x = some u ∧ RelV v u) (r : ∀ z H, Rp X.K z H v d) (hd : (x == ("__debug__" : Str)) = false := by decide) : PE X (.Name x pos) (up X.K W (dC d)) := by
  obtain ⟨u, a, b⟩ := hm
  exact pd_c r (pe_glob hg a b hd)
end

/-! ### operators on two values -/
/-- a rule over V answers a rule over data -/
def OpD (K : PySem.W.Frag) (r : R2) (op : D → D → PQ → Prop) : Prop := ∀ z H v u x y P Q, Ok z H → Rp K z H v x → Rp K z H u y → op x y P → Kq K z H P Q → r v u H Q
def dBin (op : D → D → PQ → Prop) (fa fb : DE) : DE := fun δ P E => fa δ (fun x => fb δ (fun y => op x y P) E) E
section
variable {X : Cx} {W : WX} {a b : Expr} {fa fb : DE} {op : D → D → PQ → Prop} {r : R2} {pos : Pos}
/-- two in a row -/
theorem two_up {z : Cz X.K} {δ : DS} {E : XQ} {σ : L2.St} {H : Hp} {R : V → V → Hp → Prop} {P2 : D → D → Prop} (ok : Ok z H) (sl : Sl X.K z H σ δ) (kx : Kx X.K z H σ E W) (h : fa δ (fun x => fb δ (fun y => P2 x y) E) E)
    (hR : ∀ x y v u H2, P2 x y → Ev z H H2 → Ok z H2 → Rp X.K z H2 v x → Rp X.K z H2 u y → R v u H2) : up X.K W fa σ H fun v H1 => up X.K W fb σ H1 fun u H2 => R v u H2 := by
  refine ⟨z, δ, _, E, ok, sl, h, fun x v H1 hb e1 r1 => ?_, kx⟩
  refine ⟨z, δ, _, E, ok.ev e1, sl.ev ok e1, hb, fun y u H2 p e2 r2 => ?_, kx.ev e1⟩
  exact hR x y v u H2 p (e1.trans e2) ((ok.ev e1).ev e2) (r1.ev (ok.ev e1) e2) r2
theorem pd_op {o : Operator} (ho : OpR X (binaryOp o) r) (hd : OpD X.K r op) (ha : PE X a (up X.K W fa)) (hb : PE X b (up X.K W fb)) : PE X (.BinOp a o b pos) (up X.K W (dBin op fa fb)) := by
  refine PE_imp (pe_op ho ha hb) fun σ H Q ⟨z, δ, P, E, ok, sl, hf, kq, kx⟩ => ?_
  exact two_up (P2 := fun x y => op x y P) ok sl kx hf fun x y v u H2 p e o2 r1 r2 => hd z H2 v u x y P Q o2 r1 r2 p (kq.ev e)
theorem pd_cmp {o : CmpOp} (ho : OpR X (compareOp o) r) (hd : OpD X.K r op) (ha : PE X a (up X.K W fa)) (hb : PE X b (up X.K W fb)) (hm : behindInMarks o b = false) : PE X (.Compare a [o] [b] pos) (up X.K W (dBin op fa fb)) := by
  refine PE_imp (pe_cmpR ho ha hb hm) fun σ H Q ⟨z, δ, P, E, ok, sl, hf, kq, kx⟩ => ?_
  exact two_up (P2 := fun x y => op x y P) ok sl kx hf fun x y v u H2 p e o2 r1 r2 => hd z H2 v u x y P Q o2 r1 r2 p (kq.ev e)
def dCmpT (op : D → D → PQ → Prop) (fa fb : DE) : DT := fun δ P E => dBin op fa fb δ (fun d => ∃ c, d = .bl c ∧ P c) E
theorem pdt_cmp {o : CmpOp} (ho : OpR X (compareOp o) r) (hd : OpD X.K r op) (ha : PE X a (up X.K W fa)) (hb : PE X b (up X.K W fb)) (hm : behindInMarks o b = false) : PT X (.Compare a [o] [b] pos) (upT X.K W (dCmpT op fa fb)) := by
  refine PT_imp (pt_cmpR ho ha hb hm) fun σ H Q ⟨z, δ, P, E, ok, sl, hf, kq, kx⟩ => ?_
  refine two_up (P2 := fun x y => op x y _) ok sl kx hf fun x y v u H2 p e o2 r1 r2 => hd z H2 v u x y _ _ o2 r1 r2 p fun d w H3 hp e3 r3 => ?_
  obtain ⟨c, rfl, hc⟩ := hp
  cases r3
  exact ⟨c, rfl, kq c H3 hc (e.trans e3)⟩
/-- a test whose value is a bool -/
def dBoolT (f : DE) : DT := fun δ P E => f δ (fun d => ∃ c, d = .bl c ∧ P c) E
theorem pdt_val {e : Expr} {f : DE} (h : PE X e (up X.K W f)) (he : ∀ whole, isTrue e X.env whole = (do let v ← whole; standAt e.pos; holding [v] (truthy v)) := by intro _; rfl) : PT X e (upT X.K W (dBoolT f)) := by
  refine PT_imp (pt_val h he) fun σ H Q ⟨z, δ, P, E, ok, sl, hf, kq, kx⟩ => ?_
  refine ⟨z, δ, _, E, ok, sl, hf, fun d w H3 hp e3 r3 => ?_, kx⟩
  obtain ⟨c, rfl, hc⟩ := hp
  cases r3
  exact ⟨c, rfl, kq c H3 hc e3⟩
end

/-! ### and, or, not, if-else -/
def dNotT (f : DT) : DT := fun δ P E => f δ (fun c => P (!c)) E
def dAndT (f g : DT) : DT := fun δ P E => f δ (fun c => if c = true then g δ P E else P false) E
def dOrT (f g : DT) : DT := fun δ P E => f δ (fun c => if c = true then P true else g δ P E) E
def dAnd (f g : DE) : DE := fun δ P E => f δ (fun d => ∃ c, d = .bl c ∧ if c = true then g δ P E else P (.bl false)) E
def dOr (f g : DE) : DE := fun δ P E => f δ (fun d => ∃ c, d = .bl c ∧ if c = true then P (.bl true) else g δ P E) E
def dNot (f : DE) : DE := fun δ P E => f δ (fun d => ∃ c, d = .bl c ∧ P (.bl (!c))) E
def dIf (t : DT) (f g : DE) : DE := fun δ P E => t δ (fun c => if c = true then f δ P E else g δ P E) E
section
variable {X : Cx} {W : WX} {a b c : Expr} {rest : List Expr} {fa fb : DT} {f g : DE} {pos : Pos}
theorem pdt_not (ha : PT X a (upT X.K W fa)) : PT X (.UnaryOp .Not a pos) (upT X.K W (dNotT fa)) := by
  refine PT_imp (pt_not ha) fun σ H Q ⟨z, δ, P, E, ok, sl, hf, kq, kx⟩ => ?_
  exact ⟨z, δ, _, E, ok, sl, hf, fun c H' p e => kq (!c) H' p e, kx⟩
theorem pdw_and1 (ha : PT X a (upT X.K W fa)) : PW X (.BoolOp .And [a] pos) (upT X.K W fa) := pw_and1 ha
theorem pdw_or1 (ha : PT X a (upT X.K W fa)) : PW X (.BoolOp .Or [a] pos) (upT X.K W fa) := pw_or1 ha
theorem pdw_and (ha : PT X a (upT X.K W fa)) (hb : PW X (.BoolOp .And (b :: rest) pos) (upT X.K W fb)) : PW X (.BoolOp .And (a :: b :: rest) pos) (upT X.K W (dAndT fa fb)) := by
  refine PW_imp (pw_and ha hb) fun σ H Q ⟨z, δ, P, E, ok, sl, hf, kq, kx⟩ => ?_
  refine ⟨z, δ, _, E, ok, sl, hf, fun c H' p e => ?_, kx⟩
  by_cases hc : c = true
  · rw [if_pos hc] at p ⊢
    exact ⟨z, δ, _, E, ok.ev e, sl.ev ok e, p, fun b H2 q e2 => kq b H2 q (e.trans e2), kx.ev e⟩
  · rw [if_neg hc] at p ⊢
    exact kq false H' p e
theorem pdw_or (ha : PT X a (upT X.K W fa)) (hb : PW X (.BoolOp .Or (b :: rest) pos) (upT X.K W fb)) : PW X (.BoolOp .Or (a :: b :: rest) pos) (upT X.K W (dOrT fa fb)) := by
  refine PW_imp (pw_or ha hb) fun σ H Q ⟨z, δ, P, E, ok, sl, hf, kq, kx⟩ => ?_
  refine ⟨z, δ, _, E, ok, sl, hf, fun c H' p e => ?_, kx⟩
  by_cases hc : c = true
  · rw [if_pos hc] at p ⊢
    exact kq true H' p e
  · rw [if_neg hc] at p ⊢
    exact ⟨z, δ, _, E, ok.ev e, sl.ev ok e, p, fun b H2 q e2 => kq b H2 q (e.trans e2), kx.ev e⟩
theorem pd_one {op : BoolOp} {e : DE} (h : PE X a (up X.K W e)) : PE X (.BoolOp op [a] pos) (up X.K W e) := pe_one h
theorem pd_and (ha : PE X a (up X.K W f)) (hb : PE X (.BoolOp .And (b :: rest) pos) (up X.K W g)) : PE X (.BoolOp .And (a :: b :: rest) pos) (up X.K W (dAnd f g)) := by
  refine PE_imp (pe_and ha hb) fun σ H Q ⟨z, δ, P, E, ok, sl, hf, kq, kx⟩ => ?_
  refine ⟨z, δ, _, E, ok, sl, hf, fun d v H' p e r => ?_, kx⟩
  obtain ⟨c, rfl, p⟩ := p
  cases r
  refine ⟨c, rfl, ?_⟩
  by_cases hc : c = true
  · rw [if_pos hc] at p ⊢
    exact ⟨z, δ, _, E, ok.ev e, sl.ev ok e, p, kq.ev e, kx.ev e⟩
  · rw [if_neg hc] at p ⊢
    exact kq _ _ H' p e (.bl _)
theorem pd_or (ha : PE X a (up X.K W f)) (hb : PE X (.BoolOp .Or (b :: rest) pos) (up X.K W g)) : PE X (.BoolOp .Or (a :: b :: rest) pos) (up X.K W (dOr f g)) := by
  refine PE_imp (pe_or ha hb) fun σ H Q ⟨z, δ, P, E, ok, sl, hf, kq, kx⟩ => ?_
  refine ⟨z, δ, _, E, ok, sl, hf, fun d v H' p e r => ?_, kx⟩
  obtain ⟨c, rfl, p⟩ := p
  cases r
  refine ⟨c, rfl, ?_⟩
  by_cases hc : c = true
  · rw [if_pos hc] at p ⊢
    exact kq _ _ H' p e (.bl _)
  · rw [if_neg hc] at p ⊢
    exact ⟨z, δ, _, E, ok.ev e, sl.ev ok e, p, kq.ev e, kx.ev e⟩
theorem pd_not (ha : PE X a (up X.K W f)) : PE X (.UnaryOp .Not a pos) (up X.K W (dNot f)) := by
  refine PE_imp (pe_not ha) fun σ H Q ⟨z, δ, P, E, ok, sl, hf, kq, kx⟩ => ?_
  refine ⟨z, δ, _, E, ok, sl, hf, fun d v H' p e r => ?_, kx⟩
  obtain ⟨c, rfl, p⟩ := p
  cases r
  exact ⟨c, rfl, kq _ _ H' p e (.bl _)⟩
theorem pd_if (hc : PT X c (upT X.K W fa)) (ha : PE X a (up X.K W f)) (hb : PE X b (up X.K W g)) : PE X (.IfExp c a b pos) (up X.K W (dIf fa f g)) := by
  refine PE_imp (pe_ifExp hc ha hb) fun σ H Q ⟨z, δ, P, E, ok, sl, hf, kq, kx⟩ => ?_
  refine ⟨z, δ, _, E, ok, sl, hf, fun c H' p e => ?_, kx⟩
  by_cases hc : c = true
  · rw [if_pos hc] at p ⊢
    exact ⟨z, δ, _, E, ok.ev e, sl.ev ok e, p, kq.ev e, kx.ev e⟩
  · rw [if_neg hc] at p ⊢
    exact ⟨z, δ, _, E, ok.ev e, sl.ev ok e, p, kq.ev e, kx.ev e⟩
end

/-! ### argument lists, displays -/
def dNil : DA := fun _ P _ => P []
def dCons (f : DE) (g : DA) : DA := fun δ P E => f δ (fun d => g δ (fun ds => P (d :: ds)) E) E
def dTup (g : DA) : DE := fun δ P E => g δ (fun ds => ds.length ≤ sizeLine ∧ P (.tup ds)) E
def dLst (g : DA) : DE := fun δ P E => g δ (fun ds => ds.length ≤ sizeLine ∧ P (.lst ds)) E
section
variable {X : Cx} {W : WX} {e : Expr} {es : List Expr} {f : DE} {g : DA} {pos : Pos}
theorem pda_nil : PA X [] (upA X.K W dNil) := PA_imp pa_nil fun σ H Q ⟨z, δ, P, E, ok, sl, hf, kq, kx⟩ => kq [] [] H hf .refl .nil
theorem pda_cons (he : PE X e (up X.K W f)) (hr : PA X es (upA X.K W g)) (hs : starEach (e :: es) X.env = (false, eval e X.env) :: starEach es X.env := by rfl) : PA X (e :: es) (upA X.K W (dCons f g)) := by
  refine PA_imp (pa_cons he hr hs) fun σ H Q ⟨z, δ, P, E, ok, sl, hf, kq, kx⟩ => ?_
  refine ⟨z, δ, _, E, ok, sl, hf, fun d v H1 p e1 r1 => ?_, kx⟩
  refine ⟨z, δ, _, E, ok.ev e1, sl.ev ok e1, p, fun ds vs H2 p2 e2 r2 => ?_, kx.ev e1⟩
  exact kq (d :: ds) (v :: vs) H2 p2 (e1.trans e2) (.cons (r1.ev (ok.ev e1) e2) r2)
theorem pd_tup {k : Nat} (h : PA X es (upA X.K W g)) : PE X (.Tuple es k pos) (up X.K W (dTup g)) := by
  refine PE_imp (pe_tup h) fun σ H Q ⟨z, δ, P, E, ok, sl, hf, kq, kx⟩ => ?_
  refine ⟨z, δ, _, E, ok, sl, hf, fun ds vs H1 p e1 r1 => ⟨by rw [r1.len]; exact p.1, fun q hq => ?_⟩, kx⟩
  have ok1 := ok.ev e1
  exact kq _ _ _ p.2 (e1.trans (.new hq)) (.tup (.inl ⟨upd_same, ok1.new hq⟩) (r1.ev ok1 (.new hq)))
theorem pd_lst (h : PA X es (upA X.K W g)) : PE X (.List es pos) (up X.K W (dLst g)) := by
  refine PE_imp (pe_lst h) fun σ H Q ⟨z, δ, P, E, ok, sl, hf, kq, kx⟩ => ?_
  refine ⟨z, δ, _, E, ok, sl, hf, fun ds vs H1 p e1 r1 => ⟨by rw [r1.len]; exact p.1, fun q hq => ?_⟩, kx⟩
  have ok1 := ok.ev e1
  exact kq _ _ _ p.2 (e1.trans (.new hq)) (.lst upd_same (ok1.new hq) (r1.ev ok1 (.new hq)))
end
end DL

/-! The data layer, part 2: operators, comparisons, built-in calls, methods, subscripts. -/
namespace DL
open PySem PySem.Spec PyProof.Rows L2

/-! ### data as the library's own -/
mutual
def pyOf : D → Option PyData
  | .non => some .none
  | .bl b => some (.bool b)
  | .int i => some (.int i)
  | .str x => some (.str x)
  | .tup xs => (pyAll xs).map .tuple
  | .lst xs => (pyAll xs).map .list
  | .ins _ _ _ => none
  | .dic _ _ => none
  | .die => none
  | .raw _ => none
  | .scr _ => none
def pyAll : List D → Option (List PyData)
  | [] => some []
  | x :: xs => (pyOf x).bind fun a => (pyAll xs).map fun as => a :: as
end
section
variable {K : PySem.W.Frag} {c : Cz K} {H : Hp}
mutual
theorem Rp.dp : ∀ {d : D} {v : V} {e : PyData}, Rp K c H v d → pyOf d = some e → Dp K H v e
  | .non, _, _, h, q => by cases h; cases q; exact .non
  | .bl b, _, _, h, q => by cases h; cases q; exact .bl b
  | .int i, _, _, h, q => by cases h; cases q; exact .int i
  | .str x, _, _, h, q => by cases h; cases q; exact .str x
  | .tup ds, _, e, h, q => by
    cases h with
    | tup a r =>
      cases w : pyAll ds with
      | none => rw [pyOf, w] at q; cases q
      | some es =>
        rw [pyOf, w] at q
        cases q
        exact .tup a.sq (RpAll.dp r w)
  | .lst ds, _, e, h, q => by
    cases h with
    | lst a n r =>
      cases w : pyAll ds with
      | none => rw [pyOf, w] at q; cases q
      | some es =>
        rw [pyOf, w] at q
        cases q
        exact .lst (SqL.of a) (RpAll.dp r w)
  | .ins _ _ _, _, _, _, q => by cases q
  | .dic _ _, _, _, _, q => by cases q
  | .die, _, _, _, q => by cases q
  | .raw _, _, _, _, q => by cases q
  | .scr _, _, _, _, q => by cases q
theorem RpAll.dp : ∀ {ds : List D} {vs : List V} {es : List PyData}, RpAll K c H vs ds → pyAll ds = some es → DpAll K H vs es
  | [], _, _, h, q => by cases h; cases q; exact .nil
  | d :: ds, _, es, h, q => by
    cases h with
    | cons a b =>
      cases w : pyOf d with
      | none => rw [pyAll, w] at q; cases q
      | some p =>
        cases w2 : pyAll ds with
        | none => rw [pyAll, w, w2] at q; cases q
        | some ps =>
          rw [pyAll, w, w2] at q
          cases q
          exact .cons (Rp.dp a w) (RpAll.dp b w2)
end
/-- scalars -/
def vOf : D → Option V
  | .non => some .non
  | .bl b => some (.bl b)
  | .int i => some (.int i)
  | .str x => some (.str x)
  | .raw v => some v
  | _ => none
theorem Rp.v_of {d : D} {v u : V} (h : Rp K c H v d) (q : vOf d = some u) : v = u := by
  cases h <;> cases q <;> rfl
theorem RpAll.v_of : ∀ {ds : List D} {vs us : List V}, RpAll K c H vs ds → ds.map vOf = us.map some → vs = us
  | [], _, [], h, _ => by cases h; rfl
  | [], _, _ :: _, _, q => by cases q
  | _ :: _, _, [], _, q => by cases q
  | d :: ds, _, u :: us, h, q => by
    cases h with
    | cons a b =>
      simp only [List.map_cons, List.cons.injEq] at q
      rw [Rp.v_of a q.1, RpAll.v_of b q.2]
end

/-! ### == and != -/
def dEq (x y : D) (P : PQ) : Prop := (∃ v u, vOf x = some v ∧ vOf y = some u ∧ scal v u = true ∧ P (.bl (decide (v = u)))) ∨
  ∃ a b, pyOf x = some a ∧ pyOf y = some b ∧ SeqAt.shaped a = true ∧ SeqAt.shaped b = true ∧ P (.bl (PyData.eqv a b))
def dNe (x y : D) (P : PQ) : Prop := dEq x y fun d => ∃ b, d = .bl b ∧ P (.bl (!b))
def rEqU (K : PySem.W.Frag) : R2 := fun x y H Q => rEq x y H Q ∨ rEqD K x y H Q
def rNeU (K : PySem.W.Frag) : R2 := fun x y H Q => rNe x y H Q ∨ rNeD K x y H Q
section
variable {X : Cx} {k : Nat}
theorem op_eqU (hr : Room k X.A) : OpR X (compareOp .Eq) (rEqU X.K) := op_eq.or (op_eqD hr.units)
theorem op_neU (hr : Room k X.A) : OpR X (compareOp .NotEq) (rNeU X.K) := op_ne.or (op_neD hr.units)
theorem opd_eq {K : PySem.W.Frag} : OpD K (rEqU K) dEq := by
  intro z H v u x y P Q ok r1 r2 h kq
  rcases h with ⟨v', u', e1, e2, hs, p⟩ | ⟨a, b, e1, e2, s1, s2, p⟩
  · cases r1.v_of e1
    cases r2.v_of e2
    exact .inl ⟨hs, kq _ _ H p .refl (.bl _)⟩
  · exact .inr ⟨a, b, r1.dp e1, r2.dp e2, s1, s2, kq _ _ H p .refl (.bl _)⟩
theorem opd_ne {K : PySem.W.Frag} : OpD K (rNeU K) dNe := by
  intro z H v u x y P Q ok r1 r2 h kq
  rcases h with ⟨v', u', e1, e2, hs, b, e, p⟩ | ⟨a, b, e1, e2, s1, s2, b', e, p⟩
  · cases r1.v_of e1
    cases r2.v_of e2
    cases e
    exact .inl ⟨hs, kq _ _ H p .refl (.bl _)⟩
  · cases e
    exact .inr ⟨a, b, r1.dp e1, r2.dp e2, s1, s2, kq _ _ H p .refl (.bl _)⟩
end
theorem dEq_str {a b : Str} {P : PQ} (h : P (.bl (decide (a = b)))) : dEq (.str a) (.str b) P := .inl ⟨_, _, rfl, rfl, rfl, by
  have e : decide (V.str a = V.str b) = decide (a = b) := by
    rw [Bool.eq_iff_iff]
    simp
  rw [e]
  exact h⟩
theorem dEq_int {a b : Int} {P : PQ} (h : P (.bl (decide (a = b)))) : dEq (.int a) (.int b) P := .inl ⟨_, _, rfl, rfl, rfl, by
  have e : decide (V.int a = V.int b) = decide (a = b) := by
    rw [Bool.eq_iff_iff]
    simp
  rw [e]
  exact h⟩
theorem dNe_str {a b : Str} {P : PQ} (h : P (.bl (!decide (a = b)))) : dNe (.str a) (.str b) P := dEq_str ⟨_, rfl, h⟩
theorem dNe_int {a b : Int} {P : PQ} (h : P (.bl (!decide (a = b)))) : dNe (.int a) (.int b) P := dEq_int ⟨_, rfl, h⟩
theorem dEq_py {x y : D} {a b : PyData} {P : PQ} (h1 : pyOf x = some a) (h2 : pyOf y = some b) (s1 : SeqAt.shaped a = true) (s2 : SeqAt.shaped b = true) (h : P (.bl (PyData.eqv a b))) : dEq x y P := .inr ⟨a, b, h1, h2, s1, s2, h⟩
theorem dNe_py {x y : D} {a b : PyData} {P : PQ} (h1 : pyOf x = some a) (h2 : pyOf y = some b) (s1 : SeqAt.shaped a = true) (s2 : SeqAt.shaped b = true) (h : P (.bl (!PyData.eqv a b))) : dNe x y P := dEq_py h1 h2 s1 s2 ⟨_, rfl, h⟩

/-! ### +, -, *, %, //, ** -/
def dAdd : D → D → PQ → Prop
  | .int i, .int j, P => P (.int (i + j))
  | .str a, .str b, P => a.length + b.length ≤ sizeLine ∧ P (.str (a ++ b))
  | .tup a, .tup b, P => a.length + b.length ≤ sizeLine ∧ P (.tup (a ++ b))
  | .lst a, .lst b, P => a.length + b.length ≤ sizeLine ∧ P (.lst (a ++ b))
  | _, _, _ => False
def rAddU (K : PySem.W.Frag) : R2 := fun x y H Q => rI0 (fun i j => .int (i + j)) x y H Q ∨ ((∃ i j, x = .str i ∧ y = .str j ∧ i.length + j.length ≤ sizeLine ∧ Q (.str (i ++ j)) H) ∨ (rCatA K x y H Q ∨ rCat x y H Q))
def dSub : D → D → PQ → Prop
  | .int i, .int j, P => P (.int (i - j))
  | _, _, _ => False
def dMul : D → D → PQ → Prop
  | .int i, .int j, P => (CMul i j ∨ CMulW i j) ∧ P (.int (i * j))
  | .tup a, .int j, P => a ≠ [] ∧ 2 ≤ j ∧ j ≤ 1000 ∧ a.length ≤ 1000 ∧ P (.tup (List.replicate j.toNat a).flatten)
  | .lst a, .int j, P => -(2 ^ 63) ≤ j ∧ j < 2 ^ 63 ∧ a.length * j.toNat ≤ sizeLine ∧ P (.lst (List.replicate j.toNat a).flatten)
  | _, _, _ => False
def dMod : D → D → PQ → Prop
  | .int i, .int j, P => 0 < j ∧ P (.int (i % j))
  | _, _, _ => False
def dFdiv : D → D → PQ → Prop
  | .int i, .int j, P => CDivW i j ∧ P (.int (i / j))
  | _, _, _ => False
def dPow : D → D → PQ → Prop
  | .int i, .int j, P => CPow i j ∧ P (.int (i ^ j.toNat))
  | _, _, _ => False
section
variable {X : Cx} {K : PySem.W.Frag}
theorem op_addU : OpR X (binaryOp .Add) (rAddU X.K) := op_add.or (op_add_str.or (op_catA.or op_cat))
theorem opd_add : OpD K (rAddU K) dAdd := by
  intro z H v u x y P Q ok r1 r2 h kq
  cases x with
  | int i =>
    cases y with
    | int j =>
      cases r1
      cases r2
      exact .inl ⟨i, j, rfl, rfl, kq _ _ H h .refl (.int _)⟩
    | _ => exact h.elim
  | str a =>
    cases y with
    | str b =>
      cases r1
      cases r2
      exact .inr (.inl ⟨a, b, rfl, rfl, h.1, kq _ _ H h.2 .refl (.str _)⟩)
    | _ => exact h.elim
  | tup a =>
    cases y with
    | tup b =>
      cases r1 with
      | @tup p vs _ a1 q1 =>
        cases r2 with
        | @tup p2 us _ a2 q2 =>
          have l1 := q1.len
          have l2 := q2.len
          refine .inr (.inr (.inl ⟨p, p2, vs, us, rfl, rfl, a1.sq, a2.sq, by rw [l1, l2]; exact h.1, fun e => ?_, fun _ e => ?_, fun _ _ w hw => ?_⟩))
          · subst e
            have : a = [] := List.length_eq_zero_iff.mp l1.symm
            subst this
            exact kq _ _ H h.2 .refl (.tup a2 q2)
          · subst e
            have : b = [] := List.length_eq_zero_iff.mp l2.symm
            subst this
            have h2 := h.2
            rw [List.append_nil] at h2
            exact kq _ _ H h2 .refl (.tup a1 q1)
          · exact kq _ _ _ h.2 (.new hw) (.tup (.inl ⟨upd_same, ok.new hw⟩) ((q1.ev ok (.new hw)).app (q2.ev ok (.new hw))))
    | _ => exact h.elim
  | lst a =>
    cases y with
    | lst b =>
      cases r1 with
      | @lst p vs _ a1 n1 q1 =>
        cases r2 with
        | @lst p2 us _ a2 n2 q2 =>
          have l1 := q1.len
          have l2 := q2.len
          exact .inr (.inr (.inr ⟨p, p2, vs, us, rfl, rfl, a1, a2, by rw [l1, l2]; exact h.1, fun w hw =>
            kq _ _ _ h.2 (.new hw) (.lst upd_same (ok.new hw) ((q1.ev ok (.new hw)).app (q2.ev ok (.new hw))))⟩))
    | _ => exact h.elim
  | _ => exact h.elim
theorem opd_sub : OpD K (rI0 fun i j => .int (i - j)) dSub := by
  intro z H v u x y P Q ok r1 r2 h kq
  cases x with
  | int i =>
    cases y with
    | int j =>
      cases r1
      cases r2
      exact ⟨i, j, rfl, rfl, kq _ _ H h .refl (.int _)⟩
    | _ => exact h.elim
  | _ => exact h.elim
def rMulU (K : PySem.W.Frag) : R2 := fun x y H Q => rI CMul (fun i j => .int (i * j)) x y H Q ∨ (rI CMulW (fun i j => .int (i * j)) x y H Q ∨ (rRepT K x y H Q ∨ rRep x y H Q))
theorem op_mulU : OpR X (binaryOp .Mult) (rMulU X.K) := op_mul.or (op_mulW.or (op_repT.or op_rep))
theorem RpAll.rep {c : Cz K} {H : Hp} {vs : List V} {ds : List D} (h : RpAll K c H vs ds) : ∀ k : Nat, RpAll K c H (List.replicate k vs).flatten (List.replicate k ds).flatten
  | 0 => .nil
  | k + 1 => by
    simp only [List.replicate_succ, List.flatten_cons]
    exact h.app (RpAll.rep h k)
theorem opd_mul : OpD K (rMulU K) dMul := by
  intro z H v u x y P Q ok r1 r2 h kq
  cases x with
  | int i =>
    cases y with
    | int j =>
      cases r1
      cases r2
      rcases h.1 with g | g
      · exact .inl ⟨i, j, rfl, rfl, g, kq _ _ H h.2 .refl (.int _)⟩
      · exact .inr (.inl ⟨i, j, rfl, rfl, g, kq _ _ H h.2 .refl (.int _)⟩)
    | _ => exact h.elim
  | tup a =>
    cases y with
    | int j =>
      cases r2
      cases r1 with
      | @tup p vs _ a1 q1 =>
        have l1 := q1.len
        obtain ⟨h1, h2, h3, h4, h5⟩ := h
        exact .inr (.inr (.inl ⟨p, j, vs, rfl, rfl, a1.sq, fun e => h1 (by rw [e] at l1; exact List.length_eq_zero_iff.mp l1.symm), h2, h3, by rw [l1]; exact h4, fun w hw =>
          kq _ _ _ h5 (.new hw) (.tup (.inl ⟨upd_same, ok.new hw⟩) ((q1.ev ok (.new hw)).rep _))⟩))
    | _ => exact h.elim
  | lst a =>
    cases y with
    | int j =>
      cases r2
      cases r1 with
      | @lst p vs _ a1 n1 q1 =>
        have l1 := q1.len
        obtain ⟨h2, h3, h4, h5⟩ := h
        exact .inr (.inr (.inr ⟨p, j, vs, rfl, rfl, a1, h2, h3, by rw [l1]; exact h4, fun w hw =>
          kq _ _ _ h5 (.new hw) (.lst upd_same (ok.new hw) ((q1.ev ok (.new hw)).rep _))⟩))
    | _ => exact h.elim
  | _ => exact h.elim
theorem opd_mod : OpD K (rI (fun _ j => 0 < j) fun i j => .int (i % j)) dMod := by
  intro z H v u x y P Q ok r1 r2 h kq
  cases x with
  | int i =>
    cases y with
    | int j =>
      cases r1
      cases r2
      exact ⟨i, j, rfl, rfl, h.1, kq _ _ H h.2 .refl (.int _)⟩
    | _ => exact h.elim
  | _ => exact h.elim
theorem opd_fdiv : OpD K (rI CDivW fun i j => .int (i / j)) dFdiv := by
  intro z H v u x y P Q ok r1 r2 h kq
  cases x with
  | int i =>
    cases y with
    | int j =>
      cases r1
      cases r2
      exact ⟨i, j, rfl, rfl, h.1, kq _ _ H h.2 .refl (.int _)⟩
    | _ => exact h.elim
  | _ => exact h.elim
theorem opd_pow : OpD K (rI CPow fun i j => .int (i ^ j.toNat)) dPow := by
  intro z H v u x y P Q ok r1 r2 h kq
  cases x with
  | int i =>
    cases y with
    | int j =>
      cases r1
      cases r2
      exact ⟨i, j, rfl, rfl, h.1, kq _ _ H h.2 .refl (.int _)⟩
    | _ => exact h.elim
  | _ => exact h.elim
end

/-! ### order, in, is -/
def ltS (a b : Str) : Bool := decide (a.cps.toList < b.cps.toList)
def dLt : D → D → PQ → Prop
  | .int i, .int j, P => P (.bl (decide (i < j)))
  | .str a, .str b, P => P (.bl (ltS a b))
  | _, _, _ => False
def dLe : D → D → PQ → Prop
  | .int i, .int j, P => P (.bl (decide (i ≤ j)))
  | .str a, .str b, P => P (.bl (!ltS b a))
  | _, _, _ => False
def dGt : D → D → PQ → Prop := fun x y P => dLt y x P
def dGe : D → D → PQ → Prop := fun x y P => dLe y x P
section
variable {X : Cx} {K : PySem.W.Frag}
def rLtU : R2 := fun x y H Q => rI0 (fun i j => .bl (decide (i < j))) x y H Q ∨ ∃ i j, x = .str i ∧ y = .str j ∧ Q (.bl (decide (i.cps.toList < j.cps.toList))) H
def rLeU : R2 := fun x y H Q => rI0 (fun i j => .bl (decide (i ≤ j))) x y H Q ∨ ∃ i j, x = .str i ∧ y = .str j ∧ Q (.bl (!decide (j.cps.toList < i.cps.toList))) H
def rGtU : R2 := fun x y H Q => rI0 (fun i j => .bl (decide (j < i))) x y H Q ∨ ∃ i j, x = .str i ∧ y = .str j ∧ Q (.bl (decide (j.cps.toList < i.cps.toList))) H
def rGeU : R2 := fun x y H Q => rI0 (fun i j => .bl (decide (j ≤ i))) x y H Q ∨ ∃ i j, x = .str i ∧ y = .str j ∧ Q (.bl (!decide (i.cps.toList < j.cps.toList))) H
theorem op_ltU : OpR X (compareOp .Lt) rLtU := op_lt.or op_lt_str
theorem op_leU : OpR X (compareOp .LtE) rLeU := op_le.or op_le_str
theorem op_gtU : OpR X (compareOp .Gt) rGtU := op_gt.or op_gt_str
theorem op_geU : OpR X (compareOp .GtE) rGeU := op_ge.or op_ge_str
theorem opd_lt : OpD K rLtU dLt := by
  intro z H v u x y P Q ok r1 r2 h kq
  cases x with
  | int i =>
    cases y with
    | int j =>
      cases r1
      cases r2
      exact .inl ⟨i, j, rfl, rfl, kq _ _ H h .refl (.bl _)⟩
    | _ => exact h.elim
  | str i =>
    cases y with
    | str j =>
      cases r1
      cases r2
      exact .inr ⟨i, j, rfl, rfl, kq _ _ H h .refl (.bl _)⟩
    | _ => exact h.elim
  | _ => exact h.elim
theorem opd_le : OpD K rLeU dLe := by
  intro z H v u x y P Q ok r1 r2 h kq
  cases x with
  | int i =>
    cases y with
    | int j =>
      cases r1
      cases r2
      exact .inl ⟨i, j, rfl, rfl, kq _ _ H h .refl (.bl _)⟩
    | _ => exact h.elim
  | str i =>
    cases y with
    | str j =>
      cases r1
      cases r2
      exact .inr ⟨i, j, rfl, rfl, kq _ _ H h .refl (.bl _)⟩
    | _ => exact h.elim
  | _ => exact h.elim
theorem opd_gt : OpD K rGtU dGt := by
  intro z H v u x y P Q ok r1 r2 h kq
  cases y with
  | int i =>
    cases x with
    | int j =>
      cases r1
      cases r2
      exact .inl ⟨j, i, rfl, rfl, kq _ _ H h .refl (.bl _)⟩
    | _ => exact h.elim
  | str i =>
    cases x with
    | str j =>
      cases r1
      cases r2
      exact .inr ⟨j, i, rfl, rfl, kq _ _ H h .refl (.bl _)⟩
    | _ => exact h.elim
  | _ => exact h.elim
theorem opd_ge : OpD K rGeU dGe := by
  intro z H v u x y P Q ok r1 r2 h kq
  cases y with
  | int i =>
    cases x with
    | int j =>
      cases r1
      cases r2
      exact .inl ⟨j, i, rfl, rfl, kq _ _ H h .refl (.bl _)⟩
    | _ => exact h.elim
  | str i =>
    cases x with
    | str j =>
      cases r1
      cases r2
      exact .inr ⟨j, i, rfl, rfl, kq _ _ H h .refl (.bl _)⟩
    | _ => exact h.elim
  | _ => exact h.elim
end
def isNon : D → Bool
  | .non => true
  | .raw v => decide (v = .non)
  | _ => false
def dIsN (x y : D) (P : PQ) : Prop := y = .non ∧ P (.bl (isNon x))
def dNotN (x y : D) (P : PQ) : Prop := y = .non ∧ P (.bl (!isNon x))
theorem Rp.is_non {K : PySem.W.Frag} {c : Cz K} {H : Hp} {d : D} {v : V} (h : Rp K c H v d) : decide (v = .non) = isNon d := by
  cases h <;> first | rfl | (apply decide_eq_false; intro e; cases e)
theorem opd_isN {K : PySem.W.Frag} : OpD K (fun x y H Q => y = .non ∧ Q (.bl (decide (x = .non))) H) dIsN := by
  rintro z H v u x y P Q ok r1 r2 ⟨rfl, p⟩ kq
  cases r2
  refine ⟨rfl, ?_⟩
  rw [r1.is_non]
  exact kq _ _ H p .refl (.bl _)
theorem opd_notN {K : PySem.W.Frag} : OpD K (fun x y H Q => y = .non ∧ Q (.bl (!decide (x = .non))) H) dNotN := by
  rintro z H v u x y P Q ok r1 r2 ⟨rfl, p⟩ kq
  cases r2
  refine ⟨rfl, ?_⟩
  rw [r1.is_non]
  exact kq _ _ H p .refl (.bl _)
/-- one sign of a text -/
def sg (c : Nat) : Str := ⟨#[c]⟩
def seqOf : D → Option (List D)
  | .tup xs => some xs
  | .lst xs => some xs
  | _ => none
/-- x in y: a sign in a text; flat things in a list or tuple; any data in a list -/
def dInB (x y : D) (k : Bool → Prop) : Prop := (∃ c s, x = .str (sg c) ∧ y = .str s ∧ k (decide (c ∈ s.cps.toList))) ∨
  ((∃ v ys us, vOf x = some v ∧ seqOf y = some ys ∧ ys.map vOf = us.map some ∧ flatV v = true ∧ us.all flatV = true ∧ k (inV v us)) ∨
  ∃ ys d ds, y = .lst ys ∧ pyOf x = some d ∧ pyAll ys = some ds ∧ SeqAt.shaped d = true ∧ SeqAt.shaped (.list ds) = true ∧ k (ds.any fun z => PyData.eqv z d))
def dIn (x y : D) (P : PQ) : Prop := dInB x y fun b => P (.bl b)
def dNotIn (x y : D) (P : PQ) : Prop := dInB x y fun b => P (.bl (!b))
def rInU (K : PySem.W.Frag) : R2 := fun x y H Q => (∃ (c : Nat) (z : Str), x = .str ⟨#[c]⟩ ∧ y = .str z ∧ Q (.bl (decide (c ∈ z.cps.toList))) H) ∨ (rIn K false x y H Q ∨ rInD K x y H Q)
def rNotInU (K : PySem.W.Frag) : R2 := fun x y H Q => (∃ (c : Nat) (z : Str), x = .str ⟨#[c]⟩ ∧ y = .str z ∧ Q (.bl (!decide (c ∈ z.cps.toList))) H) ∨ (rIn K true x y H Q ∨ rNotInD K x y H Q)
section
variable {X : Cx} {K : PySem.W.Frag} {k : Nat}
theorem units65 {A : Around} (hr : Room k A) (hk : 2 ≤ k) : A.units + 65 < cLine := by
  have := hr.un
  omega
theorem op_inU (hr : Room k X.A) (hk : 2 ≤ k) : OpR X (compareOp .In) (rInU X.K) := op_in_sign.or (op_in_seq.or (op_inD (units65 hr hk)))
theorem op_notInU (hr : Room k X.A) (hk : 2 ≤ k) : OpR X (compareOp .NotIn) (rNotInU X.K) := op_notIn_sign.or (op_notIn_seq.or (op_notInD (units65 hr hk)))
theorem Rp.seq {c : Cz K} {H : Hp} {d : D} {v : V} {ys : List D} (h : Rp K c H v d) (q : seqOf d = some ys) : ∃ p vs, v = .ref p ∧ (SqL K H p vs ∨ SqT K H p vs) ∧ RpAll K c H vs ys := by
  cases h <;> cases q
  · rename_i a vs h1 h2
    exact ⟨a, vs, rfl, .inr h1.sq, h2⟩
  · rename_i a vs h1 n h2
    exact ⟨a, vs, rfl, .inl (SqL.of h1), h2⟩
theorem opd_in : OpD K (rInU K) dIn := by
  intro z H v u x y P Q ok r1 r2 h kq
  rcases h with ⟨c, s, rfl, rfl, p⟩ | ⟨w, ys, us, h1, h2, h3, f1, f2, p⟩ | ⟨ys, d, ds, rfl, h1, h2, s1, s2, p⟩
  · cases r1
    cases r2
    exact .inl ⟨c, s, rfl, rfl, kq _ _ H p .refl (.bl _)⟩
  · cases r1.v_of h1
    obtain ⟨p', vs, rfl, hs, hr⟩ := r2.seq h2
    cases hr.v_of h3
    exact .inr (.inl ⟨p', us, rfl, hs, f1, f2, kq _ _ H p .refl (.bl _)⟩)
  · exact .inr (.inr ⟨d, ds, r1.dp h1, r2.dp (by rw [pyOf, h2]; rfl), s1, s2, kq _ _ H p .refl (.bl _)⟩)
theorem opd_notIn : OpD K (rNotInU K) dNotIn := by
  intro z H v u x y P Q ok r1 r2 h kq
  rcases h with ⟨c, s, rfl, rfl, p⟩ | ⟨w, ys, us, h1, h2, h3, f1, f2, p⟩ | ⟨ys, d, ds, rfl, h1, h2, s1, s2, p⟩
  · cases r1
    cases r2
    exact .inl ⟨c, s, rfl, rfl, kq _ _ H p .refl (.bl _)⟩
  · cases r1.v_of h1
    obtain ⟨p', vs, rfl, hs, hr⟩ := r2.seq h2
    cases hr.v_of h3
    exact .inr (.inl ⟨p', us, rfl, hs, f1, f2, kq _ _ H p .refl (.bl _)⟩)
  · exact .inr (.inr ⟨d, ds, r1.dp h1, r2.dp (by rw [pyOf, h2]; rfl), s1, s2, kq _ _ H p .refl (.bl _)⟩)
end

/-! ### a < b < c -/
def dChain (op op' : D → D → PQ → Prop) (fa fb fc : DE) : DE := fun δ P E => fa δ (fun x => fb δ (fun y => op x y fun d => ∃ k, d = .bl k ∧ if k = true then fc δ (fun w => op' y w P) E else P (.bl false)) E) E
section
variable {X : Cx} {W : WX} {a b c : Expr} {fa fb fc : DE} {op op' : D → D → PQ → Prop} {r r' : R2} {pos : Pos}
theorem chain_up (hd : OpD X.K r op) (hd' : OpD X.K r' op') {σ : L2.St} {H : Hp} {Q : VK} (h : up X.K W (dChain op op' fa fb fc) σ H Q) : tChain r r' (up X.K W fa) (up X.K W fb) (up X.K W fc) σ H Q := by
  obtain ⟨z, δ, P, E, ok, sl, hf, kq, kx⟩ := h
  refine two_up (P2 := fun x y => op x y _) ok sl kx hf fun x y v u H2 p e o2 r1 r2 => hd z H2 v u x y _ _ o2 r1 r2 p fun d w H3 hp e3 r3 => ?_
  obtain ⟨k, rfl, hp⟩ := hp
  cases r3
  refine ⟨k, rfl, ?_⟩
  by_cases hk : k = true
  · rw [if_pos hk] at hp ⊢
    refine ⟨z, δ, _, E, o2.ev e3, (sl.ev ok e).ev o2 e3, hp, fun d w H4 hp e4 r4 => ?_, (kx.ev e).ev e3⟩
    exact hd' z H4 u w y d P Q ((o2.ev e3).ev e4) ((r2.ev o2 e3).ev (o2.ev e3) e4) r4 hp (((kq.ev e).ev e3).ev e4)
  · rw [if_neg hk] at hp ⊢
    exact kq _ _ H3 hp (e.trans e3) (.bl _)
theorem pd_chain {o o' : CmpOp} (ho : OpR X (compareOp o) r) (hd : OpD X.K r op) (ho' : OpR X (compareOp o') r') (hd' : OpD X.K r' op') (ha : PE X a (up X.K W fa)) (hb : PE X b (up X.K W fb)) (hc : PE X c (up X.K W fc))
    (hm : lastMarks [o, o'] [b, c] = false := by with_unfolding_all rfl) : PE X (.Compare a [o, o'] [b, c] pos) (up X.K W (dChain op op' fa fb fc)) :=
  PE_imp (pe_chain ho ho' ha hb hc hm) fun σ H Q h => chain_up hd hd' h
theorem pdt_chain {o o' : CmpOp} (ho : OpR X (compareOp o) r) (hd : OpD X.K r op) (ho' : OpR X (compareOp o') r') (hd' : OpD X.K r' op') (ha : PE X a (up X.K W fa)) (hb : PE X b (up X.K W fb)) (hc : PE X c (up X.K W fc))
    (hm : lastMarks [o, o'] [b, c] = false := by with_unfolding_all rfl) : PT X (.Compare a [o, o'] [b, c] pos) (upT X.K W (dBoolT (dChain op op' fa fb fc))) := by
  refine PT_imp (pt_chain ho ho' ha hb hc hm) fun σ H Q ⟨z, δ, P, E, ok, sl, hf, kq, kx⟩ => ?_
  refine chain_up hd hd' ⟨z, δ, _, E, ok, sl, hf, fun d w H3 hp e3 r3 => ?_, kx⟩
  obtain ⟨c, rfl, hc⟩ := hp
  cases r3
  exact ⟨c, rfl, kq c H3 hc e3⟩
end
end DL

/-! The data layer, part 3: calls, methods, subscripts, slices; statements; promises over data. -/
namespace DL
open PySem PySem.Spec PyProof.Rows L2

/-! ### built-in calls and methods by values -/
def CallD (K : PySem.W.Frag) (r : List V → Hp → VK → Prop) (op : List D → PQ → Prop) : Prop := ∀ z H vs ds P Q, Ok z H → RpAll K z H vs ds → op ds P → Kq K z H P Q → r vs H Q
def MtD (K : PySem.W.Frag) (T : String) (r : V → List V → Hp → VK → Prop) (op : D → List D → PQ → Prop) : Prop :=
  ∀ z H v vs x ds P Q, Ok z H → Rp K z H v x → RpAll K z H vs ds → op x ds P → Kq K z H P Q → r v vs H Q
def dCB (op : List D → PQ → Prop) (f : DA) : DE := fun δ P E => f δ (fun ds => op ds P) E
def dBM (op : D → List D → PQ → Prop) (tyq : D → Prop) (fo : DE) (f : DA) : DE := fun δ P E => fo δ (fun x => tyq x ∧ f δ (fun ds => op x ds P) E) E
section
variable {X : Cx} {W : WX} {x : Str} {id T : String} {e o : Expr} {es : List Expr} {f : DA} {fo : DE} {p pos apos : Pos} {r : List V → Hp → VK → Prop} {op : List D → PQ → Prop}
theorem cb_up (hd : CallD X.K r op) {σ : L2.St} {H : Hp} {Q : VK} (h : up X.K W (dCB op f) σ H Q) : tCB r (upA X.K W f) σ H Q := by
  obtain ⟨z, δ, P, E, ok, sl, hf, kq, kx⟩ := h
  exact ⟨z, δ, _, E, ok, sl, hf, fun ds vs H1 p e1 r1 => hd z H1 vs ds P Q (ok.ev e1) r1 p (kq.ev e1), kx⟩
theorem pd_callB (hd : CallD X.K r op) (hc : CallR X (.builtin id) r) (hg : Gl X x) (hm : X.mg x = none) (hv : bootBuiltins x = some (.builtin id)) (ha : PA X (e :: es) (upA X.K W f)) (hn : x ≠ "__name__" := by decide) (hdb : (x == ("__debug__" : Str)) = false := by decide)
    (he : starEach (e :: es) X.env = (false, eval e X.env) :: starEach es X.env := by rfl) (hpl : (backTo pos (starEach es X.env)).any (·.1) = false := by rfl) : PE X (.Call (.Name x p) (e :: es) [] pos) (up X.K W (dCB op f)) :=
  PE_imp (pe_callB hc hg hm hv ha hn hdb he hpl) fun _ _ _ h => cb_up hd h
theorem pd_callTy (hd : CallD X.K r op) (hc : CallR X (.type T) r) (hg : Gl X x) (hm : X.mg x = none) (hv : bootBuiltins x = some (.type T)) (ha : PA X (e :: es) (upA X.K W f)) (hn : x ≠ "__name__" := by decide) (hdb : (x == ("__debug__" : Str)) = false := by decide)
    (he : starEach (e :: es) X.env = (false, eval e X.env) :: starEach es X.env := by rfl) (hpl : (backTo pos (starEach es X.env)).any (·.1) = false := by rfl) : PE X (.Call (.Name x p) (e :: es) [] pos) (up X.K W (dCB op f)) :=
  PE_imp (pe_callTy hc hg hm hv ha hn hdb he hpl) fun _ _ _ h => cb_up hd h
end
/-- of a built-in type -/
def isStrD : D → Prop
  | .str _ => True
  | _ => False
def isLstD : D → Prop
  | .lst _ => True
  | _ => False
theorem ty_strD {K : PySem.W.Frag} {z : Cz K} {H : Hp} {x : D} {v : V} (h : isStrD x) (r : Rp K z H v x) : tyV K "str" v H := by
  cases r <;> first | exact h.elim | rfl
theorem ty_lstD {K : PySem.W.Frag} {z : Cz K} {H : Hp} {x : D} {v : V} (h : isLstD x) (r : Rp K z H v x) : tyV K "list" v H := by
  cases r with
  | lst a n q => exact .inl ⟨rfl, _, SqL.of a⟩
  | _ => exact h.elim
section
variable {X : Cx} {W : WX} {id T : String} {name : Str} {e o : Expr} {es : List Expr} {f : DA} {fo : DE} {pos apos : Pos} {r : V → List V → Hp → VK → Prop} {op : D → List D → PQ → Prop} {tyq : D → Prop}
theorem bm_up (hd : MtD X.K T r op) (ht : ∀ z H x v, tyq x → Rp X.K z H v x → tyV X.K T v H) {σ : L2.St} {H : Hp} {Q : VK} (h : up X.K W (dBM op tyq fo f) σ H Q) : tBM X.K T r (up X.K W fo) (upA X.K W f) σ H Q := by
  obtain ⟨z, δ, P, E, ok, sl, hf, kq, kx⟩ := h
  refine ⟨z, δ, _, E, ok, sl, hf, fun x v H1 p e1 r1 => ⟨ht z H1 x v p.1 r1, ?_⟩, kx⟩
  exact ⟨z, δ, _, E, ok.ev e1, sl.ev ok e1, p.2, fun ds vs H2 p2 e2 r2 => hd z H2 v vs x ds P Q ((ok.ev e1).ev e2) (r1.ev (ok.ev e1) e2) r2 p2 ((kq.ev e1).ev e2), kx.ev e1⟩
end

/-! ### the usual ones -/
def dLen : List D → PQ → Prop
  | [.str x], P => x.length ≤ sizeLine ∧ P (.int x.length)
  | [.tup xs], P => P (.int xs.length)
  | [.lst xs], P => P (.int xs.length)
  | [.scr ns], P => P (.int ns.length)
  | _, _ => False
theorem cd_len {K : PySem.W.Frag} : CallD K (fun xs H Q => ∃ x n, xs = [x] ∧ LenV K x H n ∧ Q (.int n) H) dLen := by
  intro z H vs ds P Q ok r h kq
  cases r with
  | nil => exact h.elim
  | cons a b =>
    cases b with
    | cons _ _ => cases a <;> exact h.elim
    | nil =>
      cases a with
      | str x => exact ⟨_, _, rfl, ⟨h.1, rfl⟩, kq _ _ H h.2 .refl (.int _)⟩
      | tup a q => exact ⟨_, _, rfl, .inr ⟨_, a.sq, rfl⟩, by rw [q.len]; exact kq _ _ H h .refl (.int _)⟩
      | lst a n q => exact ⟨_, _, rfl, .inl ⟨_, SqL.of a, rfl⟩, by rw [q.len]; exact kq _ _ H h .refl (.int _)⟩
      | scr a => exact ⟨_, _, rfl, .inl ⟨_, a.sq, rfl⟩, by rw [List.length_map]; exact kq _ _ H h .refl (.int _)⟩
      | _ => exact h.elim
/-- an instance's class, as isinstance wants it -/
structure InsOk (K : PySem.W.Frag) (C : Addr) : Prop where
  cl : Cls K C
  ha : PySem.W.findIn K (.ref C) "__class__" = some (some (.builtin "object.__class__"))
  hn : PySem.W.specialIn K (.builtin "object.__class__") "__get__" = some (some (.builtin "getset_descriptor.__get__"))
  htk : PySem.W.takesIn K (.builtin "object.__class__") = some true
  hm : PySem.W.mroIn K C (.type "object") = some true
/-- the class of a value -/
inductive DTy (K : PySem.W.Frag) : D → Value → Prop
  | non : DTy K .non (.type "NoneType")
  | bl (b : Bool) : DTy K (.bl b) (.type "bool")
  | int (i : Int) : DTy K (.int i) (.type "int")
  | str (x : Str) : DTy K (.str x) (.type "str")
  | tup (xs : List D) : DTy K (.tup xs) (.type "tuple")
  | lst (xs : List D) : DTy K (.lst xs) (.type "list")
  | dic (ks : List Key) (xs : List D) : DTy K (.dic ks xs) (.type "dict")
  | ins {C : Addr} (ks : List Str) (xs : List D) (h : InsOk K C) : DTy K (.ins C ks xs) (.ref C)
theorem DTy.x {K : PySem.W.Frag} {z : Cz K} {H : Hp} {d : D} {v : V} {t : Value} (h : DTy K d t) (r : Rp K z H v d) : TyX K H v t := by
  cases h with
  | non => cases r; exact .base .non
  | bl b => cases r; exact .base (.bl b)
  | int b => cases r; exact .base (.int b)
  | str b => cases r; exact .base (.str b)
  | tup xs =>
    cases r with
    | tup a q =>
      rcases a with a | ⟨o, its, n, a, b, c, _⟩
      · exact .base (.tup a.1)
      · exact .kTuple a b
  | lst xs =>
    cases r with
    | lst a n q => exact .base (.lst a)
  | dic ks xs =>
    cases r with
    | dic a n l q => exact .base (.dK a)
  | ins ks xs h =>
    cases r with
    | ins a n l q => exact .base (.ins a h.cl h.ha h.hn h.htk h.hm)
def dIsi (K : PySem.W.Frag) (ds : List D) (P : PQ) : Prop := ∃ x c t u b, ds = [x, .raw c] ∧ ClsV c u ∧ DTy K x t ∧ PySem.W.kitOne K t u = some b ∧ P (.bl b)
theorem cd_isi {K : PySem.W.Frag} : CallD K (rIsi K) (dIsi K) := by
  rintro z H vs ds P Q ok r ⟨x, c, t, u, b, rfl, hc, ht, hk, p⟩ kq
  cases r with
  | cons a r =>
    cases r with
    | cons a2 r =>
      cases r
      cases a2
      exact ⟨_, c, t, u, b, rfl, hc, ht.x a, hk, kq _ _ H p .refl (.bl _)⟩
def dInt : List D → PQ → Prop
  | [.int i], P => P (.int i)
  | [.bl b], P => P (.int (if b then 1 else 0))
  | [.str a], P => a.length ≤ 640 ∧ ∃ n, PySem.intText? a = some n ∧ P (.int n)
  | _, _ => False
def rIntU : List V → Hp → VK → Prop := fun xs H Q => ((∃ i, xs = [.int i] ∧ Q (.int i) H) ∨ ∃ k, xs = [.bl k] ∧ Q (.int (if k then 1 else 0)) H) ∨ ∃ a n, xs = [.str a] ∧ PySem.intText? a = some n ∧ a.length ≤ 640 ∧ Q (.int n) H
theorem call_intU {X : Cx} : CallR X (.type "int") rIntU := call_int1.or call_int_str
theorem cd_int {K : PySem.W.Frag} : CallD K rIntU dInt := by
  intro z H vs ds P Q ok r h kq
  cases r with
  | nil => exact h.elim
  | cons a b =>
    cases b with
    | cons _ _ => cases a <;> exact h.elim
    | nil =>
      cases a with
      | int i => exact .inl (.inl ⟨i, rfl, kq _ _ H h .refl (.int _)⟩)
      | bl i => exact .inl (.inr ⟨i, rfl, kq _ _ H h .refl (.int _)⟩)
      | str x =>
        obtain ⟨h1, n, h2, h3⟩ := h
        exact .inr ⟨x, n, rfl, h2, h1, kq _ _ H h3 .refl (.int _)⟩
      | _ => exact h.elim
def dAbs : List D → PQ → Prop
  | [.int i], P => P (.int (if i < 0 then -i else i))
  | _, _ => False
theorem cd_abs {K : PySem.W.Frag} : CallD K (fun xs H Q => ∃ i, xs = [.int i] ∧ Q (.int (if i < 0 then -i else i)) H) dAbs := by
  intro z H vs ds P Q ok r h kq
  cases r with
  | nil => exact h.elim
  | cons a b =>
    cases b with
    | cons _ _ => cases a <;> exact h.elim
    | nil =>
      cases a with
      | int i => exact ⟨i, rfl, kq _ _ H h .refl (.int _)⟩
      | _ => exact h.elim
def dMax2 : List D → PQ → Prop
  | [.int i, .int j], P => P (.int (if j > i then j else i))
  | _, _ => False
def dMin2 : List D → PQ → Prop
  | [.int i, .int j], P => P (.int (if j < i then j else i))
  | _, _ => False
theorem cd_max2 {K : PySem.W.Frag} : CallD K (fun xs H Q => ∃ i j, xs = [.int i, .int j] ∧ Q (.int (if j > i then j else i)) H) dMax2 := by
  intro z H vs ds P Q ok r h kq
  unfold dMax2 at h
  split at h
  · cases r with
    | cons a b =>
      cases b with
      | cons c d =>
        cases d
        cases a
        cases c
        exact ⟨_, _, rfl, kq _ _ H h .refl (.int _)⟩
  · exact h.elim
theorem cd_min2 {K : PySem.W.Frag} : CallD K (fun xs H Q => ∃ i j, xs = [.int i, .int j] ∧ Q (.int (if j < i then j else i)) H) dMin2 := by
  intro z H vs ds P Q ok r h kq
  unfold dMin2 at h
  split at h
  · cases r with
    | cons a b =>
      cases b with
      | cons c d =>
        cases d
        cases a
        cases c
        exact ⟨_, _, rfl, kq _ _ H h .refl (.int _)⟩
  · exact h.elim
/-- list(x), tuple(x) of a list or tuple -/
def dToLst : List D → PQ → Prop
  | [.lst xs], P => P (.lst xs)
  | [.tup xs], P => P (.lst xs)
  | _, _ => False
def dToTup : List D → PQ → Prop
  | [.lst xs], P => P (.tup xs)
  | [.tup xs], P => P (.tup xs)
  | _, _ => False
theorem cd_list {K : PySem.W.Frag} : CallD K (fun xs H Q => ∃ p ys, xs = [.ref p] ∧ (SqL K H p ys ∨ SqT K H p ys) ∧ ∀ l, H l = none → Q (.ref l) (upd H l (.lst ys))) dToLst := by
  intro z H vs ds P Q ok r h kq
  cases r with
  | nil => exact h.elim
  | cons a b =>
    cases b with
    | cons _ _ => cases a <;> exact h.elim
    | nil =>
      cases a with
      | lst a n q => exact ⟨_, _, rfl, .inl (SqL.of a), fun l hl => kq _ _ _ h (.new hl) (.lst upd_same (ok.new hl) (q.ev ok (.new hl)))⟩
      | tup a q => exact ⟨_, _, rfl, .inr a.sq, fun l hl => kq _ _ _ h (.new hl) (.lst upd_same (ok.new hl) (q.ev ok (.new hl)))⟩
      | _ => exact h.elim
theorem cd_tuple {K : PySem.W.Frag} : CallD K (fun xs H Q => ∃ p ys, xs = [.ref p] ∧ ((SqL K H p ys ∧ ∀ l, H l = none → Q (.ref l) (upd H l (.tup ys))) ∨ (SqT K H p ys ∧ Q (.ref p) H))) dToTup := by
  intro z H vs ds P Q ok r h kq
  cases r with
  | nil => exact h.elim
  | cons a b =>
    cases b with
    | cons _ _ => cases a <;> exact h.elim
    | nil =>
      cases a with
      | lst a n q => exact ⟨_, _, rfl, .inl ⟨SqL.of a, fun l hl => kq _ _ _ h (.new hl) (.tup (.inl ⟨upd_same, ok.new hl⟩) (q.ev ok (.new hl)))⟩⟩
      | tup a q => exact ⟨_, _, rfl, .inr ⟨a.sq, kq _ _ H h .refl (.tup a q)⟩⟩
      | _ => exact h.elim
/-- all(x), any(x) of a list of truths -/
def dAll (ds : List D) (P : PQ) : Prop := ∃ bs : List Bool, ds = [.lst (bs.map D.bl)] ∧ P (.bl (bs.all id))
def dAny (ds : List D) (P : PQ) : Prop := ∃ bs : List Bool, ds = [.lst (bs.map D.bl)] ∧ P (.bl (bs.any id))
theorem cd_all {K : PySem.W.Frag} : CallD K (rAll K) dAll := by
  rintro z H vs ds P Q ok r ⟨bs, rfl, p⟩ kq
  cases r with
  | cons a b =>
    cases b
    cases a with
    | lst a n q =>
      cases q.of_bls
      exact ⟨_, bs, rfl, SqL.of a, kq _ _ H p .refl (.bl _)⟩
theorem cd_any {K : PySem.W.Frag} : CallD K (rAny K) dAny := by
  rintro z H vs ds P Q ok r ⟨bs, rfl, p⟩ kq
  cases r with
  | cons a b =>
    cases b
    cases a with
    | lst a n q =>
      cases q.of_bls
      exact ⟨_, bs, rfl, SqL.of a, kq _ _ H p .refl (.bl _)⟩

/-! ### methods of texts -/
def dSplit : D → List D → PQ → Prop
  | .str a, [.str b], P => (b.length == 0) = false ∧ a.length + 2 ≤ sizeLine ∧ P (.lst ((Txt.split a b).map D.str))
  | _, _, _ => False
theorem md_split {K : PySem.W.Frag} : MtD K "str" (fun x xs H Q => ∃ a b, x = .str a ∧ xs = [.str b] ∧ (b.length == 0) = false ∧ a.length + 2 ≤ sizeLine ∧ rNewStrs (Txt.split a b) H Q) dSplit := by
  intro z H v vs x ds P Q ok r1 r2 h kq
  unfold dSplit at h
  split at h
  · cases r1
    cases r2 with
    | cons a b =>
      cases b
      cases a
      exact ⟨_, _, rfl, rfl, h.1, h.2.1, fun p hp => kq _ _ _ h.2.2 (.new hp) (.lst upd_same (ok.new hp) (RpAll.strs _))⟩
  · exact h.elim
def dJoin (x : D) (ds : List D) (P : PQ) : Prop := ∃ a ys, x = .str a ∧ (ds = [.lst (ys.map D.str)] ∨ ds = [.tup (ys.map D.str)]) ∧ (ys.map (·.length)).sum + ys.length * a.length ≤ 16777216 ∧ P (.str (Txt.join a ys))
theorem md_join {K : PySem.W.Frag} : MtD K "str" (fun x xs H Q => ∃ a p, ∃ ys : List Str, x = .str a ∧ xs = [.ref p] ∧ (SqL K H p (ys.map V.str) ∨ SqT K H p (ys.map V.str)) ∧
    (ys.map (·.length)).sum + ys.length * a.length ≤ 16777216 ∧ Q (.str (Txt.join a ys)) H) dJoin := by
  rintro z H v vs x ds P Q ok r1 r2 ⟨a, ys, rfl, rfl | rfl, hz, p⟩ kq
  · cases r1
    cases r2 with
    | cons b c =>
      cases c
      cases b with
      | lst b n q =>
        cases q.of_strs
        exact ⟨_, _, ys, rfl, rfl, .inl (SqL.of b), hz, kq _ _ H p .refl (.str _)⟩
  · cases r1
    cases r2 with
    | cons b c =>
      cases c
      cases b with
      | tup b q =>
        cases q.of_strs
        exact ⟨_, _, ys, rfl, rfl, .inr b.sq, hz, kq _ _ H p .refl (.str _)⟩
section
variable {X : Cx} {W : WX} {o e : Expr} {fo fe : DE} {apos pos : Pos} {r : V → List V → Hp → VK → Prop} {op : D → List D → PQ → Prop}
def dM1 (op : D → List D → PQ → Prop) (fo fe : DE) : DE := fun δ P E => fo δ (fun x => isStrD x ∧ fe δ (fun y => op x [y] P) E) E
theorem pd_m1 (hd : MtD X.K "str" r op) (h : PE X e (tM1 r (up X.K W fo) (up X.K W fe))) : PE X e (up X.K W (dM1 op fo fe)) := by
  refine PE_imp h fun σ H Q ⟨z, δ, P, E, ok, sl, hf, kq, kx⟩ => ?_
  refine ⟨z, δ, _, E, ok, sl, hf, fun x v H1 p e1 r1 => ⟨?_, ?_⟩, kx⟩
  · cases r1 <;> first | exact p.1.elim | exact ⟨_, rfl⟩
  · exact ⟨z, δ, _, E, ok.ev e1, sl.ev ok e1, p.2, fun y u H2 p2 e2 r2 => hd z H2 v [u] x [y] P Q ((ok.ev e1).ev e2) (r1.ev (ok.ev e1) e2) (.one r2) p2 ((kq.ev e1).ev e2), kx.ev e1⟩
end

/-! ### x[i], x[a:b] -/
def dIx : D → D → PQ → Prop
  | .lst xs, .int i, P => ∃ d, atI xs i = some d ∧ P d
  | .tup xs, .int i, P => ∃ d, atI xs i = some d ∧ P d
  | .str s, .int i, P => s.length ≤ sizeLine ∧ ∃ c, atI s.cps.toList i = some c ∧ P (.str (sg c))
  | .die, .int i, P => (i = 0 ∨ i = 1 ∨ i = 2) ∧ ∀ j : Int, P (.int j)
  | .scr ns, .int i, P => ∃ j, atI ns i = some j ∧ P (.int j)
  | _, _, _ => False
theorem atI_rp {K : PySem.W.Frag} {z : Cz K} {H : Hp} {vs : List V} {ds : List D} {i : Int} {d : D} (r : RpAll K z H vs ds) (h : atI ds i = some d) : ∃ v, atI vs i = some v ∧ Rp K z H v d := by
  unfold atI at h ⊢
  rw [r.len]
  cases q : ixN ds.length i with
  | none => rw [q] at h; cases h
  | some j =>
    rw [q] at h
    exact r.getD h
theorem atI_map {ns : List Int} {i j : Int} (h : atI ns i = some j) : atI (ns.map V.int) i = some (.int j) := by
  unfold atI at h ⊢
  rw [List.length_map]
  cases q : ixN ns.length i with
  | none => rw [q] at h; cases h
  | some n =>
    rw [q] at h
    show (ns.map V.int)[n]? = _
    rw [List.getElem?_map, show ns[n]? = some j from h]
    rfl
theorem ixd {K : PySem.W.Frag} : OpD K (rIx K) dIx := by
  intro z H v u x y P Q ok r1 r2 h kq
  cases x with
  | scr ns =>
    cases y with
    | int i =>
      cases r2
      cases r1 with
      | scr a =>
        obtain ⟨j, hj, p⟩ := h
        exact .inl ⟨_, _, i, .int j, rfl, rfl, a.sq, atI_map hj, kq _ _ H p .refl (.int _)⟩
    | _ => exact h.elim
  | lst xs =>
    cases y with
    | int i =>
      cases r2
      cases r1 with
      | lst a n q =>
        obtain ⟨d, hd, p⟩ := h
        obtain ⟨w, hw, rw⟩ := atI_rp q hd
        exact .inl ⟨_, _, i, w, rfl, rfl, SqL.of a, hw, kq _ _ H p .refl rw⟩
    | _ => exact h.elim
  | tup xs =>
    cases y with
    | int i =>
      cases r2
      cases r1 with
      | tup a q =>
        obtain ⟨d, hd, p⟩ := h
        obtain ⟨w, hw, rw⟩ := atI_rp q hd
        exact .inr (.inl ⟨_, _, i, w, rfl, rfl, a.sq, hw, kq _ _ H p .refl rw⟩)
    | _ => exact h.elim
  | str s =>
    cases y with
    | int i =>
      cases r2
      cases r1
      obtain ⟨hz, c, hc, p⟩ := h
      exact .inr (.inr ⟨s, i, c, rfl, rfl, hz, hc, kq _ _ H p .refl (.str _)⟩)
    | _ => exact h.elim
  | die =>
    cases y with
    | int i =>
      cases r2
      cases r1 with
      | die a =>
        obtain ⟨hi, p⟩ := h
        obtain ⟨j0, j1, j2, hd⟩ := ok.die _ a
        rcases hi with e | e | e <;> subst e
        · exact .inl ⟨_, _, 0, .int j0, rfl, rfl, SqL.of hd, rfl, kq _ _ H (p j0) .refl (.int _)⟩
        · exact .inl ⟨_, _, 1, .int j1, rfl, rfl, SqL.of hd, rfl, kq _ _ H (p j1) .refl (.int _)⟩
        · exact .inl ⟨_, _, 2, .int j2, rfl, rfl, SqL.of hd, rfl, kq _ _ H (p j2) .refl (.int _)⟩
    | _ => exact h.elim
  | _ => exact h.elim
abbrev DO := DS → (Option Int → Prop) → XQ → Prop
def upO (K : PySem.W.Frag) (W : WX) (f : DO) : TO := fun σ H Q => ∃ z δ P E, Ok z H ∧ Sl K z H σ δ ∧ f δ P E ∧ (∀ i H', P i → Ev z H H' → Q i H') ∧ Kx K z H σ E W
def dNoPart : DO := fun _ P _ => P none
def dPart (f : DE) : DO := fun δ P E => f δ (fun d => ∃ i, d = .int i ∧ P (some i)) E
def cutD (xs : List D) (lo hi : Option Int) : List D := (xs.drop (HT.sIx xs.length 0 lo)).take (HT.sIx xs.length xs.length hi - HT.sIx xs.length 0 lo)
def dCut : D → Option Int → Option Int → PQ → Prop
  | .lst xs, lo, hi, P => P (.lst (cutD xs lo hi))
  | .tup xs, lo, hi, P => P (.tup (cutD xs lo hi))
  | .str s, lo, hi, P => s.length ≤ sizeLine ∧ P (.str (cutS s lo hi))
  | _, _, _, _ => False
def dSl (fo : DE) (fl fh : DO) : DE := fun δ P E => fo δ (fun x => fl δ (fun lo => fh δ (fun hi => dCut x lo hi P) E) E) E
theorem cut_rp {K : PySem.W.Frag} {z : Cz K} {H : Hp} {vs : List V} {ds : List D} {lo hi : Option Int} (r : RpAll K z H vs ds) : RpAll K z H (cutV vs lo hi) (cutD ds lo hi) := by
  unfold cutV cutD
  rw [r.len]
  exact (r.drop _).take _
section
variable {X : Cx} {W : WX} {e : Expr} {lo hi : Option Expr} {f fo : DE} {fl fh : DO} {pos p2 : Pos} {a b : Expr} {fa fb : DE}
theorem pdo_none : PO X none (upO X.K W dNoPart) := ⟨fun pins s σ H Q I ⟨z, δ, P, E, ok, sl, hf, kq, kx⟩ => po_none.run pins s σ H Q I (kq none H hf .refl)⟩
theorem pdo_some (h : PE X e (up X.K W f)) : PO X (some e) (upO X.K W (dPart f)) := ⟨fun pins s σ H Q I ⟨z, δ, P, E, ok, sl, hf, kq, kx⟩ =>
  (po_some h).run pins s σ H Q I ⟨z, δ, _, E, ok, sl, hf, fun d v H1 p e1 r1 => by
    obtain ⟨i, rfl, hi⟩ := p
    cases r1
    exact ⟨i, rfl, kq _ H1 hi e1⟩, kx⟩⟩
def rSlU (K : PySem.W.Frag) : V → Option Int → Option Int → Hp → VK → Prop := fun x lo hi H Q => rSlL K x lo hi H Q ∨ (rSlA K x lo hi H Q ∨ rSlS x lo hi H Q)
theorem sl_U : SlR X (rSlU X.K) := sl_list.or (sl_tupA.or sl_str)
theorem whole_cut {ds : List D} {lo hi : Option Int} (h : HT.sIx ds.length 0 lo = 0 ∧ HT.sIx ds.length ds.length hi = ds.length) : cutD ds lo hi = ds := by
  unfold cutD
  rw [h.1, h.2]
  simp
theorem pd_slice (he : PE X e (up X.K W fo)) (hl : PO X lo (upO X.K W fl)) (hu : PO X hi (upO X.K W fh)) : PE X (.Subscript e (.Slice lo hi none p2) pos) (up X.K W (dSl fo fl fh)) := by
  refine PE_imp (pe_slice sl_U he hl hu) fun σ H Q ⟨z, δ, P, E, ok, sl, hf, kq, kx⟩ => ?_
  refine ⟨z, δ, _, E, ok, sl, hf, fun x v H1 p e1 r1 => ?_, kx⟩
  refine ⟨z, δ, _, E, ok.ev e1, sl.ev ok e1, p, fun l H2 p2 e2 => ?_, kx.ev e1⟩
  have ok2 := (ok.ev e1).ev e2
  refine ⟨z, δ, _, E, ok2, (sl.ev ok e1).ev (ok.ev e1) e2, p2, fun u H3 p3 e3 => ?_, (kx.ev e1).ev e2⟩
  have r3 := (r1.ev (ok.ev e1) e2).ev ok2 e3
  have k3 := ((kq.ev e1).ev e2).ev e3
  have ok3 := ok2.ev e3
  cases x with
  | lst xs =>
    cases r3 with
    | lst a n q => exact .inl ⟨_, _, rfl, SqL.of a, fun w hw => k3 _ _ _ p3 (.new hw) (.lst upd_same (ok3.new hw) ((cut_rp q).ev ok3 (.new hw)))⟩
  | tup xs =>
    cases r3 with
    | tup a q =>
      refine .inr (.inl ⟨_, _, rfl, a.sq, fun hh => ?_, fun _ w hw => k3 _ _ _ p3 (.new hw) (.tup (.inl ⟨upd_same, ok3.new hw⟩) ((cut_rp q).ev ok3 (.new hw)))⟩)
      rw [q.len] at hh
      have p3' : P (.tup (cutD xs l u)) := p3
      rw [whole_cut hh] at p3'
      exact k3 _ _ _ p3' .refl (.tup a q)
  | str s =>
    cases r3
    exact .inr (.inr ⟨s, rfl, p3.1, k3 _ _ _ p3.2 .refl (.str _)⟩)
  | _ => exact p3.elim
theorem pd_ix (ha : PE X a (up X.K W fa)) (hb : PE X b (up X.K W fb)) (hs : PlainIx b := by intro _ _; rfl) : PE X (.Subscript a b pos) (up X.K W (dBin dIx fa fb)) := by
  refine PE_imp (pe_ix ix_seq ha hb hs) fun σ H Q ⟨z, δ, P, E, ok, sl, hf, kq, kx⟩ => ?_
  exact two_up (P2 := fun x y => dIx x y P) ok sl kx hf fun x y v u H2 p e o2 r1 r2 => ixd z H2 v u x y P Q o2 r1 r2 p (kq.ev e)
end

/-! ### attributes of an instance -/
theorem zip_lookup {K : PySem.W.Frag} {z : Cz K} {H : Hp} {f : Str} {d : D} : ∀ {ks : List Str} {vs : List V} {ds : List D}, ks.length = vs.length → RpAll K z H vs ds → (ks.zip ds).lookup f = some d → ∃ v, (ks.zip vs).lookup f = some v ∧ Rp K z H v d
  | [], _, _, _, _, h => by cases h
  | _ :: _, [], _, l, _, _ => by cases l
  | _ :: _, _ :: _, [], _, r, _ => by cases r
  | k :: ks, v :: vs, d0 :: ds, l, r, h => by
    cases r with
    | cons a b =>
      simp only [List.zip_cons_cons, List.lookup_cons] at h ⊢
      cases q : f == k with
      | true =>
        rw [q] at h
        cases h
        exact ⟨v, rfl, a⟩
      | false =>
        rw [q] at h
        exact zip_lookup (by simpa using l) b h
def dFld (K : PySem.W.Frag) (fo : DE) (f : Str) : DE := fun δ P E => fo δ (fun x => ∃ C ks ds d, x = .ins C ks ds ∧ Cls K C ∧ NoAttr K C f ∧ (ks.zip ds).lookup f = some d ∧ P d) E
section
variable {X : Cx} {W : WX} {e : Expr} {f : Str} {fo : DE} {pos : Pos}
theorem pd_fld (he : PE X e (up X.K W fo)) (hb : attributeBase e f X.env (eval e X.env) = eval e X.env := by rfl) : PE X (.Attribute e f pos) (up X.K W (dFld X.K fo f)) := by
  refine PE_imp (pe_fld he hb) fun σ H Q ⟨z, δ, P, E, ok, sl, hf, kq, kx⟩ => ?_
  refine ⟨z, δ, _, E, ok, sl, hf, fun x v H1 p e1 r1 => ?_, kx⟩
  obtain ⟨C, ks, ds, d, rfl, hc, hn, hl, p⟩ := p
  cases r1 with
  | ins a n l q =>
    obtain ⟨w, hw, rw⟩ := zip_lookup l q hl
    exact ⟨_, C, _, _, w, rfl, a, hc, hn, hw, kq _ _ H1 p e1 rw⟩
end
end DL

/-! The data layer, part 4: statements, own lists, loops, comprehensions, promises over data. -/
namespace DL
open PySem PySem.Spec PyProof.Rows L2

/-! ### slots of a body: data, tainted data (they may reach an own list), own lists -/
/-- what a body may own: a list, an instance, a dict -/
inductive OD where
  | l (ds : List D) | i (C : Addr) (ks : List Str) (ds : List D) | d (ks : List Key) (ds : List D)
inductive SD where
  | dat (d : D) | tnt (d : D) | own (o : OD)
def OD.shw : OD → D
  | .l ds => .lst ds
  | .i C ks ds => .ins C ks ds
  | .d ks ds => .dic ks ds
abbrev MS := List (Option SD)
def SD.shw : SD → D
  | .dat d => d
  | .tnt d => d
  | .own o => o.shw
def SD.hid : SD → Option D
  | .dat d => some d
  | _ => none
def SD.drp : SD → Option SD
  | .tnt _ => none
  | x => some x
def SD.frz : SD → SD
  | .dat d => .dat d
  | .tnt d => .dat d
  | .own o => .dat o.shw
def shw (δ : MS) : DS := δ.map (Option.map SD.shw)
def hid (δ : MS) : DS := δ.map (·.bind SD.hid)
def drp (δ : MS) : MS := δ.map (·.bind SD.drp)
def frz (δ : MS) : MS := δ.map (Option.map SD.frz)
inductive OwnH (K : PySem.W.Frag) (c : Cz K) (H : Hp) (a : Addr) : OD → Prop
  | l {vs : List V} {ds : List D} : H a = some (.lst vs) → RpAll K c H vs ds → OwnH K c H a (.l ds)
  | i {C dx : Addr} {ks : List Str} {vs : List V} {ds : List D} : H a = some (.ins C dx (ks.zip vs)) → ks.length = vs.length → RpAll K c H vs ds → OwnH K c H a (.i C ks ds)
  | d {ks : List Key} {vs : List V} {ds : List D} : H a = some (.dK (ks.zip vs)) → ks.length = vs.length → RpAll K c H vs ds → OwnH K c H a (.d ks ds)
section
variable {K : PySem.W.Frag} {c c' : Cz K} {H H' : Hp} {a : Addr} {o : OD}
theorem OwnH.re (r : OwnH K c H a o) (zz : c'.z = c.z) (w : ∀ a, There H a → ¬ c.n a → ¬ c'.n a) : OwnH K c' H a o := by
  cases r with
  | l e q => exact .l e (q.re zz w)
  | i e l q => exact .i e l (q.re zz w)
  | d e l q => exact .d e l (q.re zz w)
theorem OwnH.evn (r : OwnH K c H a o) (e : Ev c H H') (k : ∀ u, H a = some u → (∀ ps, u ≠ .tbl ps) → H' a = some u) : OwnH K c H' a o := by
  cases r with
  | l h q => exact .l (k _ h (fun _ w => by cases w)) (q.evn e)
  | i h l q => exact .i (k _ h (fun _ w => by cases w)) l (q.evn e)
  | d h l q => exact .d (k _ h (fun _ w => by cases w)) l (q.evn e)
theorem OwnH.wr {p : Addr} {u : HO} (r : OwnH K c H a o) (hp : c.n p) (ne : a ≠ p) : OwnH K c (upd H p u) a o := by
  cases r with
  | l h q => exact .l (by rw [upd_ne ne]; exact h) (q.wr hp)
  | i h l q => exact .i (by rw [upd_ne ne]; exact h) l (q.wr hp)
  | d h l q => exact .d (by rw [upd_ne ne]; exact h) l (q.wr hp)
theorem OwnH.there (r : OwnH K c H a o) : ∃ u, H a = some u ∧ (∀ ps, u ≠ .tbl ps) ∧ ∀ f, u ≠ .ext f := by
  cases r with
  | l h _ => exact ⟨_, h, fun _ w => (by cases w), fun _ w => (by cases w)⟩
  | i h _ _ => exact ⟨_, h, fun _ w => (by cases w), fun _ w => (by cases w)⟩
  | d h _ _ => exact ⟨_, h, fun _ w => (by cases w), fun _ w => (by cases w)⟩
theorem OwnH.rp (r : OwnH K c H a o) (n : ¬ c.n a) : Rp K c H (.ref a) o.shw := by
  cases r with
  | l h q => exact .lst h n q
  | i h l q => exact .ins h n l q
  | d h l q => exact .dic h n l q
end
def OwnA (σ : L2.St) (δ : MS) (a : Addr) : Prop := ∃ (i : Nat) (o : OD), δ[i]? = some (some (SD.own o)) ∧ σ[i]? = some (some (V.ref a))
/-- .. an instance -/
def OwnI (σ : L2.St) (δ : MS) (a : Addr) : Prop := ∃ (i : Nat) (C : Addr) (ks : List Str) (ds : List D), δ[i]? = some (some (SD.own (.i C ks ds))) ∧ σ[i]? = some (some (V.ref a))
structure SubO (σ' : L2.St) (δ' : MS) (σ : L2.St) (δ : MS) : Prop where
  a : ∀ x, OwnA σ' δ' x → OwnA σ δ x
  i : ∀ x, OwnI σ' δ' x → OwnI σ δ x
theorem SubO.refl {σ : L2.St} {δ : MS} : SubO σ δ σ δ := ⟨fun _ h => h, fun _ h => h⟩
theorem SubO.trans {σ σ' σ2 : L2.St} {δ δ' δ2 : MS} (x : SubO σ2 δ2 σ' δ') (y : SubO σ' δ' σ δ) : SubO σ2 δ2 σ δ := ⟨fun c h => y.a c (x.a c h), fun c h => y.i c (x.i c h)⟩
/-- the contexts of a body's expressions, of its statements -/
def Cz.ex {K : PySem.W.Frag} (z : Cz K) (σ : L2.St) (δ : MS) : Cz K := ⟨z.z, fun a => z.n a ∨ OwnA σ δ a, fun a h => .inl (z.no a h), z.o, fun a h => .inl (z.on a h)⟩
def Cz.st {K : PySem.W.Frag} (z : Cz K) (σ : L2.St) (δ : MS) : Cz K := ⟨z.z, fun a => z.n a ∨ OwnA σ δ a, fun a h => .inl (z.no a h), fun a => z.o a ∨ OwnA σ δ a, fun a h => h.imp (z.on a) id⟩
structure Sm (K : PySem.W.Frag) (z : Cz K) (H : Hp) (σ : L2.St) (δ : MS) : Prop where
  len : σ.length = δ.length
  dat : ∀ (i : Nat) (d : D), δ[i]? = some (some (SD.dat d)) → ∃ v, σ[i]? = some (some v) ∧ Rp K (z.ex σ δ) H v d
  tnt : ∀ (i : Nat) (d : D), δ[i]? = some (some (SD.tnt d)) → ∃ v, σ[i]? = some (some v) ∧ Rp K z H v d
  own : ∀ (i : Nat) (o : OD), δ[i]? = some (some (SD.own o)) → ∃ a, σ[i]? = some (some (V.ref a)) ∧ OwnH K (z.ex σ δ) H a o ∧ ¬ z.n a
  inj : ∀ (i j : Nat) (ds es : OD) (a : Addr), δ[i]? = some (some (SD.own ds)) → δ[j]? = some (some (SD.own es)) → σ[i]? = some (some (V.ref a)) → σ[j]? = some (some (V.ref a)) → i = j
section
variable {K : PySem.W.Frag} {z : Cz K} {H H' H'' : Hp} {σ σ' σ1 σ2 : L2.St} {δ δ' δ1 δ2 : MS} {d : D} {v : V}
theorem ev_ex : Ev (z.ex σ δ) H H' ↔ Ev z H H' := ⟨fun e => ⟨e.keep, e.thr, e.die, e.tab⟩, fun e => ⟨e.keep, e.thr, e.die, e.tab⟩⟩
theorem Ev.st (e : Ev z H H') : Ev (z.st σ δ) H H' := ⟨fun a o n w t => e.keep a o n (fun q => w (.inl q)) t, e.thr, e.die, e.tab⟩
theorem ex_re (sub : ∀ a, OwnA σ' δ' a → OwnA σ δ a) (r : Rp K (z.ex σ δ) H v d) : Rp K (z.ex σ' δ') H v d := r.re (z := z.ex σ δ) (y := z.ex σ' δ') rfl fun a _ (n : ¬ (z.n a ∨ OwnA σ δ a)) (q : z.n a ∨ OwnA σ' δ' a) => n (q.imp id (sub a))
theorem exo_re {a : Addr} {o : OD} (sub : ∀ a, OwnA σ' δ' a → OwnA σ δ a) (r : OwnH K (z.ex σ δ) H a o) : OwnH K (z.ex σ' δ') H a o := r.re (c := z.ex σ δ) (c' := z.ex σ' δ') rfl fun a _ (n : ¬ (z.n a ∨ OwnA σ δ a)) (q : z.n a ∨ OwnA σ' δ' a) => n (q.imp id (sub a))
theorem exo_base {a : Addr} {o : OD} (r : OwnH K (z.ex σ δ) H a o) : OwnH K z H a o := r.re (c := z.ex σ δ) (c' := z) rfl fun a _ (n : ¬ (z.n a ∨ OwnA σ δ a)) q => n (.inl q)
theorem exs_re {vs : List V} {ds : List D} (sub : ∀ a, OwnA σ' δ' a → OwnA σ δ a) (r : RpAll K (z.ex σ δ) H vs ds) : RpAll K (z.ex σ' δ') H vs ds := r.re (z := z.ex σ δ) (y := z.ex σ' δ') rfl fun a _ (n : ¬ (z.n a ∨ OwnA σ δ a)) (q : z.n a ∨ OwnA σ' δ' a) => n (q.imp id (sub a))
theorem ex_base (r : Rp K (z.ex σ δ) H v d) : Rp K z H v d := r.re (z := z.ex σ δ) (y := z) rfl fun a _ (n : ¬ (z.n a ∨ OwnA σ δ a)) q => n (.inl q)
theorem exs_base {vs : List V} {ds : List D} (r : RpAll K (z.ex σ δ) H vs ds) : RpAll K z H vs ds := r.re (z := z.ex σ δ) (y := z) rfl fun a _ (n : ¬ (z.n a ∨ OwnA σ δ a)) q => n (.inl q)
theorem Sm.there (s : Sm K z H σ δ) {a : Addr} (h : OwnA σ δ a) : (∃ u, H a = some u ∧ (∀ ps, u ≠ .tbl ps) ∧ ∀ f, u ≠ .ext f) ∧ ¬ z.n a := by
  obtain ⟨i, o, h1, h2⟩ := h
  obtain ⟨b, e1, e2, e3⟩ := s.own i o h1
  rw [h2] at e1
  cases e1
  exact ⟨e2.there, e3⟩
theorem Ok.ex (k : Ok z H) (s : Sm K z H σ δ) : Ok (z.ex σ δ) H := ⟨k.die, fun a q => q.elim (k.there a) (fun h => by
  obtain ⟨⟨u, e, t, _⟩, _⟩ := s.there h
  exact ⟨u, e, t⟩), k.tabs⟩
theorem Ok.st (k : Ok z H) (s : Sm K z H σ δ) : Ok (z.st σ δ) H := ⟨k.die, (k.ex s).there, k.tabs⟩
theorem Sm.hid (s : Sm K z H σ δ) : Sl K (z.ex σ δ) H σ (hid δ) := ⟨by simp [DL.hid, s.len], fun i d h => by
  unfold DL.hid at h
  rw [List.getElem?_map] at h
  cases q : δ[i]? with
  | none => rw [q] at h; cases h
  | some x =>
    rw [q] at h
    cases x with
    | none => cases h
    | some y =>
      cases y with
      | dat e =>
        cases h
        exact s.dat i d q
      | tnt e => cases h
      | own e => cases h⟩
theorem Sm.shw (s : Sm K z H σ δ) : Sl K z H σ (shw δ) := ⟨by simp [DL.shw, s.len], fun i d h => by
  unfold DL.shw at h
  rw [List.getElem?_map] at h
  cases q : δ[i]? with
  | none => rw [q] at h; cases h
  | some x =>
    rw [q] at h
    cases x with
    | none => cases h
    | some y =>
      cases y with
      | dat e =>
        cases h
        obtain ⟨v, a, b⟩ := s.dat i _ q
        exact ⟨v, a, ex_base b⟩
      | tnt e =>
        cases h
        exact s.tnt i _ q
      | own e =>
        cases h
        obtain ⟨a, h1, h2, h3⟩ := s.own i _ q
        exact ⟨.ref a, h1, (exo_base h2).rp h3⟩⟩
theorem Sm.ev (s : Sm K z H σ δ) (e : Ev z H H') : Sm K z H' σ δ := ⟨s.len, fun i d h => by
  obtain ⟨v, a, b⟩ := s.dat i d h
  exact ⟨v, a, b.evn (ev_ex.mpr e)⟩, fun i d h => by
  obtain ⟨v, a, b⟩ := s.tnt i d h
  exact ⟨v, a, b.evn e⟩, fun i o h => by
  obtain ⟨a, h1, h2, h3⟩ := s.own i o h
  exact ⟨a, h1, h2.evn (ev_ex.mpr e) fun u hu t => e.keep _ _ (Cz.nz h3) (Cz.nw h3) t hu, h3⟩, s.inj⟩
/-- a slot is changed, to no own list -/
theorem own_set {i : Nat} {x : Option V} {y : Option SD} (hy : ∀ ds, y ≠ some (SD.own ds)) {a : Addr} (h : OwnA (σ.set i x) (δ.set i y) a) : OwnA σ δ a := by
  obtain ⟨j, ds, h1, h2⟩ := h
  by_cases e : i = j
  · subst e
    by_cases hl : i < δ.length
    · rw [List.getElem?_set_self hl] at h1
      exact absurd (Option.some.inj h1) (hy ds)
    · rw [List.getElem?_eq_none (by simpa using hl)] at h1
      cases h1
  · rw [List.getElem?_set_ne e] at h1 h2
    exact ⟨j, ds, h1, h2⟩
theorem subO_set {i : Nat} {x : Option V} {y : Option SD} (hy : ∀ ds, y ≠ some (SD.own ds)) : SubO (σ.set i x) (δ.set i y) σ δ := ⟨fun a h => own_set hy h, fun a ⟨j, C, ks, ds, h1, h2⟩ => by
  by_cases e : i = j
  · subst e
    by_cases hl : i < δ.length
    · rw [List.getElem?_set_self hl] at h1
      exact absurd (Option.some.inj h1) (hy _)
    · rw [List.getElem?_eq_none (by simpa using hl)] at h1
      cases h1
  · rw [List.getElem?_set_ne e] at h1 h2
    exact ⟨j, C, ks, ds, h1, h2⟩⟩
theorem Sm.put (s : Sm K z H σ δ) (i : Nat) {x : Option V} {y : Option SD} (hy : ∀ ds, y ≠ some (SD.own ds)) (hd : ∀ d, y = some (SD.dat d) → ∃ v, x = some v ∧ Rp K (z.ex σ δ) H v d) (ht : ∀ d, y = some (SD.tnt d) → ∃ v, x = some v ∧ Rp K z H v d) :
    Sm K z H (σ.set i x) (δ.set i y) := by
  have sub : ∀ a, OwnA (σ.set i x) (δ.set i y) a → OwnA σ δ a := fun a h => own_set hy h
  have at_ : ∀ (j : Nat) (w : SD), (δ.set i y)[j]? = some (some w) → (j = i ∧ y = some w ∧ i < δ.length) ∨ (i ≠ j ∧ δ[j]? = some (some w)) := fun j w h => by
    by_cases e : i = j
    · subst e
      by_cases hl : i < δ.length
      · rw [List.getElem?_set_self hl] at h
        exact .inl ⟨rfl, Option.some.inj h, hl⟩
      · rw [List.getElem?_eq_none (by simpa using hl)] at h
        cases h
    · rw [List.getElem?_set_ne e] at h
      exact .inr ⟨e, h⟩
  refine ⟨by simp [s.len], fun j d h => ?_, fun j d h => ?_, fun j ds h => ?_, fun j k ds es a h1 h2 h3 h4 => ?_⟩
  · rcases at_ j _ h with ⟨rfl, e, hl⟩ | ⟨e, h⟩
    · obtain ⟨v, ev, r⟩ := hd d e
      exact ⟨v, by rw [List.getElem?_set_self (by rw [s.len]; exact hl), ev], ex_re sub r⟩
    · obtain ⟨v, ev, r⟩ := s.dat j d h
      exact ⟨v, by rw [List.getElem?_set_ne e]; exact ev, ex_re sub r⟩
  · rcases at_ j _ h with ⟨rfl, e, hl⟩ | ⟨e, h⟩
    · obtain ⟨v, ev, r⟩ := ht d e
      exact ⟨v, by rw [List.getElem?_set_self (by rw [s.len]; exact hl), ev], r⟩
    · obtain ⟨v, ev, r⟩ := s.tnt j d h
      exact ⟨v, by rw [List.getElem?_set_ne e]; exact ev, r⟩
  · rcases at_ j _ h with ⟨rfl, e, hl⟩ | ⟨e, h⟩
    · exact absurd e (hy ds)
    · obtain ⟨a, h1, h2, h3⟩ := s.own j ds h
      exact ⟨a, by rw [List.getElem?_set_ne e]; exact h1, exo_re sub h2, h3⟩
  · rcases at_ j _ h1 with ⟨rfl, e, hl⟩ | ⟨e, h1⟩
    · exact absurd e (hy ds)
    · rcases at_ k _ h2 with ⟨rfl, e2, hl⟩ | ⟨e2, h2⟩
      · exact absurd e2 (hy es)
      · rw [List.getElem?_set_ne e] at h3
        rw [List.getElem?_set_ne e2] at h4
        exact s.inj j k ds es a h1 h2 h3 h4
theorem Sm.set (s : Sm K z H σ δ) (r : Rp K (z.ex σ δ) H v d) (i : Nat) : Sm K z H (σ.set i (some v)) (δ.set i (some (SD.dat d))) :=
  s.put i (fun ds e => by cases e) (fun d' e => by cases e; exact ⟨v, rfl, r⟩) (fun d' e => by cases e)
theorem Sm.setT (s : Sm K z H σ δ) (r : Rp K z H v d) (i : Nat) : Sm K z H (σ.set i (some v)) (δ.set i (some (SD.tnt d))) :=
  s.put i (fun ds e => by cases e) (fun d' e => by cases e) (fun d' e => by cases e; exact ⟨v, rfl, r⟩)
theorem Sm.frz (s : Sm K z H σ δ) : Sm K z H σ (frz δ) := by
  have no : ∀ (i : Nat) (ds : OD), (DL.frz δ)[i]? ≠ some (some (SD.own ds)) := fun i ds h => by
    unfold DL.frz at h
    rw [List.getElem?_map] at h
    cases q : δ[i]? with
    | none => rw [q] at h; cases h
    | some x =>
      rw [q] at h
      cases x with
      | none => cases h
      | some y => cases y <;> cases h
  have noA : ∀ a, ¬ OwnA σ (DL.frz δ) a := fun a ⟨i, ds, h1, _⟩ => no i ds h1
  refine ⟨by simp [DL.frz, s.len], fun i d h => ?_, fun i d h => ?_, fun i ds h => absurd h (no i ds), fun i j ds es a h => absurd h (no i ds)⟩
  · unfold DL.frz at h
    rw [List.getElem?_map] at h
    have up : ∀ {v : V} {d : D}, Rp K z H v d → Rp K (z.ex σ (DL.frz δ)) H v d := fun r => r.re (z := z) (y := z.ex σ (DL.frz δ)) rfl fun a _ n (q : z.n a ∨ OwnA σ (DL.frz δ) a) => q.elim n (noA a)
    cases q : δ[i]? with
    | none => rw [q] at h; cases h
    | some x =>
      rw [q] at h
      cases x with
      | none => cases h
      | some y =>
        cases y with
        | dat e =>
          cases h
          obtain ⟨v, a, b⟩ := s.dat i _ q
          exact ⟨v, a, up (ex_base b)⟩
        | tnt e =>
          cases h
          obtain ⟨v, a, b⟩ := s.tnt i _ q
          exact ⟨v, a, up b⟩
        | own e =>
          cases h
          obtain ⟨a, h1, h2, h3⟩ := s.own i _ q
          exact ⟨.ref a, h1, up ((exo_base h2).rp h3)⟩
  · unfold DL.frz at h
    rw [List.getElem?_map] at h
    cases q : δ[i]? with
    | none => rw [q] at h; cases h
    | some x =>
      rw [q] at h
      cases x with
      | none => cases h
      | some y => cases y <;> cases h
/-- what a piece of a body may do -/
structure Eo {K : PySem.W.Frag} (z : Cz K) (σ : L2.St) (δ : MS) (H : Hp) (σ' : L2.St) (δ' : MS) (H' : Hp) : Prop where
  ev : Ev (z.st σ δ) H H'
  new : ∀ a, OwnA σ' δ' a → OwnA σ δ a ∨ ¬ There H a
  ins : ∀ a, OwnI σ' δ' a → OwnI σ δ a
theorem Eo.refl : Eo z σ δ H σ δ H := ⟨.refl, fun _ h => .inl h, fun _ h => h⟩
theorem Eo.of (e : Ev z H H') (sub : SubO σ' δ' σ δ) : Eo z σ δ H σ' δ' H' := ⟨e.st, fun a h => .inl (sub.a a h), sub.i⟩
theorem ev_seq (e : Ev (z.st σ δ) H H') (new : ∀ a, OwnA σ1 δ1 a → OwnA σ δ a ∨ ¬ There H a) (f : Ev (z.st σ1 δ1) H' H'') : Ev (z.st σ δ) H H'' := ⟨fun a o n w t h => f.keep a o n (fun q => q.elim (fun q => w (.inl q)) fun q => (new a q).elim (fun q => w (.inr q)) fun q => q ⟨o, h, t⟩) t (e.keep a o n w t h),
  fun a h => f.thr a (e.thr a h), fun a n h => f.die a n (e.die a n h), fun d h => f.tab (fun a c => e.die a c (d a c)) (e.tab d h)⟩
theorem Eo.trans (e : Eo z σ δ H σ1 δ1 H') (f : Eo z σ1 δ1 H' σ2 δ2 H'') : Eo z σ δ H σ2 δ2 H'' := ⟨ev_seq e.ev e.new f.ev, fun a h => by
  rcases f.new a h with h | h
  · exact e.new a h
  · exact .inr fun t => h (e.ev.thr a t), fun a h => e.ins a (f.ins a h)⟩
theorem ok_st (k : Ok z H) (e : Ev (z.st σ δ) H H') : Ok z H' := ⟨fun a q => e.die a q (k.die a q), fun a q => e.thr a (k.there a q), e.tab k.die k.tabs⟩
end

structure MEnds where
  nx : MS → Prop
  rt : PQ
  bk : MS → Prop := fun _ => False
  ct : MS → Prop := fun _ => False
abbrev DSt := MS → MEnds → (XD → MS → Prop) → Prop
theorem xr_re {K : PySem.W.Frag} {z y : Cz K} {H : Hp} {c : Value} {dd : Option Addr} {x : XD} (zz : y.z = z.z) (w : ∀ a, There H a → ¬ z.n a → ¬ y.n a) (r : Xr K z H c dd x) : Xr K y H c dd x := by
  cases r with
  | own C => exact .own C
  | fld a l q => exact .fld a l (q.re zz w)
/-- what is wished behind a statement -/
structure Cn (K : PySem.W.Frag) (W : WX) (z : Cz K) (σ : L2.St) (δ : MS) (H : Hp) (e : MEnds) (E : XD → MS → Prop) (T : Ends) : Prop where
  nx : ∀ δ' σ' H', e.nx δ' → Eo z σ δ H σ' δ' H' → Sm K z H' σ' δ' → T.nx σ' H'
  rt : ∀ d v H', e.rt d → Ev (z.st σ δ) H H' → Rp K z H' v d → T.rt v H'
  bk : ∀ δ' σ' H', e.bk δ' → Eo z σ δ H σ' δ' H' → Sm K z H' σ' δ' → T.bk σ' H'
  ct : ∀ δ' σ' H', e.ct δ' → Eo z σ δ H σ' δ' H' → Sm K z H' σ' δ' → T.ct σ' H'
  xx : ∀ x δ' c dd σ' H', E x δ' → Eo z σ δ H σ' δ' H' → Sm K z H' σ' δ' → Xr K z H' c dd x → W c dd σ' H'
def upS (K : PySem.W.Frag) (W : WX) (f : DSt) : TS := fun T σ H => ∃ z δ e E, Ok z H ∧ Sm K z H σ δ ∧ f δ e E ∧ Cn K W z σ δ H e E T
section
variable {K : PySem.W.Frag} {W : WX} {z : Cz K} {H H' : Hp} {σ σ' : L2.St} {δ δ' : MS} {e : MEnds} {E : XD → MS → Prop} {T : Ends} {P : PQ} {Q : VK} {f : DE}
theorem Cn.move (c : Cn K W z σ δ H e E T) (o : Eo z σ δ H σ' δ' H') : Cn K W z σ' δ' H' e E T := ⟨fun a b h p q => c.nx a b h p (o.trans q), fun d v h p q => c.rt d v h p (ev_seq o.ev o.new q), fun a b h p q => c.bk a b h p (o.trans q), fun a b h p q => c.ct a b h p (o.trans q), fun x a cc dd b h p q => c.xx x a cc dd b h p (o.trans q)⟩
theorem Cn.ev (c : Cn K W z σ δ H e E T) (o : Ev z H H') : Cn K W z σ δ H' e E T := c.move (.of o .refl)
theorem Cn.kx (c : Cn K W z σ δ H e E T) (sm : Sm K z H σ δ) : Kx K (z.ex σ δ) H σ (fun x => E x δ) W := fun x c' dd H' hx ev r => c.xx x δ c' dd σ H' hx (.of (ev_ex.mp ev) .refl) (sm.ev (ev_ex.mp ev)) (xr_re (z := z.ex σ δ) (y := z) rfl (fun a _ (n : ¬ (z.n a ∨ OwnA σ δ a)) q => n (.inl q)) r)
theorem Cn.kxs (c : Cn K W z σ δ H e E T) (sm : Sm K z H σ δ) : Kx K z H σ (fun x => E x δ) W := fun x c' dd H' hx ev r => c.xx x δ c' dd σ H' hx (.of ev .refl) (sm.ev ev) r
/-- an expression of a body, its own lists hidden -/
theorem run_hid (ok : Ok z H) (sm : Sm K z H σ δ) (cn : Cn K W z σ δ H e E T) (hf : f (hid δ) P (fun x => E x δ)) (k : ∀ d v H', P d → Ev z H H' → Ok z H' → Sm K z H' σ δ → Cn K W z σ δ H' e E T → Rp K (z.ex σ δ) H' v d → Q v H') : up K W f σ H Q :=
  ⟨z.ex σ δ, hid δ, P, _, ok.ex sm, sm.hid, hf, fun d v H' p ev r => k d v H' p (ev_ex.mp ev) (ok.ev (ev_ex.mp ev)) (sm.ev (ev_ex.mp ev)) (cn.ev (ev_ex.mp ev)) r, cn.kx sm⟩
/-- .. its own lists read as lists -/
theorem run_shw (ok : Ok z H) (sm : Sm K z H σ δ) (cn : Cn K W z σ δ H e E T) (hf : f (shw δ) P (fun x => E x δ)) (k : ∀ d v H', P d → Ev z H H' → Ok z H' → Sm K z H' σ δ → Cn K W z σ δ H' e E T → Rp K z H' v d → Q v H') : up K W f σ H Q :=
  ⟨z, shw δ, P, _, ok, sm.shw, hf, fun d v H' p ev r => k d v H' p ev (ok.ev ev) (sm.ev ev) (cn.ev ev) r, cn.kxs sm⟩
theorem runT_shw {f : DT} {P : Bool → Prop} {Q : Bool → Hp → Prop} (ok : Ok z H) (sm : Sm K z H σ δ) (cn : Cn K W z σ δ H e E T) (hf : f (shw δ) P (fun x => E x δ)) (k : ∀ b H', P b → Ok z H' → Sm K z H' σ δ → Cn K W z σ δ H' e E T → Q b H') : upT K W f σ H Q :=
  ⟨z, shw δ, P, _, ok, sm.shw, hf, fun b H' p ev => k b H' p (ok.ev ev) (sm.ev ev) (cn.ev ev), cn.kxs sm⟩
theorem runA_hid {f : DA} {P : List D → Prop} {Q : List V → Hp → Prop} (ok : Ok z H) (sm : Sm K z H σ δ) (cn : Cn K W z σ δ H e E T) (hf : f (hid δ) P (fun x => E x δ)) (k : ∀ ds vs H', P ds → Ev z H H' → Ok z H' → Sm K z H' σ δ → Cn K W z σ δ H' e E T → RpAll K (z.ex σ δ) H' vs ds → Q vs H') : upA K W f σ H Q :=
  ⟨z.ex σ δ, hid δ, P, _, ok.ex sm, sm.hid, hf, fun d v H' p ev r => k d v H' p (ev_ex.mp ev) (ok.ev (ev_ex.mp ev)) (sm.ev (ev_ex.mp ev)) (cn.ev (ev_ex.mp ev)) r, cn.kx sm⟩
end

/-! ### statements -/
def dNext : DSt := fun δ e _ => e.nx δ
def dSeq (f g : DSt) : DSt := fun δ e E => f δ { e with nx := fun δ' => g δ' e E } E
def dRet (f : DE) : DSt := fun δ e E => f (shw δ) e.rt (fun x => E x δ)
def dRetN : DSt := fun _ e _ => e.rt .non
def dIfS (t : DT) (f g : DSt) : DSt := fun δ e E => t (shw δ) (fun c => if c = true then f δ e E else g δ e E) (fun x => E x δ)
def dDrop (f : DE) : DSt := fun δ e E => f (shw δ) (fun _ => e.nx δ) (fun x => E x δ)
/-- targets of statements -/
abbrev MG := D → MS → (MS → Prop) → Prop
def mName (i : Nat) : MG := fun d δ k => k (δ.set i (some (SD.dat d)))
abbrev MGs := List D → MS → (MS → Prop) → Prop
def mNil : MGs := fun ds δ k => ds = [] ∧ k δ
def mCons (g : MG) (h : MGs) : MGs := fun ds δ k => ∃ d r, ds = d :: r ∧ g d δ fun δ' => h r δ' k
def mTup (n : Nat) (h : MGs) : MG := fun d δ k => ∃ xs, seqOf d = some xs ∧ xs.length = n ∧ h xs δ k
def dAsg (f : DE) (g : MG) : DSt := fun δ e E => f (hid δ) (fun d => g d δ e.nx) (fun x => E x δ)
/-- name = e, e reads own lists -/
def dAsgS (f : DE) (i : Nat) : DSt := fun δ e E => f (shw δ) (fun d => e.nx (δ.set i (some (SD.tnt d)))) (fun x => E x δ)
def dBreak : DSt := fun δ e _ => e.bk δ
def dCont : DSt := fun δ e _ => e.ct δ
/-- own lists are data from here on -/
def dFrz (f : DSt) : DSt := fun δ e E => f (frz δ) e E
def upG (K : PySem.W.Frag) (g : MG) : TG := fun v σ H Q => ∃ z δ d k, Sm K z H σ δ ∧ Rp K (z.ex σ δ) H v d ∧ g d δ k ∧ ∀ δ' σ', k δ' → Sm K z H σ' δ' → SubO σ' δ' σ δ → Q σ' H
def upGs (K : PySem.W.Frag) (g : MGs) : TGs := fun vs σ H Q => ∃ z δ ds k, Sm K z H σ δ ∧ RpAll K (z.ex σ δ) H vs ds ∧ g ds δ k ∧ ∀ δ' σ', k δ' → Sm K z H σ' δ' → SubO σ' δ' σ δ → Q σ' H
section
variable {X : Cx} {W : WX} {st : Stmt} {sts : List Stmt} {e c : Expr} {f g : DSt} {fe : DE} {ft : DT} {gt : MG} {gts : MGs} {pos pos' : Pos}
theorem PG_imp {t t' : TG} (h : PG X e t) (hi : ∀ v σ H Q, t' v σ H Q → t v σ H Q) : PG X e t' := ⟨fun pins s σ H v u Q I r q => h.run pins s σ H v u Q I r (hi v σ H Q q)⟩
theorem PGs_imp {es : List Expr} {t t' : TGs} (h : PGs X es t) (hi : ∀ v σ H Q, t' v σ H Q → t v σ H Q) : PGs X es t' := ⟨fun pins s σ H vs us Q I r q => h.run pins s σ H vs us Q I r (hi vs σ H Q q)⟩
theorem pds_nil : PSs X [] (upS X.K W dNext) := PSs_imp pss_nil fun T σ H ⟨z, δ, e, E, ok, sm, hf, cn⟩ => cn.nx δ σ H hf .refl sm
theorem pds_cons (h1 : PS X st (upS X.K W f)) (h2 : PSs X sts (upS X.K W g)) : PSs X (st :: sts) (upS X.K W (dSeq f g)) :=
  PSs_imp (pss_cons h1 h2) fun T σ H ⟨z, δ, e, E, ok, sm, hf, cn⟩ => ⟨z, δ, { e with nx := fun δ' => g δ' e E }, E, ok, sm, hf, ⟨fun δ' σ' H' q o s1 => ⟨z, δ', e, E, ok_st ok o.ev, s1, q, cn.move o⟩, cn.rt, cn.bk, cn.ct, cn.xx⟩⟩
theorem pds_one (h1 : PS X st (upS X.K W f)) : PSs X [st] (upS X.K W f) := pss_one h1
theorem frz_own (δ : MS) (i : Nat) (o : OD) : (frz δ)[i]? ≠ some (some (SD.own o)) := fun h1 => by
  unfold frz at h1
  rw [List.getElem?_map] at h1
  cases q : δ[i]? with
  | none => rw [q] at h1; cases h1
  | some x =>
    rw [q] at h1
    cases x with
    | none => cases h1
    | some y => cases y <;> cases h1
theorem pds_frz (h1 : PS X st (upS X.K W f)) : PS X st (upS X.K W (dFrz f)) :=
  PS_imp h1 fun T σ H ⟨z, δ, e, E, ok, sm, hf, cn⟩ => ⟨z, frz δ, e, E, ok, sm.frz, hf, cn.move ⟨.refl, fun a ⟨i, o, h, _⟩ => absurd h (frz_own δ i o), fun a ⟨i, C, ks, ds, h, _⟩ => absurd h (frz_own δ i _)⟩⟩
theorem pds_ret (he : PE X e (up X.K W fe)) : PS X (.Return (some e) pos) (upS X.K W (dRet fe)) :=
  PS_imp (ps_ret he) fun T σ H ⟨z, δ, e, E, ok, sm, hf, cn⟩ => ⟨z, shw δ, _, _, ok, sm.shw, hf, fun d v H' p ev r => cn.rt d v H' p ev.st r, cn.kxs sm⟩
theorem pds_retN : PS X (.Return none pos) (upS X.K W dRetN) := PS_imp ps_retN fun T σ H ⟨z, δ, e, E, ok, sm, hf, cn⟩ => cn.rt _ _ H hf .refl .non
theorem pds_pass : PS X (.Pass pos) (upS X.K W dNext) := PS_imp ps_pass fun T σ H ⟨z, δ, e, E, ok, sm, hf, cn⟩ => cn.nx δ σ H hf .refl sm
theorem pds_break : PS X (.Break pos) (upS X.K W dBreak) := PS_imp ps_break fun T σ H ⟨z, δ, e, E, ok, sm, hf, cn⟩ => cn.bk δ σ H hf .refl sm
theorem pds_continue : PS X (.Continue pos) (upS X.K W dCont) := PS_imp ps_continue fun T σ H ⟨z, δ, e, E, ok, sm, hf, cn⟩ => cn.ct δ σ H hf .refl sm
theorem pds_if {a b : List Stmt} (hc : PT X c (upT X.K W ft)) (ha : PSs X a (upS X.K W f)) (hb : PSs X b (upS X.K W g)) : PS X (.If c a b pos) (upS X.K W (dIfS ft f g)) := by
  refine PS_imp (ps_if hc ha hb) fun T σ H ⟨z, δ, e, E, ok, sm, hf, cn⟩ => ?_
  refine runT_shw ok sm cn hf fun c H' p ok1 sm1 cn1 => ?_
  by_cases hc : c = true
  · rw [if_pos hc] at p ⊢
    exact ⟨z, δ, e, E, ok1, sm1, p, cn1⟩
  · rw [if_neg hc] at p ⊢
    exact ⟨z, δ, e, E, ok1, sm1, p, cn1⟩
theorem pds_expr (he : PE X e (up X.K W fe)) (hs : swapsWith e none pos.line X.env = pure false := by rfl) : PS X (.Expr e pos) (upS X.K W (dDrop fe)) :=
  PS_imp (ps_expr he hs) fun T σ H ⟨z, δ, e, E, ok, sm, hf, cn⟩ => run_shw ok sm cn hf fun d v H' p ev ok1 sm1 cn1 r => cn1.nx δ σ H' p .refl sm1
theorem pdg_name {i : Nat} (h : PG X e (gName i)) : PG X e (upG X.K (mName i)) :=
  PG_imp h fun v σ H Q ⟨z, δ, d, k, sm, r, hk, kq⟩ => kq _ _ hk (sm.set r i) (subO_set (fun ds e => by cases e))
theorem pdgs_nil : PGs X [] (upGs X.K mNil) :=
  PGs_imp pgs_nil fun vs σ H Q ⟨z, δ, ds, k, sm, r, ⟨e, hk⟩, kq⟩ => by
    subst e
    cases r
    exact ⟨rfl, kq _ _ hk sm .refl⟩
theorem pdgs_cons {es : List Expr} (h1 : PG X e (upG X.K gt)) (h2 : PGs X es (upGs X.K gts)) (hs : (assignEach (e :: es) X.env).map (·.2) = assign e X.env :: (assignEach es X.env).map (·.2) := by rfl) : PGs X (e :: es) (upGs X.K (mCons gt gts)) :=
  PGs_imp (pgs_cons h1 h2 hs) fun vs σ H Q ⟨z, δ, ds, k, sm, r, ⟨d, ds', e, hk⟩, kq⟩ => by
    subst e
    cases r with
    | cons a b => exact ⟨_, _, rfl, z, δ, d, _, sm, a, hk, fun δ' σ' hk2 s1 sub => ⟨z, δ', ds', k, s1, exs_re sub.a b, hk2, fun δ2 σ2 h3 s2 sub2 => kq δ2 σ2 h3 s2 (sub2.trans sub)⟩⟩
theorem pdg_tup {es : List Expr} {k n : Nat} (hc : X.calm = true) (h : PGs X es (upGs X.K gts)) (hn : (assignEach es X.env).length = n := by rfl) (hst : (assignEach es X.env).findIdx? (·.1) = none := by rfl) : PG X (.Tuple es k pos) (upG X.K (mTup n gts)) := by
  have h1 := pg_tup (k := k) (pos := pos) hc h hn hst
  have h2 := pg_lst (k := k) (pos := pos) hc h hn hst
  refine ⟨fun pins s σ H v u Q I r q => ?_⟩
  obtain ⟨z, δ, d, kk, sm, rp, ⟨xs, hx, hl, hk⟩, kq⟩ := q
  cases rp with
  | tup a q =>
    cases hx
    exact h1.run pins s σ H _ u Q I r ⟨_, _, rfl, a.sq, by rw [q.len]; exact hl, z, δ, _, kk, sm, q, hk, kq⟩
  | lst a n q =>
    cases hx
    exact h2.run pins s σ H _ u Q I r ⟨_, _, rfl, SqL.of a, by rw [q.len]; exact hl, z, δ, _, kk, sm, q, hk, kq⟩
  | _ => cases hx
theorem asg_up (T : Ends) {σ : L2.St} {H : Hp} {tg : TG} (hg : ∀ v σ H Q, upG X.K gt v σ H Q → tg v σ H Q) (h : upS X.K W (dAsg fe gt) T σ H) : tAsg (up X.K W fe) tg T σ H := by
  obtain ⟨z, δ, e, E, ok, sm, hf, cn⟩ := h
  exact run_hid ok sm cn hf fun d v H' p ev ok1 sm1 cn1 r => hg _ _ _ _ ⟨z, δ, d, e.nx, sm1, r, p, fun δ' σ' q s2 sub => cn1.nx δ' σ' H' q (.of .refl sub) s2⟩
theorem pds_asg {tg : Expr} (he : PE X e (up X.K W fe)) (hg : PG X tg (upG X.K gt)) (hs : swapsWithSole [tg] e pos.line X.env = pure false := by rfl) (hw : swappedStores [tg] e X.env = pure none := by rfl)
    (h1 : (assignEach [tg] X.env).map (·.2) = [assign tg X.env] := by rfl) : PS X (.Assign [tg] e pos) (upS X.K W (dAsg fe gt)) :=
  PS_imp (ps_asg he hg hs hw h1) fun T σ H h => asg_up T (fun _ _ _ _ q => q) h
theorem name_up {i : Nat} (v : V) (σ : L2.St) (H : Hp) (Q : L2.St → Hp → Prop) (h : upG X.K (mName i) v σ H Q) : gName i v σ H Q := by
  obtain ⟨z, δ, d, k, sm, r, hk, kq⟩ := h
  exact kq _ _ hk (sm.set r i) (subO_set (fun ds e => by cases e))
theorem pds_set {i : Nat} {x : Str} (hN : X.N.Nodup) (hi : X.N[i]? = some x) (hx : Loc X.env.scope x) (he : PE X e (up X.K W fe)) (hs : swapsWith e (some (.Name x pos')) pos.line X.env = pure false := by rfl) (hf : X.fn x = true ∨ X.env.scope.names.lookup x = some .local := by first | exact .inl rfl | exact .inr rfl | assumption) :
    PS X (.Assign [.Name x pos'] e pos) (upS X.K W (dAsg fe (mName i))) :=
  PS_imp (ps_set hN hi hx he hs hf) fun T σ H h => asg_up T name_up h
theorem pds_setS {i : Nat} {x : Str} (hN : X.N.Nodup) (hi : X.N[i]? = some x) (hx : Loc X.env.scope x) (he : PE X e (up X.K W fe)) (hs : swapsWith e (some (.Name x pos')) pos.line X.env = pure false := by rfl) (hf : X.fn x = true ∨ X.env.scope.names.lookup x = some .local := by first | exact .inl rfl | exact .inr rfl | assumption) :
    PS X (.Assign [.Name x pos'] e pos) (upS X.K W (dAsgS fe i)) :=
  PS_imp (ps_set hN hi hx he hs hf) fun T σ H ⟨z, δ, e, E, ok, sm, hf, cn⟩ => run_shw ok sm cn hf fun d v H' p ev ok1 sm1 cn1 r => cn1.nx _ _ H' p (.of .refl (subO_set (fun ds e => by cases e))) (sm1.setT r i)
end

/-! ### what is walked -/
/-- an iterator that yields these data while the heap goes on -/
structure ItD (K : PySem.W.Frag) (c : Cz K) (J : It) (ds : List D) (H0 : Hp) : Prop where
  go : ∀ i H, Ev c H0 H → i < ds.length → J.go i H
  stop : ∀ i H, Ev c H0 H → i = ds.length → J.stop i H
  yld : ∀ i H x H', Ev c H0 H → i < ds.length → J.yld i H x H' → H' = H ∧ ∃ d, ds[i]? = some d ∧ Rp K c H0 x d
abbrev DI := DS → (List D → Prop) → XQ → Prop
/-- another context over the same dice, that shuts off new places alone -/
structure okc {K : PySem.W.Frag} (z y : Cz K) (H : Hp) : Prop where
  zz : y.z = z.z
  new : ∀ a, There H a → ¬ z.n a → ¬ y.n a
def upI (K : PySem.W.Frag) (W : WX) (f : DI) : TI := fun σ H R => ∃ z δ P E, Ok z H ∧ Sl K z H σ δ ∧ f δ P E ∧ (∀ ds H' J, P ds → Ev z H H' → (∀ y : Cz K, okc z y H' → ItD K y J ds H') → R J H') ∧ Kx K z H σ E W
section
variable {X : Cx} {W : WX} {tg e : Expr} {f : DE}
theorem PI_imp {t t' : TI} (h : PI X tg e t) (hi : ∀ σ H R, t' σ H R → t σ H R) : PI X tg e t' := ⟨fun pins s σ H R I q => h.run pins s σ H R I (hi σ H R q)⟩
theorem PI_or {t t' : TI} (h : PI X tg e t) (h' : PI X tg e t') : PI X tg e (fun σ H R => t σ H R ∨ t' σ H R) := ⟨fun pins s σ H R I q => q.elim (h.run pins s σ H R I) (h'.run pins s σ H R I)⟩
/-- the items of a list, a tuple; the signs of a text -/
def signsD (s : Str) : List D := s.cps.toList.map fun c => .str (sg c)
def dLstI (f : DE) : DI := fun δ P E => f δ (fun d => ∃ xs, d = .lst xs ∧ P xs) E
def dTupI (f : DE) : DI := fun δ P E => f δ (fun d => ∃ xs, d = .tup xs ∧ P xs) E
def dStrI (f : DE) : DI := fun δ P E => f δ (fun d => ∃ s, d = .str s ∧ P (signsD s)) E
theorem itd_list {K : PySem.W.Frag} {y : Cz K} {H : Hp} {a : Addr} {vs : List V} {ds : List D} (h : H a = some (.lst vs)) (ny : ¬ y.n a) (r : RpAll K y H vs ds) : ItD K y (Itl K a) ds H := by
  have hl := r.len
  refine ⟨fun i H' e hi => ?_, fun i H' e hi => ⟨vs, SqL.of (e.keep _ _ (Cz.nz ny) (Cz.nw ny) (fun _ w => by cases w) h), by omega⟩, fun i H' x H'' e hi q => ?_⟩
  · obtain ⟨d, hd⟩ : ∃ d, ds[i]? = some d := ⟨_, List.getElem?_eq_getElem hi⟩
    obtain ⟨v, hv, _⟩ := r.getD hd
    exact ⟨vs, v, SqL.of (e.keep _ _ (Cz.nz ny) (Cz.nw ny) (fun _ w => by cases w) h), hv⟩
  · obtain ⟨rfl, q⟩ := q
    have hv := q vs (SqL.of (e.keep _ _ (Cz.nz ny) (Cz.nw ny) (fun _ w => by cases w) h))
    obtain ⟨d, hd, rd⟩ := r.get hv
    exact ⟨rfl, d, hd, rd⟩
theorem itd_tup {K : PySem.W.Frag} {y : Cz K} {H : Hp} {a : Addr} {vs : List V} {ds : List D} (h : TpA K y H a vs) (r : RpAll K y H vs ds) : ItD K y (Itt K a) ds H := by
  have hl := r.len
  refine ⟨fun i H' e hi => ?_, fun i H' e hi => ⟨vs, (tpA_ev h e).sq, by omega⟩, fun i H' x H'' e hi q => ?_⟩
  · obtain ⟨d, hd⟩ : ∃ d, ds[i]? = some d := ⟨_, List.getElem?_eq_getElem hi⟩
    obtain ⟨v, hv, _⟩ := r.getD hd
    exact ⟨vs, v, (tpA_ev h e).sq, hv⟩
  · obtain ⟨rfl, q⟩ := q
    have hv := q vs (tpA_ev h e).sq
    obtain ⟨d, hd, rd⟩ := r.get hv
    exact ⟨rfl, d, hd, rd⟩
theorem itd_str {K : PySem.W.Frag} {y : Cz K} {H : Hp} (s : Str) : ItD K y (Its s) (signsD s) H := by
  have hl : (signsD s).length = s.cps.size := by simp [signsD]
  refine ⟨fun i H' e hi => ?_, fun i H' e hi => ?_, fun i H' x H'' e hi q => ?_⟩
  · show i < s.cps.size
    omega
  · show s.cps.size ≤ i
    omega
  · obtain ⟨rfl, c, hc, rfl⟩ := q
    refine ⟨rfl, .str (sg c), ?_, .str _⟩
    unfold signsD
    rw [List.getElem?_map, Array.getElem?_toList, hc]
    rfl
def rangeD (lo : Int) (n : Nat) : List D := (List.range n).map fun (i : Nat) => D.int (lo + (i : Int))
theorem itd_range {K : PySem.W.Frag} {y : Cz K} {H : Hp} (lo : Int) (n : Nat) : ItD K y (Itr lo n) (rangeD lo n) H := by
  have hl : (rangeD lo n).length = n := by simp [rangeD]
  refine ⟨fun i H' e hi => by rw [hl] at hi; exact hi, fun i H' e hi => by rw [hl] at hi; exact Nat.le_of_eq hi.symm, fun i H' x H'' e hi q => ?_⟩
  rw [hl] at hi
  obtain ⟨rfl, rfl⟩ := q
  refine ⟨rfl, .int (lo + i), ?_, .int _⟩
  unfold rangeD
  rw [List.getElem?_map, List.getElem?_range hi]
  rfl
theorem pdi_list (he : PE X e (up X.K W f)) : PI X tg e (upI X.K W (dLstI f)) := by
  refine PI_imp (pi_list he) fun σ H R ⟨z, δ, P, E, ok, sl, hf, kq, kx⟩ => ?_
  refine ⟨z, δ, _, E, ok, sl, hf, fun d v H1 p e1 r1 => ?_, kx⟩
  obtain ⟨xs, rfl, p⟩ := p
  cases r1 with
  | lst a n q => exact ⟨_, rfl, ⟨_, SqL.of a⟩, kq _ H1 _ p e1 fun y h => itd_list a (h.new _ ⟨_, a, fun _ q => (by cases q)⟩ n) (q.re h.zz h.new)⟩
theorem pdi_tup (he : PE X e (up X.K W f)) : PI X tg e (upI X.K W (dTupI f)) := by
  refine PI_imp (pi_tup he) fun σ H R ⟨z, δ, P, E, ok, sl, hf, kq, kx⟩ => ?_
  refine ⟨z, δ, _, E, ok, sl, hf, fun d v H1 p e1 r1 => ?_, kx⟩
  obtain ⟨xs, rfl, p⟩ := p
  cases r1 with
  | tup a q => exact ⟨_, rfl, ⟨_, a.sq⟩, kq _ H1 _ p e1 fun y h => itd_tup (a.elim (fun a => .inl ⟨a.1, h.new _ ⟨_, a.1, fun _ q => (by cases q)⟩ a.2⟩) .inr) (q.re h.zz h.new)⟩
theorem pdi_str (he : PE X e (up X.K W f)) : PI X tg e (upI X.K W (dStrI f)) := by
  refine PI_imp (pi_str he) fun σ H R ⟨z, δ, P, E, ok, sl, hf, kq, kx⟩ => ?_
  refine ⟨z, δ, _, E, ok, sl, hf, fun d v H1 p e1 r1 => ?_, kx⟩
  obtain ⟨s, rfl, p⟩ := p
  cases r1
  exact ⟨s, rfl, kq _ H1 _ p e1 fun y h => itd_str s⟩
/-- range(j), range(i, j) -/
def dRng1 (f : DA) : DI := fun δ P E => f δ (fun ds => ∃ j : Int, ds = [.int j] ∧ -(2 ^ 62) ≤ j ∧ j < 2 ^ 62 ∧ P (rangeD 0 j.toNat)) E
def dRng2 (f : DA) : DI := fun δ P E => f δ (fun ds => ∃ i j : Int, ds = [.int i, .int j] ∧ (-(2 ^ 62) ≤ i ∧ i < 2 ^ 62 ∧ -(2 ^ 62) ≤ j ∧ j < 2 ^ 62) ∧ P (rangeD i (j - i).toNat)) E
variable {fa : DA} {es : List Expr}
theorem pdi_rng1 (h : PI X tg e (iRng1 (upA X.K W fa))) : PI X tg e (upI X.K W (dRng1 fa)) := by
  refine PI_imp h fun σ H R ⟨z, δ, P, E, ok, sl, hf, kq, kx⟩ => ?_
  refine ⟨z, δ, _, E, ok, sl, hf, fun ds vs H1 p e1 r1 => ?_, kx⟩
  obtain ⟨j, rfl, h1, h2, p⟩ := p
  cases r1 with
  | cons a b =>
    cases b
    cases a
    exact ⟨j, rfl, h1, h2, kq _ H1 _ p e1 fun y h => itd_range 0 _⟩
theorem pdi_rng2 (h : PI X tg e (iRng2 (upA X.K W fa))) : PI X tg e (upI X.K W (dRng2 fa)) := by
  refine PI_imp h fun σ H R ⟨z, δ, P, E, ok, sl, hf, kq, kx⟩ => ?_
  refine ⟨z, δ, _, E, ok, sl, hf, fun ds vs H1 p e1 r1 => ?_, kx⟩
  obtain ⟨i, j, rfl, h1, p⟩ := p
  cases r1 with
  | cons a b =>
    cases b with
    | cons c d =>
      cases d
      cases a
      cases c
      exact ⟨i, j, rfl, h1, kq _ H1 _ p e1 fun y h => itd_range i _⟩
end

/-! ### for -/
def dForL (g : MG) (body : DSt) : List D → DSt
  | [] => fun δ e _ => e.nx δ
  | x :: xs => fun δ e E => g x δ fun δ1 => body δ1 { nx := fun δ' => dForL g body xs δ' e E, rt := e.rt, bk := e.nx, ct := fun δ' => dForL g body xs δ' e E } E
def dFor (fi : DI) (g : MG) (body : DSt) : DSt := fun δ e E => fi (hid δ) (fun xs => dForL g body xs δ e E) (fun x => E x δ)
section
variable {X : Cx} {W : WX} {tg iter : Expr} {body : List Stmt} {fi : DI} {g : MG} {fb : DSt} {pos : Pos}
theorem drop_at {α : Type} {l : List α} {i : Nat} {d : α} (hlt : i < l.length) (hd : l[i]? = some d) : l.drop i = d :: l.drop (i + 1) := by
  rw [List.drop_eq_getElem_cons hlt]
  congr 1
  rw [List.getElem?_eq_getElem hlt] at hd
  exact Option.some.inj hd
/-- an item of what was there when the loop began -/
theorem item_now {K : PySem.W.Frag} {z : Cz K} {H1 H2 : Hp} {σ σ2 : L2.St} {δ δ2 : MS} {d : D} {v : V} (r : Rp K (z.st σ δ) H1 v d) (o : Eo z σ δ H1 σ2 δ2 H2) : Rp K (z.ex σ2 δ2) H2 v d := by
  let c : Cz K := ⟨z.z, fun a => z.n a ∨ OwnA σ δ a ∨ OwnA σ2 δ2 a, fun a h => .inl (z.no a h), fun a => z.o a ∨ OwnA σ δ a, fun a h => h.elim (fun h => .inl (z.on a h)) fun h => .inr (.inl h)⟩
  have r1 : Rp K c H1 v d := r.re (z := z.st σ δ) (y := c) rfl fun a ha (n : ¬ (z.n a ∨ OwnA σ δ a)) (q : z.n a ∨ OwnA σ δ a ∨ OwnA σ2 δ2 a) => by
    rcases q with q | q | q
    · exact n (.inl q)
    · exact n (.inr q)
    · exact (o.new a q).elim (fun h => n (.inr h)) fun h => h ha
  have e : Ev c H1 H2 := ⟨o.ev.keep, o.ev.thr, o.ev.die, o.ev.tab⟩
  exact (r1.evn e).re (z := c) (y := z.ex σ2 δ2) rfl fun a _ (n : ¬ (z.n a ∨ OwnA σ δ a ∨ OwnA σ2 δ2 a)) (q : z.n a ∨ OwnA σ2 δ2 a) => n (q.imp id .inr)
theorem pds_for (hp : PassesOwn (model X.prog X.w) X.A X.env X.xe) (hc : X.calm = true) (hi : PI X tg iter (upI X.K W fi)) (hg : PG X tg (upG X.K g)) (hb : PSs X body (upS X.K W fb)) (hs : ∀ x, foldedSetIterable iter X.env x = pure x := by intro _; rfl) :
    PS X (.For tg iter body [] pos) (upS X.K W (dFor fi g fb)) := by
  refine PS_imp (ps_for hp hc hi hg hb hs) fun T σ H ⟨z, δ, e, E, ok, sm, hf, cn⟩ => ?_
  refine ⟨z.ex σ δ, hid δ, _, _, ok.ex sm, sm.hid, hf, fun ds H1 J p ev it => ?_, cn.kx sm⟩
  have e1 := ev_ex.mp ev
  have ok1 := ok.ev e1
  have sm1 := sm.ev e1
  have cn1 := cn.ev e1
  have it := it (z.st σ δ) ⟨rfl, fun _ _ h => h⟩
  refine ⟨fun i m σ' H' => m = ds.length - i ∧ i ≤ ds.length ∧ ∃ δ', Eo z σ δ H1 σ' δ' H' ∧ Sm X.K z H' σ' δ' ∧ dForL g fb (ds.drop i) δ' e E, ⟨ds.length, by simp, Nat.zero_le _, δ, .refl, sm1, p⟩, ?_⟩
  rintro i m σ2 H2 ⟨rfl, hi, δ2, o2, s2, p2⟩
  by_cases hlt : i < ds.length
  · refine .inr ⟨it.go i H2 o2.ev hlt, fun σ' H' => ∃ δ', Eo z σ δ H1 σ' δ' H' ∧ Sm X.K z H' σ' δ' ∧ dForL g fb (ds.drop (i + 1)) δ' e E, fun σ' H' q => ⟨ds.length - (i + 1), by omega, rfl, hlt, q⟩, fun x H3 hy => ?_⟩
    obtain ⟨rfl, d, hd, rd⟩ := it.yld i H2 x H3 o2.ev hlt hy
    rw [drop_at hlt hd] at p2
    refine ⟨z, δ2, d, _, s2, item_now rd o2, p2, fun δ4 σ4 p4 s4 sub => ?_⟩
    have o4 : Eo z σ δ H1 σ4 δ4 H3 := o2.trans (.of .refl sub)
    exact ⟨z, δ4, _, E, ok_st ok1 o4.ev, s4, p4, ⟨fun δ5 σ5 H5 q o5 s5 => ⟨δ5, o4.trans o5, s5, q⟩, fun d v H' q e5 r => cn1.rt d v H' q (ev_seq o4.ev o4.new e5) r, fun δ5 σ5 H5 q o5 s5 => cn1.nx δ5 σ5 H5 q (o4.trans o5) s5,
      fun δ5 σ5 H5 q o5 s5 => ⟨δ5, o4.trans o5, s5, q⟩, fun x δ' c dd σ' H' q o5 s5 r => cn1.xx x δ' c dd σ' H' q (o4.trans o5) s5 r⟩⟩
  · have e : i = ds.length := by omega
    subst e
    rw [List.drop_length] at p2
    exact .inl ⟨it.stop _ H2 o2.ev rfl, cn1.nx δ2 σ2 H2 p2 o2 s2⟩
end

/-! ### comprehensions' targets -/
abbrev DG := D → DS → (DS → Prop) → Prop
def dName (i : Nat) : DG := fun d δ k => k (δ.set i (some d))
/-! ### comprehensions -/
/-- the elements, one after another; a step gives one or none -/
def lcD (step : D → (Option D → Prop) → Prop) : List D → List D → (List D → Prop) → Prop
  | [], acc, k => k acc
  | x :: xs, acc, k => acc.length < sizeLine ∧ step x fun r => match r with
    | none => lcD step xs acc k
    | some y => lcD step xs (acc ++ [y]) k
def stepD (g : DG) (vs : List Nat) (ft : DT) (fe : DE) (δ : DS) : D → (Option D → Prop) → Prop := fun x k =>
  g x (wipeD δ vs) fun δ2 => ft δ2 (fun b => if b = true then fe δ2 (fun y => k (some y)) (fun _ => False) else k none) (fun _ => False)
def dLc (fi : DI) (g : DG) (vs : List Nat) (ft : DT) (fe : DE) : DE := fun δ P E => fi δ (fun xs => lcD (stepD g vs ft fe δ) xs [] (fun ys => P (.lst ys))) E
abbrev W0 : WX := fun _ _ _ _ => False
def dTrue : DT := fun _ P _ => P true
theorem wipe_get (σ : L2.St) (j : Nat) : ∀ vs : List Nat, (L2.wipe σ vs)[j]? = if j ∈ vs then (if j < σ.length then some none else none) else σ[j]?
  | [] => by simp [L2.wipe]
  | v :: vs => by
    show ((L2.wipe σ vs).set v none)[j]? = _
    have hl := L2.wipe_length σ vs
    by_cases hj : v = j
    · subst hj
      rw [if_pos List.mem_cons_self]
      by_cases h : v < σ.length
      · rw [if_pos h, List.getElem?_set_self (by rw [hl]; exact h)]
      · rw [if_neg h, List.getElem?_eq_none (by rw [List.length_set, hl]; omega)]
    · rw [List.getElem?_set_ne hj, wipe_get σ j vs]
      by_cases h : j ∈ vs
      · rw [if_pos h, if_pos (List.mem_cons_of_mem _ h)]
      · rw [if_neg h, if_neg (fun q => by
          rcases List.mem_cons.mp q with e | q
          · exact hj e.symm
          · exact h q)]
theorem wipe_set {σ : L2.St} {i : Nat} {x : Option V} {vs : List Nat} (h : i ∈ vs) : L2.wipe (σ.set i x) vs = L2.wipe σ vs := by
  apply List.ext_getElem?
  intro j
  rw [wipe_get, wipe_get]
  by_cases hj : j ∈ vs
  · rw [if_pos hj, if_pos hj, List.length_set]
  · rw [if_neg hj, if_neg hj, List.getElem?_set_ne (fun e => hj (by rw [← e]; exact h))]
theorem wipe_wipe (σ : L2.St) (vs : List Nat) : L2.wipe (L2.wipe σ vs) vs = L2.wipe σ vs := by
  apply List.ext_getElem?
  intro j
  rw [wipe_get, wipe_length, wipe_get]
  split <;> rfl
/-- a comprehension's target, by its reading over V and over data -/
def TgW (K : PySem.W.Frag) (tgv : TG) (gd : DG) (vs : List Nat) : Prop := ∀ z δ σ d v H k Q, Ok z H → Sl K z H σ δ → Rp K z H v d → gd d δ k → (∀ δ' σ', k δ' → Sl K z H σ' δ' → L2.wipe σ' vs = L2.wipe σ vs → Q σ' H) → tgv v σ H Q
theorem tgw_name {K : PySem.W.Frag} {i : Nat} {vs : List Nat} (h : i ∈ vs := by decide) : TgW K (gName i) (dName i) vs := fun z δ σ d v H k Q ok sl r hk hq => hq _ _ hk (sl.set r i) (wipe_set h)
def dPair2 (i j : Nat) : DG := fun d δ k => ∃ a b, d = .tup [a, b] ∧ k ((δ.set i (some a)).set j (some b))
theorem tgw_pair {K : PySem.W.Frag} {i j : Nat} {vs : List Nat} (h : i ∈ vs := by decide) (h2 : j ∈ vs := by decide) : TgW K (gTup K 2 (gCons (gName i) (gCons (gName j) gNil))) (dPair2 i j) vs := by
  rintro z δ σ d v H k Q ok sl r ⟨a, b, rfl, hk⟩ hq
  cases r with
  | tup p q =>
    cases q with
    | cons r1 q =>
      cases q with
      | cons r2 q =>
        cases q
        exact ⟨_, _, rfl, p.sq, rfl, _, _, rfl, _, _, rfl, rfl, hq _ _ hk ((sl.set r1 i).set r2 j) ((wipe_set h2).trans (wipe_set h))⟩
section
variable {X : Cx}
theorem PTs_imp {ifs : List Expr} {t t' : TT} (h : PTs X ifs t) (hi : ∀ σ H Q, t' σ H Q → t σ H Q) : PTs X ifs t' := ⟨fun pins s σ H Q I q => h.run pins s σ H Q I (hi σ H Q q)⟩
theorem pdts_nil {W : WX} : PTs X [] (upT X.K W dTrue) := PTs_imp pts_nil fun σ H Q ⟨z, δ, P, E, ok, sl, hf, kq, kx⟩ => kq true H hf .refl
theorem pdts_one {W : WX} {c : Expr} {f : DT} (h : PT X c (upT X.K W f)) : PTs X [c] (upT X.K W f) := pts_one h
end
theorem Sl.evn {K : PySem.W.Frag} {z : Cz K} {H H' : Hp} {σ : L2.St} {δ : DS} (s : Sl K z H σ δ) (e : Ev z H H') : Sl K z H' σ δ := ⟨s.len, fun i d h => by
  obtain ⟨v, a, b⟩ := s.get i d h
  exact ⟨v, a, b.evn e⟩⟩
theorem Sl.re {K : PySem.W.Frag} {z y : Cz K} {H : Hp} {σ : L2.St} {δ : DS} (s : Sl K z H σ δ) (zz : y.z = z.z) (w : ∀ a, There H a → ¬ z.n a → ¬ y.n a) : Sl K y H σ δ := ⟨s.len, fun i d h => by
  obtain ⟨v, a, b⟩ := s.get i d h
  exact ⟨v, a, b.re zz w⟩⟩
/-- the context that shuts off one more address -/
def Cz.shut {K : PySem.W.Frag} (z : Cz K) (L : Addr) : Cz K := ⟨z.z, fun a => z.n a ∨ a = L, fun a h => .inl (z.no a h), z.o, fun a h => .inl (z.on a h)⟩
section
variable {K : PySem.W.Frag} {z : Cz K} {H H' : Hp} {L : Addr} {o : HO}
theorem ev_shut : Ev (z.shut L) H H' ↔ Ev z H H' := ⟨fun e => ⟨e.keep, e.thr, e.die, e.tab⟩, fun e => ⟨e.keep, e.thr, e.die, e.tab⟩⟩
theorem okc_shut (h : H L = none) : okc z (z.shut L) H := ⟨rfl, fun a ha hn q => by
  rcases q with q | q
  · exact hn q
  · obtain ⟨o, e, _⟩ := ha
    rw [q, h] at e
    cases e⟩
theorem Ev.updNew {vs : List V} (e : Ev z H H') (h : H L = none) (hl : H' L = some (.lst vs)) : Ev z H (upd H' L o) := by
  refine ⟨fun a u n w t q => ?_, fun a q => ?_, fun a n ⟨i, j, l, q⟩ => ?_, fun d t p hp => ?_⟩
  · rw [upd_ne (ne_of_none q h)]
    exact e.keep a u n w t q
  · obtain ⟨u, hu, t⟩ := e.thr a q
    obtain ⟨u0, q0, _⟩ := q
    exact ⟨u, by rw [upd_ne (ne_of_none q0 h)]; exact hu, t⟩
  · obtain ⟨i', j', l', q'⟩ := e.die a n ⟨i, j, l, q⟩
    exact ⟨i', j', l', by rw [upd_ne (ne_of_none q h)]; exact q'⟩
  · obtain ⟨ps, h1, h2, h3⟩ := e.tab d t p hp
    refine ⟨ps, by rw [upd_ne (ne_of h1 hl (by intro w; cases w))]; exact h1, h2, fun pos cv hc => ?_⟩
    obtain ⟨c, e1, e2⟩ := h3 pos cv hc
    exact ⟨c, e1, by rw [upd_ne (ne_of e2 hl (by intro w; cases w))]; exact e2⟩
theorem Ok.upd (k : Ok z H) (n : z.z ≠ some L) (hl : H L = none ∨ ∃ vs, H L = some (.lst vs)) (ho : ∀ ps, o ≠ .tbl ps := by intro _ w; cases w) : Ok z (upd H L o) := by
  refine ⟨fun a q => ?_, fun a q => ?_, fun p hp => ?_⟩
  · obtain ⟨i, j, l, w⟩ := k.die a q
    exact ⟨i, j, l, by rw [upd_ne (fun e => n (by rw [← e]; exact q))]; exact w⟩
  · by_cases e : a = L
    · exact ⟨o, by rw [e, upd_same], ho⟩
    · obtain ⟨u, hu, t⟩ := k.there a q
      exact ⟨u, by rw [upd_ne e]; exact hu, t⟩
  · rcases hl with hl | ⟨vs, hl⟩
    · exact (k.tabs p hp).ext fun b u e => by rw [upd_ne (ne_of_none e hl)]; exact e
    · obtain ⟨ps, g1, g2, g3⟩ := k.tabs p hp
      refine ⟨ps, by rw [upd_ne (ne_of g1 hl (by intro w; cases w))]; exact g1, g2, fun pos cv hc => ?_⟩
      obtain ⟨b, e1, e2⟩ := g3 pos cv hc
      exact ⟨b, e1, by rw [upd_ne (ne_of e2 hl (by intro w; cases w))]; exact e2⟩
theorem Ok.shut (k : Ok z H) (h : There H L) : Ok (z.shut L) H := ⟨k.die, fun a q => by
  rcases q with q | q
  · exact k.there a q
  · rw [q]; exact h, k.tabs⟩
end
section
variable {X : Cx} {W : WX} {elt tg iter : Expr} {ifs : List Expr} {scope : Scope} {own : List (Str × Nat)} {pos : Pos} {fi : DI} {g : TG} {gd : DG} {ft : DT} {fe : DE}
theorem lc_up (hw : TgW X.K g gd (own.map (·.2))) {σ : L2.St} {H : Hp} {Q : VK} (h : up X.K W (dLc fi gd (own.map (·.2)) ft fe) σ H Q) : tLc (upI X.K W fi) g (upT X.K W0 ft) (up X.K W0 fe) (own.map (·.2)) σ H Q := by
  obtain ⟨z, δ, P, E, ok, sl, hf, kq, kx⟩ := h
  refine ⟨z, δ, _, E, ok, sl, hf, fun ds H1 J p e1 it L hL => ?_, kx⟩
  have ok1 := ok.ev e1
  have nL : ¬ z.n L := ok1.new hL
  have zL : z.z ≠ some L := Cz.nz nL
  have itL := it (z.shut L) (okc_shut hL)
  have s1 : Sl X.K (z.shut L) H1 σ δ := (sl.evn e1).re rfl (okc_shut hL).new
  refine ⟨fun i m H' => m = ds.length - i ∧ i ≤ ds.length ∧ ∃ acc vacc, H' L = some (.lst vacc) ∧ RpAll X.K (z.shut L) H' vacc acc ∧ Ev (z.shut L) H1 H' ∧ Ok (z.shut L) H' ∧ lcD (stepD gd (own.map (·.2)) ft fe δ) (ds.drop i) acc (fun ys => P (.lst ys)),
    ⟨ds.length, by simp, Nat.zero_le _, [], [], upd_same, .nil, ev_shut.mpr (.new hL), (ok1.upd zL (.inl hL)).shut ⟨_, upd_same, fun _ w => (by cases w)⟩, p⟩, ?_⟩
  rintro i m H2 ⟨rfl, hi, acc, vacc, hL2, ra, e2, ok2, p2⟩
  by_cases hlt : i < ds.length
  · refine .inr ⟨itL.go i H2 e2 hlt, fun H' => ∃ acc vacc, H' L = some (.lst vacc) ∧ RpAll X.K (z.shut L) H' vacc acc ∧ Ev (z.shut L) H1 H' ∧ Ok (z.shut L) H' ∧ lcD (stepD gd (own.map (·.2)) ft fe δ) (ds.drop (i + 1)) acc (fun ys => P (.lst ys)),
      fun H' q => ⟨ds.length - (i + 1), by omega, rfl, hlt, q⟩, fun x H3 hy => ?_⟩
    obtain ⟨e0, d, hd, rd0⟩ := itL.yld i H2 x H3 e2 hlt hy
    subst e0
    have rd := rd0.evn e2
    rw [drop_at hlt hd] at p2
    obtain ⟨hz, p2⟩ := p2
    have ok3 := ok2
    have e13 := e2
    have e3 : Ev (z.shut L) H3 H3 := .refl
    have kL : ∀ {H' : Hp}, Ev (z.shut L) H3 H' → H' L = some (.lst vacc) := fun e => e.keep L _ zL (fun q => nL (z.on L q)) (fun _ w => by cases w) hL2
    have p3 : gd d (wipeD δ (own.map (·.2))) (fun δ2 => ft δ2 (fun b => if b = true then fe δ2 (fun y => lcD (stepD gd (own.map (·.2)) ft fe δ) (ds.drop (i + 1)) (acc ++ [y]) (fun ys => P (.lst ys))) (fun _ => False)
      else lcD (stepD gd (own.map (·.2)) ft fe δ) (ds.drop (i + 1)) acc (fun ys => P (.lst ys))) (fun _ => False)) := p2
    have sw : Sl X.K (z.shut L) H3 (L2.wipe σ (own.map (·.2))) (wipeD δ (own.map (·.2))) := (s1.evn e13).wipe _
    refine hw (z.shut L) (wipeD δ (own.map (·.2))) (L2.wipe σ (own.map (·.2))) d x H3 _ _ ok3 sw rd p3 ?_
    intro δ' σ' hk s' hws
    refine ⟨hws.trans (wipe_wipe _ _), ?_⟩
    refine ⟨z.shut L, δ', _, _, ok3, s', hk, fun b H4 pb e4 => ?_, fun _ _ _ _ q => q.elim⟩
    have e24 := e3.trans e4
    cases b with
    | false =>
      rw [if_neg Bool.false_ne_true] at pb
      exact iteF ⟨acc, vacc, kL e24, ra.evn e24, e2.trans e24, ok2.ev e24, pb⟩
    | true =>
      rw [if_pos rfl] at pb
      refine iteT ⟨z.shut L, δ', _, _, ok3.ev e4, s'.evn e4, pb, fun y u H5 py e5 ry => ?_, fun _ _ _ _ q => q.elim⟩
      have e25 := e24.trans e5
      have nn : (z.shut L).n L := .inr rfl
      have e15 : Ev (z.shut L) H1 H5 := e2.trans e25
      exact ⟨vacc, kL e25, by rw [ra.len]; exact hz, acc ++ [y], vacc ++ [u], upd_same, ((ra.evn e25).app (.one ry)).wr nn, ev_shut.mpr ((ev_shut.mp e15).updNew hL (kL e25)), (ok2.ev e25).upd (L := L) zL (.inr ⟨_, kL e25⟩), py⟩
  · have e : i = ds.length := by omega
    subst e
    rw [List.drop_length] at p2
    exact .inl ⟨itL.stop _ H2 e2 rfl, kq _ _ H2 p2 (e1.trans (ev_shut.mp e2)) (.lst hL2 nL (ra.re (z := z.shut L) (y := z) rfl fun a _ hn q => hn (Or.inl q)))⟩
theorem pd_lc (hc : X.calm = true) (hN : X.N.Nodup) (hi : PI X tg iter (upI X.K W fi)) (ok : BlkOk X.N X.env.scope scope own)
    (hg : ∀ (s : Shared) (H : Hp) (C : Addr) (cl : List (Str × Addr)) (fp : List Addr), PG (X.blk s H scope (compEnvC scope cl C X.env) fp) tg g) (hw : TgW X.K g gd (own.map (·.2)))
    (ht : ∀ (s : Shared) (H : Hp) (C : Addr) (cl : List (Str × Addr)) (fp : List Addr), PTs (X.blk s H scope (compEnvC scope cl C X.env) fp) ifs (upT X.K W0 ft))
    (he : ∀ (s : Shared) (H : Hp) (C : Addr) (cl : List (Str × Addr)) (fp : List Addr), PE (X.blk s H scope (compEnvC scope cl C X.env) fp) elt (up X.K W0 fe)) (hs : ∀ x, foldedSetIterable iter X.env x = pure x := by intro _; rfl) :
    PE X (.ListComp elt [⟨tg, iter, ifs, 0⟩] scope pos) (up X.K W (dLc fi gd (own.map (·.2)) ft fe)) :=
  PE_imp (pe_lc hc hN hi ok hg ht he hs) fun _ _ _ h => lc_up hw h
/-- name = [..] on one line -/
theorem pds_setLc {i : Nat} {y : Str} {py spos : Pos} (hc : X.calm = true) (hN : X.N.Nodup) (hy : X.N[i]? = some y) (hyl : X.env.scope.names.lookup y = some .local)
    (hsw : swapsWith (.ListComp elt [⟨tg, iter, ifs, 0⟩] scope pos) (some (.Name y py)) spos.line X.env = pure true) (hi : PI X tg iter (upI X.K W fi)) (ok : BlkOk X.N X.env.scope scope own)
    (hg : ∀ (s : Shared) (H : Hp) (C : Addr) (cl : List (Str × Addr)) (fp : List Addr), PG (X.blk s H scope (compEnvC scope cl C X.env) fp) tg g) (hw : TgW X.K g gd (own.map (·.2)))
    (ht : ∀ (s : Shared) (H : Hp) (C : Addr) (cl : List (Str × Addr)) (fp : List Addr), PTs (X.blk s H scope (compEnvC scope cl C X.env) fp) ifs (upT X.K W0 ft))
    (he : ∀ (s : Shared) (H : Hp) (C : Addr) (cl : List (Str × Addr)) (fp : List Addr), PE (X.blk s H scope (compEnvC scope cl C X.env) fp) elt (up X.K W0 fe)) (hs : ∀ x, foldedSetIterable iter X.env x = pure x := by intro _; rfl) :
    PS X (.Assign [.Name y py] (.ListComp elt [⟨tg, iter, ifs, 0⟩] scope pos) spos) (upS X.K W (dAsg (dLc fi gd (own.map (·.2)) ft fe) (mName i))) :=
  PS_imp (ps_setLc hc hN hy hyl hsw hi ok hg ht he hs) fun T σ H h => by
    have h2 := asg_up (tg := gName i) T name_up h
    exact lc_up hw h2
end

/-! ### promises over data -/
/-- a def's promise by data -/
def toSp (K : PySem.W.Frag) (g : List D → DW) : Sp := fun vs H Q E => ∃ z ds P Ex, Ok z H ∧ RpAll K z H vs ds ∧ g ds P Ex ∧ Kq K z H P Q ∧ (∀ x c dd H', Ex x → Ev z H H' → Xr K z H' c dd x → E c dd H')
def dCall (g : List D → DW) (f : DA) : DE := fun δ P E => f δ (fun ds => g ds P E) E
section
variable {X : Cx} {W : WX} {CX : CXT} {k : Nat} {f : Addr} {fd : FuncData} {ps : List Str} {x : Str} {p pos : Pos} {e : Expr} {es : List Expr} {g : List D → DW} {fa : DA}
/-- a call of a def whose exceptions are wished for -/
theorem pd_callX (F : FnOk X.prog X.w X.K X.mg X.base CX k f fd ps (toSp X.K g)) (hr : Room k X.A) (hm : X.mg x = some (.ref f)) (hk : PySem.W.keepIn X.K (.ref f) = true) (hb : Binds X.K fd ps []) (hx : ∀ σ, PassesAt CX X σ (WE W σ)) (ha : PA X (e :: es) (upA X.K W fa))
    (hg : Gl X x := by rfl) (hdb : (x == ("__debug__" : Str)) = false := by decide) (he : starEach (e :: es) X.env = (false, eval e X.env) :: starEach es X.env := by rfl) (hpl : (backTo pos (starEach es X.env)).any (·.1) = false := by rfl) :
    PE X (.Call (.Name x p) (e :: es) [] pos) (up X.K W (dCall g fa)) := by
  refine PE_imp (pe_callS F hr hg hm hk hb hx ha hdb he hpl) fun σ H Q ⟨z, δ, P, E, ok, sl, hf, kq, kx⟩ => ?_
  exact ⟨z, δ, _, E, ok, sl, hf, fun ds vs H1 p e1 r1 => ⟨z, ds, P, E, ok.ev e1, r1, p, kq.ev e1, kx.ev e1⟩, kx⟩
/-- a call of a def that lets no exception out -/
theorem pd_call {g0 : List D → PQ → Prop} (F : FnOk X.prog X.w X.K X.mg X.base CX0 k f fd ps (toSp X.K fun ds P _ => g0 ds P)) (hr : Room k X.A) (hm : X.mg x = some (.ref f)) (hk : PySem.W.keepIn X.K (.ref f) = true) (hb : Binds X.K fd ps []) (ha : PA X (e :: es) (upA X.K W fa))
    (hg : Gl X x := by rfl) (hdb : (x == ("__debug__" : Str)) = false := by decide) (he : starEach (e :: es) X.env = (false, eval e X.env) :: starEach es X.env := by rfl) (hpl : (backTo pos (starEach es X.env)).any (·.1) = false := by rfl) :
    PE X (.Call (.Name x p) (e :: es) [] pos) (up X.K W (dCB g0 fa)) := by
  refine PE_imp (pe_call F hr hg hm hk hb .nil pass0 ha hdb he hpl) fun σ H Q ⟨z, δ, P, E, ok, sl, hf, kq, kx⟩ => ?_
  refine ⟨z, δ, _, E, ok, sl, hf, fun ds vs H1 p e1 r1 => ?_, kx⟩
  show toSp X.K _ (vs ++ []) H1 Q E0
  rw [List.append_nil]
  exact ⟨z, ds, P, fun _ => False, ok.ev e1, r1, p, kq.ev e1, fun _ _ _ _ q => q.elim⟩
end
def startM (n : Nat) (ds : List D) : MS := ds.map (fun d => some (SD.dat d)) ++ List.replicate (n - ds.length) none
theorem startM_own (n : Nat) (ds : List D) (i : Nat) (es : OD) : (startM n ds)[i]? ≠ some (some (SD.own es)) := fun h => by
  unfold startM at h
  by_cases hi : i < ds.length
  · rw [List.getElem?_append_left (by simpa using hi), List.getElem?_map] at h
    cases q : ds[i]? with
    | none => rw [q] at h; cases h
    | some d => rw [q] at h; cases h
  · rw [List.getElem?_append_right (by simpa using hi), List.getElem?_replicate] at h
    split at h <;> cases h
theorem Sm.start {K : PySem.W.Frag} {z : Cz K} {H : Hp} {N : List Str} {vs : List V} {ds : List D} (r : RpAll K z H vs ds) : Sm K z H (L2.start N vs) (startM N.length ds) := by
  have hl := r.len
  have no := startM_own N.length ds
  refine ⟨by simp [L2.start, startM, hl], fun i d h => ?_, fun i d h => ?_, fun i es h => absurd h (no i es), fun i j es fs a h => absurd h (no i es)⟩
  · unfold startM at h
    by_cases hi : i < ds.length
    · rw [List.getElem?_append_left (by simpa using hi), List.getElem?_map] at h
      cases q : ds[i]? with
      | none => rw [q] at h; cases h
      | some e =>
        rw [q] at h
        cases h
        obtain ⟨v, a, b⟩ := r.getD q
        refine ⟨v, ?_, b.re (z := z) (y := z.ex (L2.start N vs) (startM N.length ds)) rfl fun a _ n (q : z.n a ∨ OwnA _ _ a) => q.elim n fun ⟨i, es, h, _⟩ => no i es h⟩
        unfold L2.start
        rw [List.getElem?_append_left (by simpa [hl] using hi), List.getElem?_map, a]
        rfl
    · rw [List.getElem?_append_right (by simpa using hi), List.getElem?_replicate] at h
      split at h <;> cases h
  · unfold startM at h
    by_cases hi : i < ds.length
    · rw [List.getElem?_append_left (by simpa using hi), List.getElem?_map] at h
      cases q : ds[i]? with
      | none => rw [q] at h; cases h
      | some e => rw [q] at h; cases h
    · rw [List.getElem?_append_right (by simpa using hi), List.getElem?_replicate] at h
      split at h <;> cases h
theorem ev_clean {K : PySem.W.Frag} {z : Cz K} {H H' : Hp} {σ : L2.St} {n : Nat} {ds : List D} (e : Ev (z.st σ (startM n ds)) H H') : Ev z H H' := ⟨fun a o n' w t h => e.keep a o n' (fun q => q.elim w fun ⟨i, es, h, _⟩ => startM_own n ds i es h) t h, e.thr, e.die, e.tab⟩
/-- a body's own start -/
theorem start_up {K : PySem.W.Frag} {W : WX} {fb : DSt} {N : List Str} {z : Cz K} {H : Hp} {vs : List V} {ds : List D} {R : PQ} {Q : VK} {Ex : XQ} {E : XK} (ok : Ok z H) (r : RpAll K z H vs ds) (kq : Kq K z H R Q) (kx : ∀ x c dd H', Ex x → Ev z H H' → Xr K z H' c dd x → E c dd H') (hW : ∀ c dd σ H', E c dd H' → W c dd σ H')
    (h : fb (startM N.length ds) { nx := fun _ => R .non, rt := R } (fun x _ => Ex x)) : upS K W fb { nx := fun _ H' => Q .non H', rt := Q } (L2.start N vs) H :=
  ⟨z, startM N.length ds, _, _, ok, Sm.start r, h, ⟨fun δ' σ' H' q o s => kq _ _ _ q (ev_clean o.ev) .non, fun d v H' q e r => kq d v H' q (ev_clean e) r, fun _ _ _ q => q.elim, fun _ _ _ q => q.elim, fun x δ' c dd σ' H' q o s r => hW c dd σ' H' (kx x c dd H' q (ev_clean o.ev) r)⟩⟩
section
variable {P : Program} {w : World} {K : PySem.W.Frag} {mg : Str → Option Value} {base : Heap} {x qual : Str} {st : Stmt} {f : Addr} {fd : FuncData} {N ps : List Str} {k : Nat}
/-- a def that lets nothing out: its body's derivation and its reading over data -/
theorem fnd_ok {g0 : List D → PQ → Prop} (F : Fun K x qual st f fd) (S : FnScope N ps (defScope st)) (len : ∀ ds P, g0 ds P → ds.length = ps.length)
    (body : ∀ (cdv : Value) (A : Around) (outer : List Env) (s : Shared) (H : Hp) (E : XK), Room k (A.deeper (envOfC qual (defScope st) s.heap.objs.size f cdv)) →
      ∃ fb, PSs (cxOf CX0 P w K mg base N qual (defScope st) f cdv A outer s H E).nox (defBody st) (upS K W0 fb) ∧ ∀ ds R, g0 ds R → fb (startM N.length ds) { nx := fun _ => R .non, rt := R } (fun _ _ => False)) :
    FnOk P w K mg base CX0 (k + 1) f fd ps (toSp K fun ds P _ => g0 ds P) := by
  refine F.ok S (fun vs H Q E ⟨z, ds, R, Ex, _, r, h, _⟩ => r.len.trans (len ds R h)) (fun cdv A outer s H vs Q E hr h => ?_)
  obtain ⟨fb, hd, hp⟩ := body cdv A outer s H E hr
  obtain ⟨z, ds, R, Ex, ok, r, h, kq, kx⟩ := h
  exact ⟨_, hd, start_up (Ex := fun _ => False) (E := fun _ _ _ => False) ok r kq (fun _ _ _ _ q => q.elim) (fun _ _ _ _ q => q) (hp ds R h)⟩
end
end DL

/-! The data layer, part 5: more operators, stars, pairs; raise; callees by their names. -/
namespace DL
open PySem PySem.Spec PyProof.Rows L2

theorem bb_len : bootBuiltins "len" = some (.builtin "len") := by decide +kernel
theorem bb_isinstance : bootBuiltins "isinstance" = some (.builtin "isinstance") := by decide +kernel
theorem bb_all : bootBuiltins "all" = some (.builtin "all") := by decide +kernel
theorem bb_any : bootBuiltins "any" = some (.builtin "any") := by decide +kernel
theorem bb_abs : bootBuiltins "abs" = some (.builtin "abs") := by decide +kernel
theorem bb_max : bootBuiltins "max" = some (.builtin "max") := by decide +kernel
theorem bb_min : bootBuiltins "min" = some (.builtin "min") := by decide +kernel
theorem bb_sorted : bootBuiltins "sorted" = some (.builtin "sorted") := by decide +kernel
theorem bb_int : bootBuiltins "int" = some (.type "int") := by decide +kernel
theorem bb_bool : bootBuiltins "bool" = some (.type "bool") := by decide +kernel
theorem bb_str : bootBuiltins "str" = some (.type "str") := by decide +kernel
theorem bb_list : bootBuiltins "list" = some (.type "list") := by decide +kernel
theorem bb_tuple : bootBuiltins "tuple" = some (.type "tuple") := by decide +kernel
theorem bb_dict : bootBuiltins "dict" = some (.type "dict") := by decide +kernel
theorem bb_set : bootBuiltins "set" = some (.type "set") := by decide +kernel

/-! ### isinstance's answers for built-in classes -/
theorem isi_ty {K : PySem.W.Frag} {x : D} {a b : String} {r : Bool} {P : PQ} (h1 : DTy K x (.type a)) (h2 : kitB a b = some r) (h : P (.bl r)) : dIsi K [x, .raw (.ty b)] P := ⟨x, .ty b, _, _, r, rfl, .ty b, h1, kit_ty h2, h⟩
theorem kb_str_str : kitB "str" "str" = some true := by decide +kernel
theorem kb_int_int : kitB "int" "int" = some true := by decide +kernel
theorem kb_bool_int : kitB "bool" "int" = some true := by decide +kernel
theorem kb_bool_bool : kitB "bool" "bool" = some true := by decide +kernel
theorem kb_tuple_tuple : kitB "tuple" "tuple" = some true := by decide +kernel
theorem kb_none_int : kitB "NoneType" "int" = some false := by decide +kernel
theorem kb_str_int : kitB "str" "int" = some false := by decide +kernel
theorem kb_tuple_int : kitB "tuple" "int" = some false := by decide +kernel
theorem kb_list_int : kitB "list" "int" = some false := by decide +kernel
theorem kb_dict_int : kitB "dict" "int" = some false := by decide +kernel
theorem kb_int_bool : kitB "int" "bool" = some false := by decide +kernel
theorem kb_none_str : kitB "NoneType" "str" = some false := by decide +kernel
theorem kb_bool_str : kitB "bool" "str" = some false := by decide +kernel
theorem kb_int_str : kitB "int" "str" = some false := by decide +kernel
theorem kb_tuple_str : kitB "tuple" "str" = some false := by decide +kernel
theorem kb_list_str : kitB "list" "str" = some false := by decide +kernel
theorem kb_dict_str : kitB "dict" "str" = some false := by decide +kernel
theorem kb_none_tuple : kitB "NoneType" "tuple" = some false := by decide +kernel
theorem kb_bool_tuple : kitB "bool" "tuple" = some false := by decide +kernel
theorem kb_int_tuple : kitB "int" "tuple" = some false := by decide +kernel
theorem kb_str_tuple : kitB "str" "tuple" = some false := by decide +kernel
theorem kb_list_tuple : kitB "list" "tuple" = some false := by decide +kernel
theorem kb_dict_tuple : kitB "dict" "tuple" = some false := by decide +kernel

/-! ### -n, str(x) -/
def dNegI (f : DE) : DE := fun δ P E => f δ (fun d => ∃ i, d = .int i ∧ P (.int (-i))) E
def dStrc : List D → PQ → Prop
  | [.int i], P => i.natAbs.log2 < 1920 ∧ P (.str (toString i))
  | [.str a], P => P (.str a)
  | _, _ => False
def rStrU : List V → Hp → VK → Prop := fun xs H Q => (∃ i, xs = [.int i] ∧ i.natAbs.log2 < 1920 ∧ Q (.str (toString i)) H) ∨ ∃ a, xs = [.str a] ∧ Q (.str a) H
section
variable {X : Cx} {W : WX} {e : Expr} {es : List Expr} {f : DE} {g : DA} {pos : Pos}
theorem pd_neg (h : PE X e (up X.K W f)) : PE X (.UnaryOp .USub e pos) (up X.K W (dNegI f)) := by
  refine PE_imp (pe_un un_neg h) fun σ H Q ⟨z, δ, P, E, ok, sl, hf, kq, kx⟩ => ?_
  refine ⟨z, δ, _, E, ok, sl, hf, fun d v H' p e r => ?_, kx⟩
  obtain ⟨i, rfl, p⟩ := p
  cases r
  exact ⟨i, rfl, kq _ _ H' p e (.int _)⟩
theorem call_strU : CallR X (.type "str") rStrU := call_str_int.or SkE.call_str_str
theorem cd_strc {K : PySem.W.Frag} : CallD K rStrU dStrc := by
  intro z H vs ds P Q ok r h kq
  cases r with
  | nil => exact h.elim
  | cons a b =>
    cases b with
    | cons _ _ => cases a <;> exact h.elim
    | nil =>
      cases a with
      | int i => exact .inl ⟨i, rfl, h.1, kq _ _ H h.2 .refl (.str _)⟩
      | str x => exact .inr ⟨x, rfl, kq _ _ H h .refl (.str _)⟩
      | _ => exact h.elim
/-- *e in a display, in arguments -/
def dStar (f : DE) (g : DA) : DA := fun δ P E => f δ (fun d => ∃ xs, seqOf d = some xs ∧ g δ (fun ys => P (xs ++ ys)) E) E
theorem pda_star (he : PE X e (up X.K W f)) (hr : PA X es (upA X.K W g)) (hs : starEach (.Starred e pos :: es) X.env = (true, eval e X.env) :: starEach es X.env := by rfl) : PA X (.Starred e pos :: es) (upA X.K W (dStar f g)) := by
  refine PA_imp (StX.pa_star he hr hs) fun σ H Q ⟨z, δ, P, E, ok, sl, hf, kq, kx⟩ => ?_
  refine ⟨z, δ, _, E, ok, sl, hf, fun d v H1 p e1 r1 => ?_, kx⟩
  obtain ⟨xs, hx, p⟩ := p
  obtain ⟨q, vs, rfl, hs, ra⟩ := r1.seq hx
  refine ⟨q, vs, rfl, hs.symm, z, δ, _, E, ok.ev e1, sl.ev ok e1, p, fun ys us H2 p2 e2 r2 => ?_, kx.ev e1⟩
  exact kq _ _ H2 p2 (e1.trans e2) ((ra.evn e2).app r2)
/-- a, b = x, y with plain local names -/
def dPar (i j : Nat) (g : DA) : DSt := fun δ e E => g (hid δ) (fun ds => ∃ a b, ds = [a, b] ∧ e.nx ((δ.set i (some (.dat a))).set j (some (.dat b)))) (fun x => E x δ)
theorem pds_par {i j : Nat} {x y : Str} {a b : Expr} {px py pt : Pos} {kt k2 pt2} (hc : X.calm = true) (hN : X.N.Nodup) (hi : X.N[i]? = some x) (hj : X.N[j]? = some y) (hij : i ≠ j)
    (hx : X.env.scope.names.lookup x = some .local) (hy : X.env.scope.names.lookup y = some .local) (ha : PA X [a, b] (upA X.K W g))
    (hw : swappedStores [.Tuple [.Name x px, .Name y py] kt pt] (.Tuple [a, b] k2 pt2) X.env = pure (some [x, y]))
    (hs : swapsWithSole [.Tuple [.Name x px, .Name y py] kt pt] (.Tuple [a, b] k2 pt2) pos.line X.env = pure false := by rfl) :
    PS X (.Assign [.Tuple [.Name x px, .Name y py] kt pt] (.Tuple [a, b] k2 pt2) pos) (upS X.K W (dPar i j g)) := by
  refine PS_imp (ps_par hc hN hi hj hij hx hy ha hw hs) fun T σ H ⟨z, δ, e, E, ok, sm, hf, cn⟩ => ?_
  refine runA_hid ok sm cn hf fun ds vs H1 p e1 ok1 sm1 cn1 r1 => ?_
  obtain ⟨a, b, rfl, p⟩ := p
  cases r1 with
  | cons ra r1 =>
    cases r1 with
    | cons rb r1 =>
      cases r1
      have s2 := sm1.set ra i
      have sub : ∀ u : V, SubO (σ.set i (some u)) (δ.set i (some (SD.dat a))) σ δ := fun u => subO_set (fun ds e => by cases e)
      exact ⟨_, _, rfl, cn1.nx _ _ H1 p (.of .refl ((subO_set (fun ds e => by cases e)).trans (sub _))) (s2.set (ex_re (sub _).a rb) j)⟩
/-- raise of an own class with a text -/
def dRaise (C : Addr) : DSt := fun δ _ E => E (.own C) δ
theorem pds_raise {st : Stmt} {C : Addr} (h : PS X st (fun _ σ H => W (.ref C) none σ H)) : PS X st (upS X.K W (dRaise C)) :=
  PS_imp h fun T σ H ⟨z, δ, e, E, ok, sm, hf, cn⟩ => cn.xx _ δ _ _ σ H hf .refl sm (.own C)
end

/-! ### defs by their names -/
/-- where a def of the text stands -/
def FD (K : PySem.W.Frag) (mg : Str → Option Value) (x : Str) (st : Stmt) (ps : List Str) : Prop := ∃ f fd, Fun K x x st f fd ∧ mg x = some (.ref f) ∧ Binds K fd ps []
/-- a def that keeps its promise -/
def CalG (P : Program) (w : World) (K : PySem.W.Frag) (mg : Str → Option Value) (base : Heap) (CX : CXT) (k : Nat) (x : Str) (ps : List Str) (g : List D → DW) : Prop :=
  ∃ f fd, FnOk P w K mg base CX k f fd ps (toSp K g) ∧ mg x = some (.ref f) ∧ PySem.W.keepIn K (.ref f) = true ∧ Binds K fd ps []
abbrev Cal (P : Program) (w : World) (K : PySem.W.Frag) (mg : Str → Option Value) (base : Heap) (k : Nat) (x : Str) (ps : List Str) (g0 : List D → PQ → Prop) : Prop := CalG P w K mg base CX0 k x ps (fun ds P _ => g0 ds P)
section
variable {X : Cx} {W : WX} {k : Nat} {ps : List Str} {x : Str} {p pos : Pos} {e : Expr} {es : List Expr} {fa : DA}
theorem pd_cal {g0 : List D → PQ → Prop} (c : Cal X.prog X.w X.K X.mg X.base k x ps g0) (hr : Room k X.A) (ha : PA X (e :: es) (upA X.K W fa))
    (hg : Gl X x := by rfl) (hdb : (x == ("__debug__" : Str)) = false := by decide) (he : starEach (e :: es) X.env = (false, eval e X.env) :: starEach es X.env := by rfl) (hpl : (backTo pos (starEach es X.env)).any (·.1) = false := by rfl) :
    PE X (.Call (.Name x p) (e :: es) [] pos) (up X.K W (dCB g0 fa)) := by
  obtain ⟨f, fd, F, hm, hk, hb⟩ := c
  exact pd_call F hr hm hk hb ha hg hdb he hpl
theorem pd_calX {g : List D → DW} (c : CalG X.prog X.w X.K X.mg X.base (L2.CX X.prog X.w) k x ps g) (tk : Takes X W) (hr : Room k X.A) (ha : PA X (e :: es) (upA X.K W fa))
    (hg : Gl X x := by rfl) (hdb : (x == ("__debug__" : Str)) = false := by decide) (he : starEach (e :: es) X.env = (false, eval e X.env) :: starEach es X.env := by rfl) (hpl : (backTo pos (starEach es X.env)).any (·.1) = false := by rfl) :
    PE X (.Call (.Name x p) (e :: es) [] pos) (up X.K W (dCall g fa)) := by
  obtain ⟨f, fd, F, hm, hk, hb⟩ := c
  exact pd_callX F hr hm hk hb (fun σ => passAt tk σ) ha hg hdb he hpl
end
section
variable {P : Program} {w : World} {K : PySem.W.Frag} {mg : Str → Option Value} {base : Heap} {x : Str} {st : Stmt} {N ps : List Str} {k : Nat}
theorem cal_of {g0 : List D → PQ → Prop} (F : FD K mg x st ps) (S : FnScope N ps (defScope st)) (len : ∀ ds P, g0 ds P → ds.length = ps.length)
    (body : ∀ (f : Addr) (cdv : Value) (A : Around) (outer : List Env) (s : Shared) (H : Hp) (E : XK), Room k (A.deeper (envOfC x (defScope st) s.heap.objs.size f cdv)) →
      ∃ fb, PSs (cxOf CX0 P w K mg base N x (defScope st) f cdv A outer s H E).nox (defBody st) (upS K W0 fb) ∧ ∀ ds R, g0 ds R → fb (startM N.length ds) { nx := fun _ => R .non, rt := R } (fun _ _ => False)) :
    Cal P w K mg base (k + 1) x ps g0 := by
  obtain ⟨f, fd, hF, hm, hb⟩ := F
  exact ⟨f, fd, fnd_ok hF S len (body f), hm, hF.kp, hb⟩
end
end DL

/-! The data layer, part 6: match on texts; promises weakened; a comprehension whose element may raise. -/
namespace DL
open PySem PySem.Spec PyProof.Rows L2

/-! ### match on literal texts -/
structure PPat (X : Cx) (p : Pattern) (ps : List Str) : Prop where
  run : ∀ (pins : List (Addr × Obj)) (s : Shared) (σ : L2.St) (H : Hp) (x : Str) (tk : Tok) (Q : Option (List (Str × Value)) → Shared → Prop), Inv X pins σ H s →
    (∀ s', Inv X pins σ H s' → Q (if x ∈ ps then some [] else none) s') → wpAny (model X.prog X.w) X.A (matchPattern p X.env (.str x tk)) Q X.xe s
structure PFst (X : Cx) (pl : List Pattern) (ps : List Str) : Prop where
  run : ∀ (pins : List (Addr × Obj)) (s : Shared) (σ : L2.St) (H : Hp) (x : Str) (tk : Tok) (Q : Option (List (Str × Value)) → Shared → Prop), Inv X pins σ H s →
    (∀ s', Inv X pins σ H s' → Q (if x ∈ ps then some [] else none) s') → wpAny (model X.prog X.w) X.A (matchFirst pl X.env (.str x tk)) Q X.xe s
structure PCs (X : Cx) (cs : List MatchCase) (t : Str → TS) : Prop where
  run : ∀ (first : Bool) (pins : List (Addr × Obj)) (s : Shared) (σ : L2.St) (H : Hp) (D : Ends) (x : Str) (tk : Tok), Inv X pins σ H s → t x D σ H → wpAny (model X.prog X.w) X.A (matchCases cs X.env (.str x tk) first) (SP X pins D) X.xe s
section
variable {X : Cx} {p : Pattern} {pl : List Pattern} {ps qs : List Str} {pos : Pos}
theorem pp_str {y : Str} {j : Nat} {pos2 : Pos} : PPat X (.MatchValue (.Constant (.str y) j pos2) pos) [y] := ⟨fun pins s σ H x tk Q I q => by
  refine wpAny_matchPattern_Value (thn (pe_str.run pins s σ H (fun v H1 => v = .str y ∧ H1 = H) I ⟨rfl, rfl⟩) fun u s1 ⟨v, H1, I1, r, e1, e2⟩ => ?_)
  subst e1; subst e2
  have r1 : RelV (.str x) (.str x tk) := ⟨tk, rfl⟩
  refine thn (op_eq pins s1 σ _ _ _ _ _ (fun d H2 => d = .bl (decide (V.str x = V.str y)) ∧ H2 = _) I1 r1 r ⟨rfl, rfl, rfl⟩) fun c s2 ⟨d, H2, I2, r2, e3, e4⟩ => ?_
  subst e3; subst e4
  cases r2
  refine wpAny_truthy_bool ?_
  have e : decide (V.str x = V.str y) = decide (x ∈ [y]) := by
    rw [Bool.eq_iff_iff]
    simp
  rw [e]
  by_cases hx : x ∈ [y]
  · have := q s2 I2
    rw [if_pos hx] at this
    rw [decide_eq_true hx]
    exact this
  · have := q s2 I2
    rw [if_neg hx] at this
    rw [decide_eq_false hx]
    exact this⟩
theorem pf_nil : PFst X [] [] := ⟨fun pins s σ H x tk Q I q => wpAny_matchFirst_nil (by simpa using q s I)⟩
theorem pf_cons (h : PPat X p ps) (r : PFst X pl qs) : PFst X (p :: pl) (ps ++ qs) := ⟨fun pins s σ H x tk Q I q => by
  refine wpAny_matchFirst_cons (h.run pins s σ H x tk _ I fun s1 I1 => ?_)
  by_cases hx : x ∈ ps
  · rw [if_pos hx]
    have := q s1 I1
    rw [if_pos (List.mem_append_left _ hx)] at this
    exact this
  · rw [if_neg hx]
    refine r.run pins s1 σ H x tk Q I1 fun s2 I2 => ?_
    have := q s2 I2
    have e : (x ∈ ps ++ qs) = (x ∈ qs) := by simp [hx]
    simp only [e] at this
    exact this⟩
theorem pp_or (h : PFst X pl ps) : PPat X (.MatchOr pl pos) ps := ⟨fun pins s σ H x tk Q I q => by
  refine wpAny_matchPattern_Or (h.run pins s σ H x tk _ I fun s1 I1 => ?_)
  have := q s1 I1
  by_cases hx : x ∈ ps
  · rw [if_pos hx] at this ⊢
    have e : ((namesOfAll (pl.take 1)).filterMap fun n => (([] : List (Str × Value)).lookup n).map (n, ·)) = [] := by simp
    dsimp only
    rw [e]
    exact this
  · rw [if_neg hx] at this ⊢
    exact this⟩
theorem pcs_nil : PCs X [] (fun _ D σ H => D.nx σ H) := ⟨fun first pins s σ H D x tk I h => wpAny_matchCases_nil ⟨σ, H, I, h⟩⟩
theorem pcs_cons {cs : List MatchCase} {body : List Stmt} {t : TS} {u : Str → TS} (h : PPat X p ps) (hb : PSs X body t) (hr : PCs X cs u) : PCs X (⟨p, none, body⟩ :: cs) (fun x D σ H => if x ∈ ps then t D σ H else u x D σ H) := ⟨fun first pins s σ H D x tk I ht => by
  refine wpAny_matchCases_cons (h.run pins s σ H x tk _ I fun s1 I1 => ?_)
  by_cases hx : x ∈ ps
  · rw [if_pos hx] at ht ⊢
    exact wpAny_assignInOrder_none (hb.run pins s1 σ H D I1 ht)
  · rw [if_neg hx] at ht ⊢
    exact hr.run false pins s1 σ H D x tk I1 ht⟩
theorem ps_match {e : Expr} {cs : List MatchCase} {te : TE} {t : Str → TS} (he : PE X e te) (hc : PCs X cs t) : PS X (.Match e cs pos) (fun D σ H => te σ H fun v H1 => ∃ x, v = .str x ∧ t x D σ H1) := ⟨fun pins s σ H D I h => by
  refine wpAny_Match (thn (he.run pins s σ H _ I h) fun u s1 ⟨v, H1, I1, r, x, e1, ht⟩ => ?_)
  subst e1
  obtain ⟨tk, rfl⟩ := r
  exact hc.run true pins s1 σ H1 D x tk I1 ht⟩
end
def dCasesNil : Str → DSt := fun _ => dNext
def dCase (ps : List Str) (f : DSt) (g : Str → DSt) : Str → DSt := fun x δ e E => if x ∈ ps then f δ e E else g x δ e E
def dMatch (f : DE) (c : Str → DSt) : DSt := fun δ e E => f (shw δ) (fun d => ∃ x, d = .str x ∧ c x δ e E) (fun x => E x δ)
section
variable {X : Cx} {W : WX} {p : Pattern} {ps : List Str} {pos : Pos} {e : Expr} {cs : List MatchCase} {body : List Stmt} {f : DSt} {g : Str → DSt} {fe : DE}
theorem pdc_nil : PCs X [] (fun x => upS X.K W (dCasesNil x)) := ⟨fun first pins s σ H D x tk I ⟨z, δ, e, E, ok, sm, hf, cn⟩ => pcs_nil.run first pins s σ H D x tk I (cn.nx δ σ H hf .refl sm)⟩
theorem pdc_cons (h : PPat X p ps) (hb : PSs X body (upS X.K W f)) (hr : PCs X cs (fun x => upS X.K W (g x))) : PCs X (⟨p, none, body⟩ :: cs) (fun x => upS X.K W (dCase ps f g x)) := ⟨fun first pins s σ H D x tk I ⟨z, δ, e, E, ok, sl, hf, r⟩ => by
  refine (pcs_cons h hb hr).run first pins s σ H D x tk I ?_
  unfold dCase at hf
  by_cases hx : x ∈ ps
  · rw [if_pos hx] at hf ⊢
    exact ⟨z, δ, e, E, ok, sl, hf, r⟩
  · rw [if_neg hx] at hf ⊢
    exact ⟨z, δ, e, E, ok, sl, hf, r⟩⟩
theorem pds_match (he : PE X e (up X.K W fe)) (hc : PCs X cs (fun x => upS X.K W (g x))) : PS X (.Match e cs pos) (upS X.K W (dMatch fe g)) := by
  refine PS_imp (ps_match he hc) fun T σ H ⟨z, δ, e, E, ok, sm, hf, cn⟩ => ?_
  refine run_shw ok sm cn hf fun d v H' ⟨x, ed, p⟩ e1 ok1 sm1 cn1 r => ?_
  subst ed
  cases r
  exact ⟨x, rfl, z, δ, e, E, ok1, sm1, p, cn1⟩
end

/-! ### promises weakened -/
theorem fnOk_cx {P : Program} {w : World} {K : PySem.W.Frag} {mg : Str → Option Value} {base : Heap} {CX CX' : CXT} {k : Nat} {f : Addr} {fd : FuncData} {ps : List Str} {sp sp' : Sp} (F : FnOk P w K mg base CX k f fd ps sp)
    (h : ∀ vs H Q E, sp' vs H Q E → ∃ E', sp vs H Q E' ∧ ∀ outer s e s', CX outer H s E' e s' → CX' outer H s E e s') : FnOk P w K mg base CX' k f fd ps sp' := by
  refine ⟨fun vs H Q E q => ?_, fun A outer s H args us vs Q E hr he hb hv hs => ?_⟩
  · obtain ⟨E', h1, _⟩ := h _ _ _ _ q
    exact F.len _ _ _ _ h1
  · obtain ⟨E', h1, h2⟩ := h _ _ _ _ hs
    refine codeAny_mono (F.run A outer s H args us vs Q E' hr he hb hv h1) fun r s' hq => ?_
    cases r with
    | ok fl => cases fl <;> exact hq
    | error e => exact h2 _ _ _ _ hq
theorem cx_zc {P : Program} {w : World} {outer : List Env} {H : Hp} {s : Shared} {E : XK} {e : Value} {s' : Shared} (c : L2N.CX P w outer H s E e s') : L2.CX P w outer H s E e s' := by
  obtain ⟨a, B, H', cls, d, ea, fl, hok, ub, na, os, ag, he⟩ := c
  exact ⟨a, B, H', cls, d, ea, L2H.flyingZ_imp (fun _ z => L2N.Zn.zc z) fl, hok, ub, na, os, ag, he⟩
section
variable {P : Program} {w : World} {K : PySem.W.Frag} {mg : Str → Option Value} {base : Heap} {k : Nat} {x : Str} {ps : List Str} {g : List D → DW}
theorem CalG.zc (c : CalG P w K mg base (L2N.CX P w) k x ps g) : CalG P w K mg base (L2.CX P w) k x ps g := by
  obtain ⟨f, fd, F, r⟩ := c
  exact ⟨f, fd, fnOk_cx F fun vs H Q E q => ⟨E, q, fun _ _ _ _ c => cx_zc c⟩, r⟩
theorem CalG.calm (c : CalG P w K mg base (L2.CX P w) k x ps g) : Cal P w K mg base k x ps (fun ds R => g ds R (fun _ => False)) := by
  obtain ⟨f, fd, F, r⟩ := c
  refine ⟨f, fd, fnOk_cx F fun vs H Q E ⟨z, ds, R, Ex, ok, rp, h, kq, kx⟩ => ⟨fun _ _ _ => False, ⟨z, ds, R, fun _ => False, ok, rp, h, kq, fun _ _ _ _ q => q.elim⟩, fun outer s e s' c => ?_⟩, r⟩
  obtain ⟨a, B, H', cls, d, _, _, _, _, _, _, _, he⟩ := c
  exact he
theorem CalG.imp {CX : CXT} {g' : List D → DW} (c : CalG P w K mg base CX k x ps g) (h : ∀ ds R E, g' ds R E → g ds R E) : CalG P w K mg base CX k x ps g' := by
  obtain ⟨f, fd, F, r⟩ := c
  exact ⟨f, fd, F.imp fun vs H Q E ⟨z, ds, R, Ex, ok, rp, q, kq, kx⟩ => ⟨z, ds, R, Ex, ok, rp, h ds R Ex q, kq, kx⟩, r⟩
end
section
variable {X : Cx} {W : WX} {k : Nat} {ps : List Str} {x : Str} {p pos : Pos} {e : Expr} {es : List Expr} {fa : DA} {g : List D → DW}
/-- a call whose exceptions are passed on, by any road -/
theorem pd_calP {CX : CXT} (c : CalG X.prog X.w X.K X.mg X.base CX k x ps g) (hx : ∀ σ, PassesAt CX X σ (WE W σ)) (hr : Room k X.A) (ha : PA X (e :: es) (upA X.K W fa))
    (hg : Gl X x := by rfl) (hdb : (x == ("__debug__" : Str)) = false := by decide) (he : starEach (e :: es) X.env = (false, eval e X.env) :: starEach es X.env := by rfl) (hpl : (backTo pos (starEach es X.env)).any (·.1) = false := by rfl) :
    PE X (.Call (.Name x p) (e :: es) [] pos) (up X.K W (dCall g fa)) := by
  obtain ⟨f, fd, F, hm, hk, hb⟩ := c
  exact pd_callX F hr hm hk hb hx ha hg hdb he hpl
end
section
variable {P : Program} {w : World} {K : PySem.W.Frag} {mg : Str → Option Value} {base : Heap} {x : Str} {st : Stmt} {N ps : List Str} {k : Nat}
/-- a def that may raise, in any kind of air -/
theorem cal_ofC {CX : CXT} {g : List D → DW} (F : FD K mg x st ps) (S : FnScope N ps (defScope st)) (len : ∀ ds P E, g ds P E → ds.length = ps.length)
    (body : ∀ (f : Addr) (cdv : Value) (A : Around) (outer : List Env) (s : Shared) (H : Hp) (E : XK), Room k (A.deeper (envOfC x (defScope st) s.heap.objs.size f cdv)) →
      ∃ fb, PSs (cxOf CX P w K mg base N x (defScope st) f cdv A outer s H E) (defBody st) (upS K (fun c d _ H => E c d H) fb) ∧ ∀ ds R X, g ds R X → fb (startM N.length ds) { nx := fun _ => R .non, rt := R } (fun x _ => X x)) :
    CalG P w K mg base CX (k + 1) x ps g := by
  obtain ⟨f, fd, hF, hm, hb⟩ := F
  have kp := hF.kp
  obtain ⟨oc, od, kV, doc, pm, an, cdv, ct, osl, e, lk, hcd⟩ := hF.ex
  subst e
  refine ⟨f, _, fn_of lk hcd S (fun vs H Q E ⟨z, ds, R, Ex, _, r, h, _⟩ => r.len.trans (len ds R Ex h)) (fun A outer s H vs Q E hr h => ?_), hm, kp, hb⟩
  obtain ⟨fb, hd, hp⟩ := body f cdv A outer s H E hr
  obtain ⟨z, ds, R, Ex, ok, r, h, kq, kx⟩ := h
  exact ⟨_, hd, start_up ok r kq kx (fun _ _ _ _ q => q) (hp ds R Ex h)⟩
end
end DL

/-! The data layer, part 7: a comprehension whose element may raise. -/
namespace DL
open PySem PySem.Spec PyProof.Rows L2

/-- the block's context, its wish about exceptions: the def's, behind the block's end -/
abbrev blkX (X : Cx) (s : Shared) (H : Hp) (scope : Scope) (cenv : Env) (fp : List Addr) : Cx :=
  { X.blk s H scope cenv fp with xe := notedBy (model X.prog X.w) X.A cenv (CompFails (model X.prog X.w) X.A X.xe cenv) }
section
variable {X : Cx} {W : WX}
/-- what a call in the block lets out goes on in the def -/
theorem fails_up {pins pins' : List (Addr × Obj)} {σ σ' : L2.St} {H3 H : Hp} {s3 s s' : Shared} {fp : List Addr} {scope : Scope} {ce : Env} {E : XK} {u : Value} (hs : X.stack = X.env :: X.outer) (hf : X.env.frame = some X.env.locals) (tk : L2.Takes X W)
    (I3 : Inv X pins σ H3 s3) (f3 : ∀ b ∈ fp, FpOk X pins H3 b ∧ b < s3.heap.objs.size) (cf : ce.frame = X.env.frame) (cl : ce.locals = s3.heap.objs.size) (I6 : Inv (blkX X s3 H3 scope ce fp) pins' σ' H s) (hW : ∀ c d H', E c d H' → W c d σ H')
    (c : L2.CX X.prog X.w X.stack H s E u s') : (blkX X s3 H3 scope ce fp).xe u s' := by
  obtain ⟨a, B, H', cls, d, eu, fl, hok, ub, na, os, ag, hE⟩ := c
  subst eu
  have I7 : Inv X pins σ H s := I3.call' (ch := fp) I6.os I6.base I6.hok I6.bare fun b hb => ⟨(f3 b hb).1.2.2.2.1, (f3 b hb).1.2.1, (f3 b hb).1.2.2.2.2.1, (f3 b hb).1.2.2.2.2.2⟩
  have nC : H s3.heap.objs.size = none := by
    have z : H ce.locals = none := I6.free
    rwa [cl] at z
  have fC := I3.fpOk (Nat.le_refl _) nC
  have hfr : X.A.frames = some (X.env :: X.outer) := by rw [I7.ok.frames, hs]
  have offC : s3.heap.objs.size ∉ frs X.stack := fun hm => by
    rcases List.mem_cons.mp (I7.stkSub _ hm) with z | z
    · exact fC.2.1 z
    · exact fC.2.2.1 z
  obtain ⟨m, hn, _⟩ := I6.loc
  have hn : s.heap.Ns ce.locals m := hn
  rw [cl] at hn
  obtain ⟨oC, es, ep, gC, dC, rC⟩ := hn
  have bC : B.get? s3.heap.objs.size = some oC := ub.keep _ _ gC nC offC
  have gC1 := fl.1 _ _ bC
  have nC1 : H' s3.heap.objs.size = none := ub.free _ _ gC nC
  generalize s3.heap.objs.size = C at *
  obtain ⟨B1, r1, r2⟩ := restrict B fun b => decide (b ≠ C)
  have less : ∀ b o, B1.get? b = some o → b ≠ C ∧ B.get? b = some o := fun b o e => by
    by_cases hb : b = C
    · rw [r2 b (by simp [hb])] at e
      cases e
    · rw [r1 b (by simp [hb])] at e
      exact ⟨hb, e⟩
  have more : ∀ b o, b ≠ C → B.get? b = some o → B1.get? b = some o := fun b o hb e => by
    rw [r1 b (by simp [hb])]
    exact e
  have noneB : ∀ b, B.get? b = none → B1.get? b = none := fun b e => by
    cases q : B1.get? b with
    | none => rfl
    | some o =>
      have z := (less b o q).2
      rw [e] at z
      cases z
  have fl1 : HandSPX.FlyingZ B1 (X.env :: X.outer) a (Zc cls d) s'.heap := by
    obtain ⟨p1, p2, p3, oe, vs, T, oT, ts, t1, t2, t3, t4, t5, t6⟩ := fl
    rw [hs] at p3
    exact ⟨fun b o e => p1 b o (less b o e).2, noneB _ p2, funFrames_none p3 fun L hL => noneB _ (p3.mem hL).1, oe, vs, T, oT, ts, t1, t2, t3, t4, noneB _ t5, t6⟩
  show wpAny (model X.prog X.w) X.A (noteFrame (.ref a) ce) _ _ s'
  rw [PySem.noteFrame_env _ cf]
  refine HandSPX.looks_onZ Zc.steady hfr hf fl1 fun h1 hh up1 => ?_
  have notF : ∀ vs, oC.data ≠ .fields vs := fun vs q => by rw [dC] at q; cases q
  obtain ⟨sl1, g1C⟩ := up1 _ _ gC1 notF
  refine ⟨m, by rw [cl]; exact ⟨_, es, ep, g1C, dC, rC⟩, fun h2 m2 hn2 sb => ?_⟩
  rw [cl] at hn2 sb
  have hh2 : HandSPX.HeldZ B1 (X.env :: X.outer) a (Zc cls d) X.env.locals h2 := by
    obtain ⟨p1, p2, p3, oe, vs, T, oT, ts, t1, t2, t3, t4, t5, t6, t7, t8, t9⟩ := hh
    have offF : ∀ b o w, h1.get? b = some o → o.data = .fields w → b ≠ C := fun b o w e dd z => by
      rw [z, g1C] at e
      cases e
      have z2 : oC.data = .fields w := dd
      rw [dC] at z2
      cases z2
    exact ⟨fun b o e => (sb.2 b (less b o e).1).trans (p1 b o e), p2, Heap.FunFrames.sameBut sb hn2 p3, oe, vs, T, oT, ts, (sb.2 a (offF a oe vs t1 t3)).trans t1, t2, t3, t4, t5, t6, (sb.2 T (offF T oT ts t7 t8)).trans t7, t8, t9⟩
  have fld := hh2.2.2.2
  obtain ⟨oe, vs, T, oT, ts, t1, t2, t3, t4, _⟩ := fld
  unfold PySem.passOn
  refine wpAny_bind (wpAny_field t1 t3 t4 ?_)
  rw [if_neg (show ¬ ((Value.ref T == Value.none) = true) from by simp), cf, hf]
  refine wpAny_bind (HandSPX.setFlight_onZ hh2 fun h3 hh3 up3 => wpAny_throw ?_)
  obtain ⟨G, g1, g2⟩ := restrict h3 fun b => (B1.get? b).isSome || decide (b ∈ frs X.stack)
  have inG : ∀ b o, B1.get? b = some o → G.get? b = some o := fun b o e => by
    rw [g1 b (by simp [e])]
    exact hh3.1 b o e
  have frG : ∀ b, b ∈ frs X.stack → G.get? b = h3.get? b := fun b hb => g1 b (by simp [hb])
  have ofG : ∀ b o, G.get? b = some o → h3.get? b = some o ∧ ((∃ o', B1.get? b = some o') ∨ b ∈ frs X.stack) := fun b o e => by
    cases q : ((B1.get? b).isSome || decide (b ∈ frs X.stack)) with
    | false =>
      rw [g2 b q] at e
      cases e
    | true =>
      rw [g1 b q] at e
      simp only [Bool.or_eq_true, decide_eq_true_eq] at q
      exact ⟨e, q.imp Option.isSome_iff_exists.mp id⟩
  have offC2 : ∀ b, b ∈ frs X.stack → b ≠ C := fun b hb e => offC (e ▸ hb)
  have slots : ∀ b o, s.heap.get? b = some o → b ∈ frs X.stack → ∃ sl, h3.get? b = some { o with slots := sl } := fun b o e hb => by
    obtain ⟨_, o0, e0, nf⟩ := I7.stack.mem hb
    rw [e] at e0
    cases e0
    obtain ⟨s1, e1⟩ := ub.slot b o e hb
    obtain ⟨s2, e2⟩ := up1 b _ e1 nf
    obtain ⟨s3, e3⟩ := up3 b _ ((sb.2 b (offC2 b hb)).trans e2) nf
    exact ⟨s3, e3⟩
  have hokG : HOk X.prog X.w H' G := by
    have h1 : HOk X.prog X.w H' B1 := fun b o e => (hok b o e).stay (fun x v hx q => more x v (fun z => by
      rcases hx with y | y
      · rw [← y, z, nC1] at e
        cases e
      · rw [z, nC1] at y
        cases y) q) (fun _ q => q) fun _ _ q => q
    exact h1.kept inG
  refine tk _ _ ⟨a, B1, { s with heap := G, gens := s'.gens, drawn := s'.drawn, toks := s'.toks }, pins, σ, H', cls, d, rfl, ?_, fun b o e hb => ?_, Heap.UpToSlots.of_keeps fun b o e => (ofG b o e).1, by rw [hs]; exact .inr (.inr hh3), na, os, ag, hW _ _ _ hE⟩
  · refine I7.call (ch := [C]) ⟨fun b o e n hb hc => inG b o (more b o (by simpa using hc) (ub.keep b o e n hb)), fun b o e n hb hc => ?_, fun b o e n hc => ub.free b o e n, fun b o e hc => ?_, ub.tups, ub.frzs, ub.tbls⟩ hokG ag fun b hb => ?_
    · obtain ⟨sl, q⟩ := slots b o e hb
      exact ⟨sl, by rw [frG b hb]; exact q⟩
    · by_cases hb : b ∈ frs X.stack
      · obtain ⟨sl, q⟩ := slots b o e hb
        exact ⟨_, by rw [frG b hb]; exact q⟩
      · obtain ⟨o', q⟩ := ub.there b o e hb
        exact ⟨o', inG b o' (more b o' (by simpa using hc) q)⟩
    · obtain rfl : b = C := by simpa using hb
      exact ⟨fC.2.2.2.1, fC.2.1, fC.2.2.2.2.1, fC.2.2.2.2.2⟩
  · obtain ⟨e1, h⟩ := ofG b o e
    rcases h with ⟨o', q⟩ | h
    · have z := hh3.1 b o' q
      rw [e1] at z
      cases z
      exact q
    · exact absurd h hb

/-- what a comprehension's loop owes at its end -/
def endsC (M : Model) (A : Around) (E : Value → Shared → Prop) (use : Option (Value → Sem Unit)) (Q : Value → Shared → Prop) (acc : Value) (cenv : Env) (r : Result) (s' : Shared) : Prop :=
  match r with
  | .ok f => compEnds M A E use Q acc cenv (.ok f) s'
  | .error x => CompFails M A E cenv x s'
theorem endsC_ends {M : Model} {A : Around} {E : Value → Shared → Prop} {use : Option (Value → Sem Unit)} {Q : Value → Shared → Prop} {acc : Value} {cenv : Env} {r : Result} {s' : Shared} (h : endsC M A E use Q acc cenv r s') : compEnds M A E use Q acc cenv r s' := by
  cases r with
  | ok f => exact h
  | error x => cases use <;> exact h
theorem off {α : Type} {t : Sem α} {Q Q' : α → Shared → Prop} {M : Model} {A : Around} {E : Value → Shared → Prop} {s : Shared} (h : wpAny M A t Q (fun _ _ => False) s) (hQ : ∀ a s, Q a s → Q' a s) : wpAny M A t Q' E s := wpAny_mono h hQ fun _ _ z => z.elim

/-- the comprehension, its element's exceptions those of calls -/
theorem lcX {pins : List (Addr × Obj)} {s : Shared} {σ : L2.St} {H : Hp} {Q : VK} {elt tg iter : Expr} {ifs : List Expr} {scope : Scope} {own : List (Str × Nat)} {pos pos' : Pos} {wi : TI} {g : TG} {tt : TT} {te : TE} {use : Option (Value → Sem Unit)} {Qf : Value → Shared → Prop}
    (hs : X.stack = X.env :: X.outer) (hf : X.env.frame = some X.env.locals) (tk : L2.Takes X W) (hc : X.calm = true) (hN : X.N.Nodup) (I : Inv X pins σ H s) (hi : PI X tg iter wi) (ok : BlkOk X.N X.env.scope scope own)
    (hg : ∀ (s : Shared) (H : Hp) (C : Addr) (cl : List (Str × Addr)) (fp : List Addr), PG (blkX X s H scope (compEnvC scope cl C X.env) fp) tg g) (ht : ∀ (s : Shared) (H : Hp) (C : Addr) (cl : List (Str × Addr)) (fp : List Addr), PTs (blkX X s H scope (compEnvC scope cl C X.env) fp) ifs tt)
    (he : ∀ (s : Shared) (H : Hp) (C : Addr) (cl : List (Str × Addr)) (fp : List Addr), (∀ σ', PassesAt (L2.CX X.prog X.w) (blkX X s H scope (compEnvC scope cl C X.env) fp) σ' (fun c d H => W c d σ H)) → PE (blkX X s H scope (compEnvC scope cl C X.env) fp) elt te)
    (hfold : ∀ x, foldedSetIterable iter X.env x = pure x) (h : tLc wi g tt te (own.map (·.2)) σ H Q)
    (fin : ∀ D (ce : Env) s' m H', Inv X pins σ H' s' → Q (.ref D) H' → s'.heap.Ns ce.locals m → FpOk X pins H' ce.locals → compEnds (model X.prog X.w) X.A X.xe use Qf (.ref D) ce (.ok .next) s') :
    wpAny (model X.prog X.w) X.A (comprehension (.ListComp elt [⟨tg, iter, ifs, 0⟩] scope pos) scope X.env pos' (newList []) false (eval iter X.env) use) Qf X.xe s := by
  have hfree : ∀ y ∈ scope.names, y.2 = .free → ∃ c, X.env.cells.lookup y.1 = some c := fun y hy e => (ok.free y hy e).elim (fun k => I.ok.has _ (.inl k)) fun k => I.ok.has _ (.inr k)
  refine comprehension_at (use := use) rfl hfold (closure_ok hfree) ok.kind (fun y hy e => by rw [ok.uniq y hy, e]) (thn (hi.run pins s σ H _ I h) fun xv s1 hx => thn hx fun itv s2 h2 => ?_)
  obtain ⟨it, fp, tn, J, H2, e, I2, T, st2, f2, q⟩ := h2
  subst e
  refine wpAny_newObj_type (newEnv_comp ?_) (by show 0 ≤ sizeLine; decide)
  have hDn : H2 s2.heap.objs.size = none := I2.hok.fresh (Nat.le_refl _)
  obtain ⟨Wv, ⟨m0, w0⟩, turn⟩ := q _ hDn
  obtain ⟨s3, e3⟩ : ∃ s3 : Shared, s3 = { s2 with heap := s2.heap.push { cls := .type "list", data := .seq ([] : List Value).toArray } } := ⟨_, rfl⟩
  have h3 : s3.heap = s2.heap.push { cls := .type "list", data := .seq ([] : List Value).toArray } := by rw [e3]
  have I3 : Inv X pins σ (upd H2 s2.heap.objs.size (.lst [])) s3 := by
    rw [e3]
    exact I2.laid (t' := s2.toks) (fun b o e => Heap.get?_push_of_some _ e) (Nat.le_refl _) ⟨Nat.zero_le _, [], 0, .nil, Heap.get?_push_size _ rfl⟩
  have f3 : ∀ b ∈ fp, FpOk X pins (upd H2 s2.heap.objs.size (.lst [])) b ∧ b < s3.heap.objs.size := fun b hb => by
    obtain ⟨o, e, _⟩ := T.obj _ _ st2 b hb
    have lt := Heap.lt_size e
    refine ⟨⟨?_, (f2 b hb).2⟩, by rw [h3, Heap.size_push]; exact Nat.lt_succ_of_lt lt⟩
    rw [upd_ne (Nat.ne_of_lt lt)]
    exact (f2 b hb).1
  have st3 : tn 0 s3.heap := T.keep _ _ _ st2 fun b _ o e => by rw [h3]; exact Heap.get?_push_of_some _ e
  rw [← e3]
  generalize s2.heap.objs.size = D at *
  generalize upd H2 D (.lst []) = H3 at I3 f3 w0
  have I4 := block_start I3 ok hN f3
  obtain ⟨ce, ec⟩ : ∃ ce, ce = compEnvC scope (cellsFrom (s3.heap.objs.size + 1) scope.names (cloFrom X.env.cells scope.names [])) s3.heap.objs.size X.env := ⟨_, rfl⟩
  have cf : ce.frame = X.env.frame := by rw [ec]; rfl
  have cl : ce.locals = s3.heap.objs.size := by rw [ec]; rfl
  have pg := hg s3 H3 s3.heap.objs.size (cellsFrom (s3.heap.objs.size + 1) scope.names (cloFrom X.env.cells scope.names [])) fp
  have pt := ht s3 H3 s3.heap.objs.size (cellsFrom (s3.heap.objs.size + 1) scope.names (cloFrom X.env.cells scope.names [])) fp
  have pe := he s3 H3 s3.heap.objs.size (cellsFrom (s3.heap.objs.size + 1) scope.names (cloFrom X.env.cells scope.names [])) fp
  show codeAny _ _ (.compStart (.ListComp elt [⟨tg, iter, ifs, 0⟩] scope pos) 0 (.ref it) (.ref D) (compEnvC scope (cellsFrom (s3.heap.objs.size + 1) scope.names (cloFrom X.env.cells scope.names [])) s3.heap.objs.size X.env)) (compEnds (model X.prog X.w) X.A X.xe use Qf (.ref D) (compEnvC scope (cellsFrom (s3.heap.objs.size + 1) scope.names (cloFrom X.env.cells scope.names [])) s3.heap.objs.size X.env)) { s3 with heap := pushCells (s3.heap.push { cls := .type "dict", data := .dict #[] }) scope.names }
  rw [← ec] at I4 pg pt pe ⊢
  have pe := pe fun σ' pins' H' s0 e s' I6 c => fails_up (scope := scope) (σ' := σ') hs hf tk I3 f3 cf cl I6 (fun _ _ _ z => z) c
  refine codeAny_mono (R := endsC (model X.prog X.w) X.A X.xe use Qf (.ref D) ce) ?_ fun r s' hr => endsC_ends hr
  have I4 : Inv (blkX X s3 H3 scope ce fp) [] (L2.wipe σ (own.map (·.2))) H3 _ := I4.wish _
  generalize e4 : ({ s3 with heap := pushCells (s3.heap.push { cls := .type "dict", data := .dict #[] }) scope.names } : Shared) = s4 at I4 ⊢
  have st4 : tn 0 s4.heap := T.keep _ _ _ st3 fun b _ o e => by rw [← e4]; exact pushCells_keeps _ _ _ _ (Heap.get?_push_of_some _ e)
  have nfp : ∀ b ∈ fp, H3 b = none := fun b hb => (f3 b hb).1.1
  have stat : ∀ {σ' : L2.St} {H' : Hp} {s' : Shared}, Inv (blkX X s3 H3 scope ce fp) [] σ' H' s' → (∀ b ∈ fp, H' b = none) → ∀ b ∈ fp, FpOk (blkX X s3 H3 scope ce fp) [] H' b := fun {σ' H' s'} I' hn b hb =>
    ⟨hn b hb, (I'.ok.exf b hb).1, I'.ok.exfs b hb, .inl hb, fun x c e => (I'.ok.exf b hb).2 x c e, fun p hp => absurd (show p ∈ ([] : List (Addr × Obj)) ++ [] from hp) (by simp)⟩
  have loop : codeAny (model X.prog X.w) X.A (.compLoop (.ListComp elt [⟨tg, iter, ifs, 0⟩] scope pos) 0 (.ref it) (.ref D) ce) (endsC (model X.prog X.w) X.A X.xe use Qf (.ref D) ce) s4 := by
    refine compLoop_any (fun n s' => ∃ i H', Inv (blkX X s3 H3 scope ce fp) [] (L2.wipe σ (own.map (·.2))) H' s' ∧ tn i s'.heap ∧ (∀ b ∈ fp, H' b = none) ∧ Wv i n H') ?_ m0 ⟨0, H3, I4, st4, nfp, w0⟩
    rintro n s5 ⟨i, H5, I5, st5, n5, w5⟩
    rcases turn i n H5 w5 with ⟨stop, qq⟩ | ⟨go, Nx, hNx, step⟩
    · refine off (T.done (blkX X s3 H3 scope ce fp) rfl rfl rfl hc i [] s5 _ H5 (fun _ _ => False) I5 (stat I5 n5) st5 stop) fun r s6 ⟨hr, I6⟩ => ?_
      subst hr
      have I7 : Inv X pins σ H5 s6 := I3.call' (ch := fp) I6.os I6.base I6.hok I6.bare fun b hb => ⟨(f3 b hb).1.2.2.2.1, (f3 b hb).1.2.1, (f3 b hb).1.2.2.2.2.1, (f3 b hb).1.2.2.2.2.2⟩
      have nC : H5 ce.locals = none := I6.free
      obtain ⟨m, hn, _⟩ := I6.loc
      refine fin D ce s6 m H5 I7 qq hn ?_
      rw [cl] at nC ⊢
      exact I3.fpOk (Nat.le_refl _) nC
    · refine off (T.item (blkX X s3 H3 scope ce fp) rfl rfl rfl hc i [] s5 _ H5 (fun _ _ => False) I5 (stat I5 n5) st5 go) fun r s6 ⟨u, hr, h6⟩ => ?_
      subst hr
      refine off h6 fun _ s7 ⟨x, H7, I7, r7, y7, st7, n7⟩ => ?_
      have I7' := I7.pinned (stat I7 n7) (T.obj _ _ st7)
      refine thn (pg.run _ s7 _ H7 x u _ I7' r7 (step x H7 y7)) fun _ s8 ⟨σ8, H8, I8, hw8, q8⟩ => ?_
      refine thn (pt.run _ s8 σ8 H8 _ I8 q8) fun b s9 ⟨H9, I9, q9⟩ => ?_
      have again : ∀ {s' : Shared} {H' : Hp}, Inv (blkX X s3 H3 scope ce fp) ([] ++ pinsAt fp s7.heap) σ8 H' s' → Nx H' → ∃ m, m < n ∧ ∃ i H', Inv (blkX X s3 H3 scope ce fp) [] (L2.wipe σ (own.map (·.2))) H' s' ∧ tn i s'.heap ∧ (∀ b ∈ fp, H' b = none) ∧ Wv i m H' := fun {s' H'} I' nx => by
        obtain ⟨m', hm, w'⟩ := hNx H' nx
        have pin' : ∀ b ∈ fp, ∀ o, s7.heap.get? b = some o → s'.heap.get? b = some o ∧ H' b = none := fun b hb o e =>
          have z := I'.pin (b, o) (List.mem_append_right _ (List.mem_append_right _ (mem_pinsAt hb e)))
          ⟨z.1, z.2.1⟩
        refine ⟨m', hm, i + 1, H', (I'.unpinned (pins := [])).weak (by rw [← hw8, wipe_length]) (fun j v e => ?_), T.keep _ _ _ st7 fun b hb o e => (pin' b hb o e).1, fun b hb => ?_, w'⟩
        · rw [← hw8] at e
          exact (wipe_some e).1
        · obtain ⟨o, e, _⟩ := T.obj _ _ st7 b hb
          exact (pin' b hb o e).2
      cases b with
      | false =>
        simp only [Bool.false_eq_true, if_false] at q9 ⊢
        exact again I9 q9
      | true =>
        simp only [if_true] at q9 ⊢
        refine thn (pe.run _ s9 σ8 H9 _ I9 q9) fun z s10 ⟨yv, H10, I10, r10, acc, hD10, hz10, nx⟩ => ?_
        exact app_ok (X := blkX X s3 H3 scope ce fp) I10 hD10 hz10 r10 fun s11 I11 => again I11 nx
  exact codeAny_compStart_list loop (T.self X.A 0 _ _ _ st4 loop)
theorem pe_lcX {elt tg iter : Expr} {ifs : List Expr} {scope : Scope} {own : List (Str × Nat)} {pos : Pos} {wi : TI} {g : TG} {tt : TT} {te : L2.St → TE} (hs : X.stack = X.env :: X.outer) (hf : X.env.frame = some X.env.locals) (tk : L2.Takes X W) (hc : X.calm = true) (hN : X.N.Nodup) (hi : PI X tg iter wi) (ok : BlkOk X.N X.env.scope scope own)
    (hg : ∀ (s : Shared) (H : Hp) (C : Addr) (cl : List (Str × Addr)) (fp : List Addr), PG (blkX X s H scope (compEnvC scope cl C X.env) fp) tg g) (ht : ∀ (s : Shared) (H : Hp) (C : Addr) (cl : List (Str × Addr)) (fp : List Addr), PTs (blkX X s H scope (compEnvC scope cl C X.env) fp) ifs tt)
    (he : ∀ (σ : L2.St) (s : Shared) (H : Hp) (C : Addr) (cl : List (Str × Addr)) (fp : List Addr), (∀ σ', PassesAt (L2.CX X.prog X.w) (blkX X s H scope (compEnvC scope cl C X.env) fp) σ' (fun c d H => W c d σ H)) → PE (blkX X s H scope (compEnvC scope cl C X.env) fp) elt (te σ))
    (hfold : ∀ x, foldedSetIterable iter X.env x = pure x := by intro _; rfl) : PE X (.ListComp elt [⟨tg, iter, ifs, 0⟩] scope pos) (fun σ H Q => tLc wi g tt (te σ) (own.map (·.2)) σ H Q) := by
  refine ⟨fun pins s σ H Q I h => ?_⟩
  rw [eval_ListComp]
  refine lcX hs hf tk hc hN I hi ok hg ht (he σ) hfold h fun D ce s' m H' I' q hn f => ⟨m, hn, fun h'' sb => ?_⟩
  obtain ⟨f0, f1, f2, f3, f4, f5⟩ := f
  exact ⟨.ref D, H', I'.turned (t' := s'.toks) (fun b o hb e => (sb.2 b hb).trans e) f0 f1 f3 f4 f5, rfl, q⟩
end

/-! ### over data -/
def stepDX (g : DG) (vs : List Nat) (ft : DT) (fe : DE) (δ : DS) (E : XQ) : D → (Option D → Prop) → Prop := fun x k =>
  g x (wipeD δ vs) fun δ2 => ft δ2 (fun b => if b = true then fe δ2 (fun y => k (some y)) E else k none) (fun _ => False)
def dLcX (fi : DI) (g : DG) (vs : List Nat) (ft : DT) (fe : DE) : DE := fun δ P E => fi δ (fun xs => lcD (stepDX g vs ft fe δ E) xs [] (fun ys => P (.lst ys))) E
section
variable {X : Cx} {W : WX} {elt tg iter : Expr} {ifs : List Expr} {scope : Scope} {own : List (Str × Nat)} {pos : Pos} {fi : DI} {g : TG} {gd : DG} {ft : DT} {fe : DE}
theorem lc_upX (hw : TgW X.K g gd (own.map (·.2))) {σ : L2.St} {H : Hp} {Q : VK} (h : up X.K W (dLcX fi gd (own.map (·.2)) ft fe) σ H Q) :
    tLc (upI X.K W fi) g (upT X.K W0 ft) (up X.K (fun c d _ H => W c d σ H) fe) (own.map (·.2)) σ H Q := by
  obtain ⟨z, δ, P, E, ok, sl, hf, kq, kx⟩ := h
  refine ⟨z, δ, _, E, ok, sl, hf, fun ds H1 J p e1 it L hL => ?_, kx⟩
  have ok1 := ok.ev e1
  have nL : ¬ z.n L := ok1.new hL
  have zL : z.z ≠ some L := Cz.nz nL
  have itL := it (z.shut L) (okc_shut hL)
  have s1 : Sl X.K (z.shut L) H1 σ δ := (sl.evn e1).re rfl (okc_shut hL).new
  refine ⟨fun i m H' => m = ds.length - i ∧ i ≤ ds.length ∧ ∃ acc vacc, H' L = some (.lst vacc) ∧ RpAll X.K (z.shut L) H' vacc acc ∧ Ev (z.shut L) H1 H' ∧ Ok (z.shut L) H' ∧ lcD (stepDX gd (own.map (·.2)) ft fe δ E) (ds.drop i) acc (fun ys => P (.lst ys)),
    ⟨ds.length, by simp, Nat.zero_le _, [], [], upd_same, .nil, ev_shut.mpr (.new hL), (ok1.upd zL (.inl hL)).shut ⟨_, upd_same, fun _ w => (by cases w)⟩, p⟩, ?_⟩
  rintro i m H2 ⟨rfl, hi, acc, vacc, hL2, ra, e2, ok2, p2⟩
  by_cases hlt : i < ds.length
  · refine .inr ⟨itL.go i H2 e2 hlt, fun H' => ∃ acc vacc, H' L = some (.lst vacc) ∧ RpAll X.K (z.shut L) H' vacc acc ∧ Ev (z.shut L) H1 H' ∧ Ok (z.shut L) H' ∧ lcD (stepDX gd (own.map (·.2)) ft fe δ E) (ds.drop (i + 1)) acc (fun ys => P (.lst ys)),
      fun H' q => ⟨ds.length - (i + 1), by omega, rfl, hlt, q⟩, fun x H3 hy => ?_⟩
    obtain ⟨e0, d, hd, rd0⟩ := itL.yld i H2 x H3 e2 hlt hy
    subst e0
    have rd := rd0.evn e2
    rw [drop_at hlt hd] at p2
    obtain ⟨hz, p2⟩ := p2
    have ok3 := ok2
    have e13 := e2
    have e3 : Ev (z.shut L) H3 H3 := .refl
    have kL : ∀ {H' : Hp}, Ev (z.shut L) H3 H' → H' L = some (.lst vacc) := fun e => e.keep L _ zL (fun q => nL (z.on L q)) (fun _ w => by cases w) hL2
    have p3 : gd d (wipeD δ (own.map (·.2))) (fun δ2 => ft δ2 (fun b => if b = true then fe δ2 (fun y => lcD (stepDX gd (own.map (·.2)) ft fe δ E) (ds.drop (i + 1)) (acc ++ [y]) (fun ys => P (.lst ys))) E
      else lcD (stepDX gd (own.map (·.2)) ft fe δ E) (ds.drop (i + 1)) acc (fun ys => P (.lst ys))) (fun _ => False)) := p2
    have sw : Sl X.K (z.shut L) H3 (L2.wipe σ (own.map (·.2))) (wipeD δ (own.map (·.2))) := (s1.evn e13).wipe _
    refine hw (z.shut L) (wipeD δ (own.map (·.2))) (L2.wipe σ (own.map (·.2))) d x H3 _ _ ok3 sw rd p3 ?_
    intro δ' σ' hk s' hws
    refine ⟨hws.trans (wipe_wipe _ _), ?_⟩
    refine ⟨z.shut L, δ', _, _, ok3, s', hk, fun b H4 pb e4 => ?_, fun _ _ _ _ q => q.elim⟩
    have e24 := e3.trans e4
    cases b with
    | false =>
      rw [if_neg Bool.false_ne_true] at pb
      exact iteF ⟨acc, vacc, kL e24, ra.evn e24, e2.trans e24, ok2.ev e24, pb⟩
    | true =>
      rw [if_pos rfl] at pb
      refine iteT ⟨z.shut L, δ', _, E, ok3.ev e4, s'.evn e4, pb, fun y u H5 py e5 ry => ?_, fun x c dd H' hx e5 r5 => ?_⟩
      · have e25 := e24.trans e5
        have nn : (z.shut L).n L := .inr rfl
        exact ⟨vacc, kL e25, by rw [ra.len]; exact hz, acc ++ [y], vacc ++ [u], upd_same, ((ra.evn e25).app (.one ry)).wr nn, ev_shut.mpr ((ev_shut.mp (e2.trans e25)).updNew hL (kL e25)), (ok2.ev e25).upd (L := L) zL (.inr ⟨_, kL e25⟩), py⟩
      · exact kx x c dd H' hx (e1.trans (ev_shut.mp (e2.trans (e24.trans e5)))) (xr_re (z := z.shut L) (y := z) rfl (fun a _ hn q => hn (Or.inl q)) r5)
  · have e : i = ds.length := by omega
    subst e
    rw [List.drop_length] at p2
    exact .inl ⟨itL.stop _ H2 e2 rfl, kq _ _ H2 p2 (e1.trans (ev_shut.mp e2)) (.lst hL2 nL (ra.re (z := z.shut L) (y := z) rfl fun a _ hn q => hn (Or.inl q)))⟩
theorem pd_lcX (hs : X.stack = X.env :: X.outer) (hf : X.env.frame = some X.env.locals) (tk : L2.Takes X W) (hc : X.calm = true) (hN : X.N.Nodup) (hi : PI X tg iter (upI X.K W fi)) (ok : BlkOk X.N X.env.scope scope own)
    (hg : ∀ (s : Shared) (H : Hp) (C : Addr) (cl : List (Str × Addr)) (fp : List Addr), PG (blkX X s H scope (compEnvC scope cl C X.env) fp) tg g) (hw : TgW X.K g gd (own.map (·.2)))
    (ht : ∀ (s : Shared) (H : Hp) (C : Addr) (cl : List (Str × Addr)) (fp : List Addr), PTs (blkX X s H scope (compEnvC scope cl C X.env) fp) ifs (upT X.K W0 ft))
    (he : ∀ (W' : WX) (s : Shared) (H : Hp) (C : Addr) (cl : List (Str × Addr)) (fp : List Addr), (∀ σ', PassesAt (L2.CX X.prog X.w) (blkX X s H scope (compEnvC scope cl C X.env) fp) σ' (WE W' σ')) → PE (blkX X s H scope (compEnvC scope cl C X.env) fp) elt (up X.K W' fe))
    (hfold : ∀ x, foldedSetIterable iter X.env x = pure x := by intro _; rfl) : PE X (.ListComp elt [⟨tg, iter, ifs, 0⟩] scope pos) (up X.K W (dLcX fi gd (own.map (·.2)) ft fe)) :=
  PE_imp (pe_lcX (W := W) (te := fun σ => up X.K (fun c d _ H => W c d σ H) fe) hs hf tk hc hN hi ok hg ht (fun σ s H C cl fp hp => he _ s H C cl fp hp) hfold) fun _ _ _ h => lc_upX hw h
end
end DL

/-! Sets of tuples of texts and ints: the search, the adding. -/
namespace TSet
open PySem PyProof.Rows L2

/-- an element: where it lies, what it says -/
abbrev El := Addr × List Key
abbrev kh (P : Program) (w : World) (q : El) : Int := tupleKeyHash (mixKind P w) q.2
abbrev On (P : Program) (w : World) (h : Heap) (q : El) : Prop := IsTupleKey (mixKind P w) h q.2 q.1
abbrev cell (P : Program) (w : World) (q : El) : Int × Value := (kh P w q, .ref q.1)

section
variable {P : Program} {w : World} {A : Around} {E : Value → Shared → Prop} {s : Shared}
/-- a loop each turn of which changes nothing -/
theorem calm_loop {β : Type} (xs : List Value) (f : Value → β → Sem (ForInStep β)) (b : β) {Q : β → Shared → Prop} (step : ∀ v ∈ xs, ∀ R : ForInStep β → Shared → Prop, R (.yield b) s → wpAny (model P w) A (f v b) R E s) (q : Q b s) :
    wpAny (model P w) A (forIn xs b f) Q E s := by
  refine wpAny_forIn_list f (fun rest r s' => r = b ∧ s' = s ∧ ∀ v ∈ rest, v ∈ xs) Q ?_ ?_ xs b ⟨rfl, rfl, fun v h => h⟩
  · rintro v rest _ _ ⟨rfl, rfl, hs⟩
    exact step v (hs v List.mem_cons_self) _ ⟨rfl, rfl, fun u hu => hs u (List.mem_cons_of_mem _ hu)⟩
  · rintro _ _ ⟨rfl, rfl, _⟩
    exact q
theorem flat_item {ks : List Key} {vs : List Value} (h : ItemsAre (mixKind P w) ks vs) : ∀ v ∈ vs, (∃ i t, v = .int i t) ∨ ∃ x t, v = .str x t := by
  induction h with
  | nil => intro v hv; cases hv
  | cons h1 _ ih =>
    intro v hv
    rcases List.mem_cons.mp hv with rfl | hv
    · rcases keyIs_shape h1 with ⟨i, t, e, _⟩ | ⟨x, t, e, _⟩
      · first | exact .inl ⟨i, t, e⟩ | exact .inl ⟨_, t, ‹_›⟩
      · first | exact .inr ⟨x, t, e⟩ | exact .inr ⟨_, t, ‹_›⟩
    · exact ih v hv
theorem flat_ofA {v : Value} (h : (∃ i t, v = .int i t) ∨ ∃ x t, v = .str x t) (n : Nat) : ofAClassStatement n v = pure false := by
  rcases h with ⟨i, t, rfl⟩ | ⟨x, t, rfl⟩ <;> cases n <;> rfl
theorem flat_by {v : Value} (h : (∃ i t, v = .int i t) ∨ ∃ x t, v = .str x t) (n : Nat) : hashByValue n v = pure true ∨ hashByValue n v = pure false := by
  rcases h with ⟨i, t, rfl⟩ | ⟨x, t, rfl⟩
  · exact .inl (by simp [hashByValue])
  · exact .inr (by simp [hashByValue])
/-- an element is of no class statement -/
theorem on_ofA {q : El} {Q : Bool → Shared → Prop} (h : On P w s.heap q) (k : Q false s) : wpAny (model P w) A (ofAClassStatement 8 (.ref q.1)) Q E s := by
  have ty := h.typeIs
  obtain ⟨o, its, n, g, _, dt, ar⟩ := h
  have flat := flat_item ar
  unfold ofAClassStatement
  refine wpAny_bind (wpAny_typeOf ty ?_)
  dsimp only
  rw [show (("tuple" : String) == "tuple") = true from rfl]
  simp only [if_true, Bool.not_true, Bool.false_eq_true, if_false]
  try refine wpAny_bind (wpAny_pure ?_)
  try simp only [Bool.not_true, Bool.false_eq_true, if_false]
  show wpAny _ _ (seqItems? (.ref q.1) >>= _) _ _ s
  refine wpAny_bind (wpAny_seqItems g dt ?_)
  dsimp only
  refine wpAny_bind ?_
  show wpAny _ _ (forIn its _ _) _ _ s
  rw [← Array.forIn_toList]
  refine calm_loop its.toList _ _ (fun v hv R r => ?_) ?_
  · rw [flat_ofA (flat v hv)]
    refine wpAny_bind (wpAny_pure ?_)
    simp only [Bool.false_eq_true, if_false]
    exact wpAny_pure r
  · exact wpAny_pure k
/-- whether an element is hashed by its value is told -/
theorem on_by {q : El} {Q : Bool → Shared → Prop} (h : On P w s.heap q) (k : ∀ b, Q b s) : wpAny (model P w) A (hashByValue 8 (.ref q.1)) Q E s := by
  have ty := h.typeIs
  obtain ⟨o, its, n, g, _, dt, ar⟩ := h
  have flat := flat_item ar
  unfold hashByValue
  refine wpAny_bind (wpAny_specialOf ty F.slot_tuple_hash.lookup ?_)
  show wpAny _ _ (seqItems? (.ref q.1) >>= _) _ _ s
  refine wpAny_bind (wpAny_seqItems g dt (wpAny_bind ?_))
  show wpAny _ _ (forIn its _ _) _ _ s
  rw [← Array.forIn_toList]
  refine wpAny_forIn_list _ (fun rest r s' => r.1 = none ∧ s' = s ∧ ∀ v ∈ rest, v ∈ its.toList) _ ?_ ?_ its.toList _ ⟨rfl, rfl, fun v hv => hv⟩
  · rintro v rest ⟨r1, r2⟩ _ ⟨e, rfl, hs⟩
    have e' : r1 = none := e
    subst e'
    rcases flat_by (flat v (hs v List.mem_cons_self)) 7 with z | z
    · rw [z]
      refine wpAny_bind (wpAny_pure ?_)
      simp only [Bool.not_true, Bool.false_eq_true, if_false]
      exact wpAny_pure ⟨rfl, rfl, fun u hu => hs u (List.mem_cons_of_mem _ hu)⟩
    · rw [z]
      refine wpAny_bind (wpAny_pure ?_)
      simp only [Bool.not_false, if_true]
      exact wpAny_pure (wpAny_pure (k _))
  · rintro ⟨r1, r2⟩ _ ⟨e, rfl, _⟩
    have e' : r1 = none := e
    subst e'
    exact wpAny_pure (k true)
/-- a search among elements shows nothing -/
theorem on_unseen {q : El} {Q : Bool → Shared → Prop} (h : On P w s.heap q) {ys : List Value} (hy : ∀ y ∈ ys, ∃ r : El, y = .ref r.1 ∧ On P w s.heap r) (k : Q false s) : wpAny (model P w) A (searchCouldBeSeen (.ref q.1) ys) Q E s := by
  unfold searchCouldBeSeen
  refine wpAny_bind (calm_loop ys _ _ (fun v hv R r => ?_) (wpAny_pure k))
  obtain ⟨e, rfl, he⟩ := hy v hv
  dsimp only
  by_cases same : (q.1 == e.1 || (carriedByValue (.ref q.1) && carriedByValue (.ref e.1))) = true
  · exact wp_if_pos same (wpAny_pure r)
  · refine wp_if_neg same (wpAny_bind (wpAny_eqIsQuiet_tuple h ?_))
    simp only [Bool.not_true, Bool.false_eq_true, if_false]
    refine wpAny_bind (wpAny_eqIsQuiet_tuple he ?_)
    simp only [Bool.not_true, Bool.false_eq_true, if_false]
    refine wpAny_bind (on_ofA h ?_)
    simp only [Bool.false_eq_true, if_false]
    refine wpAny_bind (on_ofA he ?_)
    simp only [Bool.false_eq_true, if_false]
    exact wpAny_pure r
end

/-- the set at a, its entries and its table -/
structure Tb (P : Program) (w : World) (h : Heap) (a : Addr) (L : List El) (es : Array (Int × Value)) (ep : Nat) (t : SetTable) : Prop where
  obj : ∃ o, h.get? a = some o ∧ o.ExactSet ∧ o.data = .set es ep t
  cells : es.toList = L.map (cell P w)
  tab : TabOk t (L.map (kh P w))
  nd : (L.map (·.2)).Nodup
  on : ∀ q ∈ L, On P w h q
  led : w.params.followText "set-order" = true ∨ t.led = true
  room : L.length * 5 < t.mask * 3
  few : L.length < 64

section
variable {P : Program} {w : World} {A : Around} {E : Value → Shared → Prop} {s : Shared} {a : Addr} {L : List El} {es : Array (Int × Value)} {ep : Nat} {t : SetTable}
theorem cells_size (h : es.toList = L.map (cell P w)) : es.size = L.length := by
  rw [← Array.length_toList, h, List.length_map]
theorem fit_of (h1 : t.place.size = es.size) (h2 : t.dummies = #[]) (h3 : es.size ≤ t.mask) : t.fits es.size = true := by
  simp only [SetTable.fits, SetTable.fill, h2, Bool.and_eq_true, beq_iff_eq, decide_eq_true_eq]
  exact ⟨h1, by show t.place.size + 0 ≤ t.mask; omega⟩
theorem Tb.place (T : Tb P w s.heap a L es ep t) : t.place.size = L.length := by
  rw [T.tab.sz, List.length_map]
theorem Tb.fit (T : Tb P w s.heap a L es ep t) : t.fits es.size = true :=
  have r := T.room
  have z := cells_size T.cells
  fit_of (T.place.trans z.symm) T.tab.dm (by omega)
theorem Tb.ent (T : Tb P w s.heap a L es ep t) {i : Nat} {q : El} (h : L[i]? = some q) : es[i]? = some (cell P w q) := by
  rw [← Array.getElem?_toList, T.cells, List.getElem?_map, h]
  rfl
theorem Tb.stays (T : Tb P w s.heap a L es ep t) : ¬ t.gaveWay = true := by
  simp only [SetTable.gaveWay, mask_odd T.tab.mok]
  decide
theorem quiet_nth (m : Nat) : ∀ (n : Nat) (p : SetTable.Probe), p.dummy = none → (nth m p n).dummy = none
  | 0, _, h => h
  | n + 1, p, h => quiet_nth m n (adv m p) (by unfold adv; split <;> exact h)

/-- the search, from the c-th stop on -/
theorem seek (T : Tb P w s.heap a L es ep t) {x : El} (hx : On P w s.heap x) (hu : A.units < cLine) {K : Nat} (lim : K < 10 * SetTable.turns t.mask)
    (free : way t.mask (kh P w x) K ∉ t.place.toList) (full : ∀ c, c < K → way t.mask (kh P w x) c ∈ t.place.toList) {Q : SetFound → Shared → Prop}
    (q1 : x.2 ∈ L.map (·.2) → Q (.there none) s) (q2 : x.2 ∉ L.map (·.2) → Q (.free (way t.mask (kh P w x) K) false) s) :
    ∀ (f c : Nat) (st : Option SetTable.Probe), st.getD (t.probeStart (kh P w x)) = nth t.mask (t.probeStart (kh P w x)) c → c ≤ K → K - c < f →
      (∀ (i : Nat) (q : El), L[i]? = some q → q.2 = x.2 → ∃ d, c ≤ d ∧ d < K ∧ t.place.toList[i]? = some (way t.mask (kh P w x) d)) →
      wpAny (model P w) A (setSearchFrom a (.ref x.1) (kh P w x) true f st) Q E s
  | 0, _, _, _, _, hf, _ => absurd hf (Nat.not_lt_zero _)
  | f + 1, c, st, at_, hc, hf, ahead => by
    obtain ⟨o, g, ex, dt⟩ := T.obj
    obtain ⟨N, hN⟩ : ∃ N, N = fun c => nth t.mask (t.probeStart (kh P w x)) c := ⟨_, rfl⟩
    have jN : ∀ c, (N c).j = way t.mask (kh P w x) c := fun c => by rw [hN]; rfl
    have N0 : nth t.mask (t.probeStart (kh P w x)) c = N c := by rw [hN]
    have hop : ∀ k, nth t.mask (N c) k = N (c + k) := fun k => by rw [hN]; exact (nth_add t.mask c _ k).symm
    have hopj : ∀ k, (nth t.mask (N c) k).j = way t.mask (kh P w x) (c + k) := fun k => by rw [hop, jN]
    have back : c + (K - c) = K := by omega
    have hashes : ∀ (i : Nat) (q : El), L[i]? = some q → ((es[i]?.map (·.1)).getD 0) = kh P w q := fun i q hq => by rw [T.ent hq]; rfl
    have spec := go_spec t T.tab.ris T.tab.dm (fun i => (es[i]?.map (·.1)).getD 0) (kh P w x) (10 * SetTable.turns t.mask) (K - c) (N c) (by rw [hN]; exact quiet_nth _ _ _ rfl) (by omega)
      (fun k hk => by rw [hopj]; exact full _ (by omega)) (by rw [hopj, back]; exact free)
    rw [setSearchFrom_succ]
    refine wpAny_bind (wpAny_setState_of g dt T.fit ?_)
    dsimp only
    refine wp_if_neg T.stays ?_
    try refine wpAny_bind (wpAny_pure ?_)
    rcases spec with ⟨k, i, hk, hi, _, fresh, pr⟩ | ⟨fresh, pr⟩
    · rw [hopj] at hi
      have pr2 : t.probe (fun i => (es[i]?.map (·.1)).getD 0) (kh P w x) (st.getD (t.probeStart (kh P w x))) = some (.candidate (way t.mask (kh P w x) (c + k)) i (N (c + (k + 1)))) := by
        rw [at_, N0, ← hopj, ← hop]
        exact pr
      rw [pr2]
      dsimp only
      have hil : i < L.length := by
        have h1 := (List.getElem?_eq_some_iff.mp hi).1
        have h2 := T.place
        rw [Array.length_toList] at h1
        omega
      obtain ⟨q, hq⟩ : ∃ q, L[i]? = some q := ⟨_, List.getElem?_eq_getElem hil⟩
      have qm : q ∈ L := List.mem_of_getElem? hq
      have live : t.slot (way t.mask (kh P w x) (c + k)) = .live i := slot_live T.tab.ris hi
      have tail : wpAny (model P w) A (searchRest a (.ref x.1) (kh P w x) true f es t (way t.mask (kh P w x) (c + k)) i (N (c + (k + 1)))) Q E s := by
        unfold searchRest
        rw [T.ent hq]
        dsimp only
        refine wpAny_bind (wpAny_holding (wpAny_eqBool_tuple hu (T.on q qm) hx ?_))
        refine wpAny_bind (wpAny_setState_of g dt T.fit ?_)
        dsimp only
        by_cases eq : q.2 = x.2
        · exact wp_if_pos (by simp [eq]) (wpAny_pure (q1 (List.mem_map.mpr ⟨q, qm, eq⟩)))
        · refine wp_if_neg (by simp [eq]) ?_
          try refine wpAny_bind (wpAny_pure ?_)
          rw [sameMem]
          dsimp only
          simp only [if_true, live, T.ent hq]
          refine wpAny_bind (wpAny_isSame_ref_self (wpAny_bind (wpAny_pure ?_)))
          simp only [if_true]
          refine wp_if_neg (by simp [eq]) (seek T hx hu lim free full q1 q2 f (c + (k + 1)) (some (N (c + (k + 1)))) (by rw [hN]; rfl) (by omega) (by omega) fun i0 p0 h0 e0 => ?_)
          obtain ⟨d, d1, d2, d3⟩ := ahead i0 p0 h0 e0
          have far : ¬ d < c + k := fun lt => fresh (d - c) i0 (by omega) (by rw [hopj, show c + (d - c) = d by omega]; exact d3) (by
            rw [hashes i0 p0 h0]
            exact congrArg (tupleKeyHash (mixKind P w)) e0)
          have off : d ≠ c + k := fun e => by
            rw [e] at d3
            have lv := slot_live T.tab.ris d3
            rw [live] at lv
            injection lv with lv
            rw [← lv, hq] at h0
            exact eq ((congrArg Prod.snd (Option.some.inj h0)).trans e0)
          exact ⟨d, by omega, d2, d3⟩
      by_cases ld : t.led = true
      · refine wp_if_neg (by simp [ld]) ?_
        try refine wpAny_bind (wpAny_pure ?_)
        exact tail
      · refine wp_if_pos (by simp [ld]) (wpAny_bind (on_unseen hx (fun y hy => ?_) ?_))
        · obtain ⟨e, he, rfl⟩ := List.mem_map.mp hy
          have hm : e ∈ es.toList := by
            have z : e ∈ es ∧ e.1 = kh P w x := by simpa using he
            simpa using z.1
          rw [T.cells] at hm
          obtain ⟨p, hp, rfl⟩ := List.mem_map.mp hm
          exact ⟨p, rfl, T.on p hp⟩
        · refine wp_if_neg (by decide) ?_
          try refine wpAny_bind (wpAny_pure ?_)
          exact tail
    · have pr2 : t.probe (fun i => (es[i]?.map (·.1)).getD 0) (kh P w x) (st.getD (t.probeStart (kh P w x))) = some (.empty (way t.mask (kh P w x) K) none) := by
        rw [at_, N0, show way t.mask (kh P w x) K = (nth t.mask (N c) (K - c)).j by rw [hopj, back]]
        exact pr
      rw [pr2]
      dsimp only
      refine wpAny_pure (q2 fun hm => ?_)
      obtain ⟨p0, m0, e0⟩ := List.mem_map.mp hm
      obtain ⟨i0, l0, rfl⟩ := List.getElem_of_mem m0
      have h0 : L[i0]? = some L[i0] := List.getElem?_eq_getElem l0
      obtain ⟨d, d1, d2, d3⟩ := ahead i0 _ h0 e0
      exact fresh (d - c) i0 (by omega) (by rw [hopj, show c + (d - c) = d by omega]; exact d3) (by
        rw [hashes i0 _ h0]
        exact congrArg (tupleKeyHash (mixKind P w)) e0)

/-- the search that adding asks for -/
theorem seek_add (T : Tb P w s.heap a L es ep t) {x : El} (hx : On P w s.heap x) (hu : A.units < cLine) {Q : SetFound → Shared → Prop} (q1 : x.2 ∈ L.map (·.2) → Q (.there none) s)
    (q2 : ∀ K, x.2 ∉ L.map (·.2) → way t.mask (kh P w x) K ∉ t.place.toList → (∀ c, c < K → way t.mask (kh P w x) c ∈ t.place.toList) → Q (.free (way t.mask (kh P w x) K) false) s) :
    wpAny (model P w) A (setSearch a (.ref x.1) (kh P w x) true) Q E s := by
  have rm := T.room
  obtain ⟨K, lim, free, full⟩ := T.tab.first (by rw [List.length_map]; omega) (kh P w x)
  have small : K < 100000 := by
    refine Nat.lt_trans lim ?_
    unfold SetTable.turns
    rcases T.tab.mok with e | e | e <;> omega
  unfold setSearch
  refine seek T hx hu lim free full q1 (fun n => q2 K n free full) 100000 0 none rfl (Nat.zero_le _) (by omega) fun i q hq eq => ?_
  have hh : (L.map (kh P w))[i]? = some (kh P w x) := by
    rw [List.getElem?_map, hq]
    exact congrArg some (congrArg (tupleKeyHash (mixKind P w)) eq)
  have il : i < t.place.toList.length := by
    have h1 := (List.getElem?_eq_some_iff.mp hq).1
    have h2 := T.place
    rw [Array.length_toList]
    omega
  have hj := List.getElem?_eq_getElem il
  obtain ⟨d, hd, e⟩ := T.tab.before free hh hj
  exact ⟨d, Nat.zero_le _, hd, by rw [hj, e]⟩

/-! ### adding -/
theorem on_past {h h' : Heap} {q : El} {o : Obj} (hq : On P w h q) (g : h.get? a = some o) (dt : o.data = .set es ep t) (sb : Heap.SameBut a h h') : On P w h' q := by
  obtain ⟨u, its, n, g2, c2, d2, r2⟩ := hq
  refine ⟨u, its, n, (sb.2 q.1 fun e => ?_).trans g2, c2, d2, r2⟩
  rw [e, g] at g2
  cases g2
  rw [dt] at d2
  cases d2
theorem on_keep {h h' : Heap} {q : El} (hq : On P w h q) (k : ∀ c o, h.get? c = some o → h'.get? c = some o) : On P w h' q := by
  obtain ⟨o, its, n, g, r⟩ := hq
  exact ⟨o, its, n, k _ o g, r⟩
/-- the entries in another order -/
theorem shuffle (order : Array Nat) (hr : es.toList = L.map (cell P w)) (hp : order.toList.Perm (List.range L.length)) :
    ∃ M : List El, (order.filterMap (es[·]?)).toList = M.map (cell P w) ∧ M.Perm L ∧ M.map (kh P w) = order.toList.map fun i => (es.map (·.1)).getD i 0 := by
  have ent : ∀ (i : Nat) (q : El), L[i]? = some q → es[i]? = some (cell P w q) := fun i q h => by
    rw [← Array.getElem?_toList, hr, List.getElem?_map, h]
    rfl
  have all : ∀ l : List Nat, (∀ i ∈ l, i < L.length) → l.filterMap (fun i => es[i]?) = (l.filterMap fun i => L[i]?).map (cell P w) ∧ (l.filterMap fun i => L[i]?).map (kh P w) = l.map fun i => (es.map (·.1)).getD i 0 := by
    intro l
    induction l with
    | nil => exact fun _ => ⟨rfl, rfl⟩
    | cons i l ih =>
      intro hl
      have il := hl i List.mem_cons_self
      have hi := List.getElem?_eq_getElem il
      obtain ⟨e1, e2⟩ := ih fun j hj => hl j (List.mem_cons_of_mem _ hj)
      have h1 : (es.map (·.1)).getD i 0 = kh P w L[i] := by
        have h2 : (es.map (·.1))[i]? = some (kh P w L[i]) := by
          rw [Array.getElem?_map, ent i _ hi]
          rfl
        simp [Array.getD_eq_getD_getElem?, h2]
      rw [List.filterMap_cons_some (ent i _ hi), List.filterMap_cons_some hi, List.map_cons, List.map_cons, List.map_cons, e1, e2, h1]
      exact ⟨rfl, rfl⟩
  obtain ⟨e1, e2⟩ := all order.toList fun i hi => List.mem_range.mp (hp.mem_iff.mp hi)
  refine ⟨order.toList.filterMap fun i => L[i]?, by rw [Array.toList_filterMap]; exact e1, ?_, e2⟩
  have whole : ∀ n, n ≤ L.length → (List.range n).filterMap (fun i => L[i]?) = L.take n := by
    intro n
    induction n with
    | zero => exact fun _ => rfl
    | succ n ih =>
      intro lt
      have hn : L[n]? = some L[n] := List.getElem?_eq_getElem lt
      rw [List.range_succ, List.filterMap_append, ih (Nat.le_of_lt lt), List.take_succ, hn, List.filterMap_cons_some hn]
      rfl
  have pm := hp.filterMap (fun i => L[i]?)
  rw [whole _ (Nat.le_refl _), List.take_length] at pm
  exact pm
/-- the table laid out anew -/
theorem relay {o : Obj} (g : s.heap.get? a = some o) (ex : o.ExactSet) (dt : o.data = .set es ep t) (hr : es.toList = L.map (cell P w)) (ps : t.place.size = es.size) (dm : t.dummies = #[]) (le : es.size ≤ t.mask)
    (nd : (L.map (·.2)).Nodup) (on : ∀ q ∈ L, On P w s.heap q) (ld : w.params.followText "set-order" = true ∨ t.led = true) (few : L.length < 64) {wanted M : Nat}
    (hw : SetTable.sizeAbove wanted - 1 = M) (hM : MaskOk M) (top : SetTable.sizeAbove wanted ≤ 128) (rm : L.length * 5 < M * 3) {Q : Unit → Shared → Prop}
    (q : ∀ h' L' es' ep' t', Heap.SameBut a s.heap h' → Tb P w h' a L' es' ep' t' → L'.Perm L → Q () { s with heap := h' }) : wpAny (model P w) A (setRelay a wanted) Q E s := by
  have z := cells_size hr
  obtain ⟨t2, order, e, pm, tb, em, el, _, _⟩ := relaid_ok t (hs := es.map (·.1)) (wanted := wanted) hw hM (by rw [Array.size_map]; omega)
  rw [Array.size_map, z] at pm
  obtain ⟨L2, r1, r2, r3⟩ := shuffle order hr pm
  rw [← r3] at tb
  have z2 : (order.filterMap (es[·]?)).size = es.size := by rw [cells_size r1, r2.length_eq, z]
  rw [setRelay_eq]
  refine wpAny_bind (wpAny_setState_of g dt (fit_of ps dm le) ?_)
  dsimp only
  refine wp_if_neg (by rw [sizeLine_eq]; omega) ?_
  try refine wpAny_bind (wpAny_pure ?_)
  rw [e]
  dsimp only
  refine wpAny_bind (wp_if_neg (by rw [z2]; simp) ?_)
  try refine wpAny_bind (wpAny_pure ?_)
  refine wpAny_pure ?_
  dsimp only
  refine wpAny_storeSet_of g dt ?_ (by rw [z2, z, sizeLine_eq]; omega)
  have sb : Heap.SameBut a s.heap (s.heap.update a (Obj.putSet (order.filterMap (es[·]?)) t2)) := Heap.SameBut.update ..
  refine q _ L2 (order.filterMap (es[·]?)) (ep + 1) t2 sb ⟨⟨_, store_at g dt, ⟨ex.1, ex.2.1, ex.2.2⟩, rfl⟩, r1, tb, (r2.map (·.2)).nodup_iff.mpr nd, fun p hp => on_past (on p (r2.mem_iff.mp hp)) g dt sb, by rw [el]; exact ld, ?_, ?_⟩ r2
  · rw [r2.length_eq, em]
    exact rm
  · rw [r2.length_eq]
    exact few
theorem add (T : Tb P w s.heap a L es ep t) {x : El} (hx : On P w s.heap x) (hu : A.units < cLine) (few : L.length + 1 < 64) {Q : Bool → Shared → Prop}
    (q : ∀ b h' L' es' ep' t', Heap.SameBut a s.heap h' → Tb P w h' a L' es' ep' t' → ((x.2 ∈ L.map (·.2) ∧ L' = L) ∨ (x.2 ∉ L.map (·.2) ∧ L'.Perm (x :: L))) → Q b { s with heap := h' }) :
    wpAny (model P w) A (setAddHashed a (.ref x.1) (kh P w x)) Q E s := by
  obtain ⟨o, g, ex, dt⟩ := T.obj
  have z := cells_size T.cells
  have rm := T.room
  unfold setAddHashed
  refine wpAny_holding ?_
  rw [show (100000 : Nat) = 99999 + 1 from rfl, setAddHashedIn_succ]
  refine wpAny_bind (wpAny_setState_of g dt T.fit ?_)
  dsimp only
  refine wp_if_neg (by simp [byScan, Value.scannable]) ?_
  try refine wpAny_bind (wpAny_pure ?_)
  refine wpAny_bind (seek_add T hx hu (fun hm => wpAny_pure (q false s.heap L es ep t (Heap.SameBut.refl a s.heap) T (.inl ⟨hm, rfl⟩))) fun K hm free full => ?_)
  dsimp only
  refine wpAny_bind (wpAny_setState_of g dt T.fit ?_)
  dsimp only
  obtain ⟨u1, u2, u3, u4, u5, u6, _, _, u9⟩ := T.tab.put free full
  generalize e1 : t.put (way t.mask (kh P w x) K) = tp at u1 u3 u4 u5 u9 ⊢
  obtain ⟨t1, p⟩ := tp
  dsimp only at u1 u3 u4 u5 u9 ⊢
  subst u1
  have hin : (SetTable.insertAt es (SetTable.below t.place (way t.mask (kh P w x) K)) (cell P w x)).toList = (L.take (SetTable.below t.place (way t.mask (kh P w x) K)) ++ x :: L.drop (SetTable.below t.place (way t.mask (kh P w x) K))).map (cell P w) := by
    rw [SetTable.toList_insertAt, T.cells, List.map_append, List.map_cons, List.map_take, List.map_drop]
  generalize SetTable.below t.place (way t.mask (kh P w x) K) = p at u2 u3 hin ⊢
  have hhs : (L.map (kh P w)).take p ++ kh P w x :: (L.map (kh P w)).drop p = (L.take p ++ x :: L.drop p).map (kh P w) := by
    rw [List.map_append, List.map_cons, List.map_take, List.map_drop]
  rw [hhs] at u3
  have pm : (L.take p ++ x :: L.drop p).Perm (x :: L) := by
    have h := List.perm_middle (a := x) (l₁ := L.take p) (l₂ := L.drop p)
    rwa [List.take_append_drop] at h
  generalize L.take p ++ x :: L.drop p = L1 at pm u3 hin
  have len : L1.length = L.length + 1 := pm.length_eq
  have same : SetTable.insertAt es p (kh P w x, Value.ref x.1) = SetTable.insertAt es p (cell P w x) := rfl
  rw [same]
  generalize SetTable.insertAt es p (cell P w x) = es1 at hin ⊢
  have z1 : es1.size = L.length + 1 := (cells_size hin).trans len
  have core : ∀ t2 : SetTable, TabOk t2 (L1.map (kh P w)) → t2.mask = t.mask → t2.led = t.led → t2.fill = (L.map (kh P w)).length + 1 →
      wpAny (model P w) A (storeSet a es1 t2 >>= fun _ => if (!false && t2.tooFull) = true then (do setRelay a (SetTable.grown (es.size + 1)); pure true) else pure true) Q E s := by
    intro t2 u3 u4 u5 u9
    have nd1 : (L1.map (·.2)).Nodup := (pm.map (·.2)).nodup_iff.mpr (List.nodup_cons.mpr ⟨hm, T.nd⟩)
    refine wpAny_bind (wpAny_storeSet_of g dt ?_ (by rw [z1, sizeLine_eq]; omega))
    have sb : Heap.SameBut a s.heap (s.heap.update a (Obj.putSet es1 t2)) := Heap.SameBut.update ..
    have g1 := store_at (es' := es1) (t' := t2) g dt
    generalize s.heap.update a (Obj.putSet es1 t2) = h1 at sb g1 ⊢
    have on1 : ∀ q ∈ L1, On P w h1 q := fun q hq => by
      rcases List.mem_cons.mp (pm.mem_iff.mp hq) with rfl | hq
      · exact on_past hx g dt sb
      · exact on_past (T.on q hq) g dt sb
    have ld1 : w.params.followText "set-order" = true ∨ t2.led = true := by rw [u5]; exact T.led
    by_cases hf : t2.tooFull = true
    · first
        | (refine wpAny_bind ?_; refine wp_if_pos (by simp [hf]) ?_)
        | (refine wp_if_pos (by simp [hf]) ?_; refine wpAny_bind ?_)
      have fl : (L.length + 1) * 5 ≥ t2.mask * 3 := by
        have h := hf
        simp only [SetTable.tooFull, decide_eq_true_eq, u9, List.length_map] at h
        exact h
      have two : (t.mask = 7 ∧ L.length = 4) ∨ (t.mask = 31 ∧ L.length = 18) := by
        rcases T.tab.mok with e | e | e <;> rw [u4, e] at fl <;> rw [e] at rm <;> omega
      have ps1 : t2.place.size = es1.size := by rw [u3.sz, List.length_map, len, z1]
      have go : ∀ M, SetTable.sizeAbove (SetTable.grown (L.length + 1)) - 1 = M → MaskOk M → SetTable.sizeAbove (SetTable.grown (L.length + 1)) ≤ 128 → (L.length + 1) * 5 < M * 3 →
          wpAny (model P w) A (setRelay a (SetTable.grown (L.length + 1))) (fun _ s' => wpAny (model P w) A (pure true) Q E s') E { s with heap := h1 } := fun M m1 m2 m3 m4 =>
        relay (s := { s with heap := h1 }) g1 ⟨ex.1, ex.2.1, ex.2.2⟩ rfl hin ps1 u3.dm (by rw [z1, u4]; rcases two with ⟨e, e2⟩ | ⟨e, e2⟩ <;> omega) nd1 on1 ld1 (by omega) m1 m2 m3 (by rw [len]; exact m4)
          fun h2 L2 es2 ep2 t2 sb2 T2 pm2 => wpAny_pure (q true h2 L2 es2 ep2 t2 (sb.trans sb2) T2 (.inr ⟨hm, pm2.trans pm⟩))
      rw [z]
      rcases two with ⟨_, e2⟩ | ⟨_, e2⟩
      · exact go 31 (by rw [e2, size_20]) (.inr (.inl rfl)) (by rw [e2, size_20]; decide) (by omega)
      · exact go 127 (by rw [e2, size_76]) (.inr (.inr rfl)) (by rw [e2, size_76]; decide) (by omega)
    · first
        | refine wp_if_neg (by simp [hf]) ?_
        | (refine wpAny_bind ?_; refine wp_if_neg (by simp [hf]) ?_; refine wpAny_pure ?_)
      refine wpAny_pure (q true h1 L1 es1 (ep + 1) t2 sb ⟨⟨_, g1, ⟨ex.1, ex.2.1, ex.2.2⟩, rfl⟩, hin, u3, nd1, on1, ld1, ?_, by omega⟩ (.inr ⟨hm, pm⟩))
      have h := hf
      simp only [SetTable.tooFull, decide_eq_true_eq, u9, List.length_map] at h
      rw [len]
      omega
  have turn : ∀ b : Bool, wpAny (model P w) A (storeSet a es1 (if b = true then t1 else { t1 with plain := false }) >>= fun _ => if (!false && (if b = true then t1 else { t1 with plain := false }).tooFull) = true then (do setRelay a (SetTable.grown (es.size + 1)); pure true) else pure true) Q E s := fun b => by
    cases b
    · exact core { t1 with plain := false } ⟨u3.ris, u3.dm, u3.sz, u3.mok, u3.bd, u3.reach⟩ u4 u5 u9
    · exact core t1 u3 u4 u5 u9
  by_cases pl : t1.plain = true
  · exact wp_if_pos pl (wpAny_bind (on_by hx turn))
  · exact wp_if_neg pl (wpAny_bind (wpAny_pure (turn true)))
end
end TSet

/-! Sets of tuples of texts and ints: set(xs), sorted of such a set. -/
namespace TSet
open PySem PyProof.Rows L2

/-- what a set has of the first i of the given elements -/
structure Has (ks : List El) (i : Nat) (L : List El) : Prop where
  sub : ∀ q ∈ L, q ∈ ks.take i
  all : ∀ q ∈ ks.take i, q.2 ∈ L.map (·.2)
  len : L.length ≤ i
theorem Has.none (ks : List El) : Has ks 0 [] := ⟨fun q h => (by cases h), fun q h => (by simp at h), Nat.le_refl _⟩
theorem Has.step {ks L L' : List El} {i : Nat} {x : El} (g : Has ks i L) (h : ks[i]? = some x) (c : (x.2 ∈ L.map (·.2) ∧ L' = L) ∨ (x.2 ∉ L.map (·.2) ∧ L'.Perm (x :: L))) : Has ks (i + 1) L' := by
  have tk : ks.take (i + 1) = ks.take i ++ [x] := by
    rw [List.take_succ, h]
    rfl
  rcases c with ⟨hm, rfl⟩ | ⟨_, pm⟩
  · refine ⟨fun q hq => ?_, fun q hq => ?_, Nat.le_succ_of_le g.len⟩
    · rw [tk]
      exact List.mem_append_left _ (g.sub q hq)
    · rw [tk, List.mem_append, List.mem_singleton] at hq
      rcases hq with hq | rfl
      · exact g.all q hq
      · exact hm
  · refine ⟨fun q hq => ?_, fun q hq => ?_, by rw [pm.length_eq]; exact Nat.succ_le_succ g.len⟩
    · rw [tk, List.mem_append, List.mem_singleton]
      rcases List.mem_cons.mp (pm.mem_iff.mp hq) with e | hq
      · exact .inr e
      · exact .inl (g.sub q hq)
    · rw [(pm.map (·.2)).mem_iff, List.map_cons, List.mem_cons]
      rw [tk, List.mem_append, List.mem_singleton] at hq
      rcases hq with hq | rfl
      · exact .inr (g.all q hq)
      · exact .inl rfl

section
variable {P : Program} {w : World} {A : Around} {E : Value → Shared → Prop} {s : Shared}
theorem Tb.keep {h h' : Heap} {a : Addr} {L : List El} {es : Array (Int × Value)} {ep : Nat} {t : SetTable} (T : Tb P w h a L es ep t) (k : ∀ o, h.get? a = some o → h'.get? a = some o) (on : ∀ q ∈ L, On P w h' q) : Tb P w h' a L es ep t := by
  obtain ⟨o, g, r⟩ := T.obj
  exact ⟨⟨o, k o g, r⟩, T.cells, T.tab, T.nd, on, T.led, T.room, T.few⟩
abbrev bare (w : World) : SetTable := .fresh 0 0 (!w.params.followText "set-order")
abbrev bareObj (w : World) : Obj := { cls := .type "set", dict := none, data := .set #[] 0 (bare w) }
theorem tb_new {h : Heap} {a : Addr} (g : h.get? a = some (bareObj w)) : Tb P w h a [] #[] 0 (bare w) := by
  refine ⟨⟨_, g, ⟨rfl, rfl, rfl⟩, rfl⟩, rfl, ⟨List.Pairwise.nil, rfl, rfl, .inl rfl, fun x hx => (by cases hx), fun i h j hi => (by simp at hi)⟩, List.nodup_nil, fun q hq => (by cases hq), ?_, (show 0 * 5 < 7 * 3 by decide), (show 0 < 64 by decide)⟩
  show _ ∨ (!w.params.followText "set-order") = true
  cases w.params.followText "set-order"
  · exact .inr rfl
  · exact .inl rfl

/-- the loop that puts the items in -/
theorem fill {I : Addr} {fp wr : List Addr} {G : Array GenState → Array GenState → Prop} {n : Nat} {Pv : Nat → Value → Prop} {St : Nat → Shared → Prop} {R : Result → Shared → Prop}
    (W : WalksS P w A.in1 I fp wr G n Pv St) (S : Addr) (apart : S ∉ fp) (ks : List El) (hn : n = ks.length) (few : ks.length < 64) (val : ∀ i v, Pv i v → ∃ q, ks[i]? = some q ∧ v = .ref q.1)
    (h0 : Heap) (on : ∀ q ∈ ks, On P w h0 q) (new : h0.get? S = none) (news : ∀ b ∈ wr, h0.get? b = none) (hu : A.in1.units < cLine) :
    ∀ (k i : Nat) (s : Shared), n - i = k → i ≤ n → St i s → (∀ b o, h0.get? b = some o → s.heap.get? b = some o) → (∃ L es ep t, Tb P w s.heap S L es ep t ∧ Has ks i L) →
      (∀ s' L es ep t, Moved (S :: wr) G s s' → Tb P w s'.heap S L es ep t → Has ks n L → (∀ b o, h0.get? b = some o → s'.heap.get? b = some o) → R (.ok (.ret .none)) s') →
      codeAny (model P w) A (.builtin "set.update.loop" ⟨[.ref S, .ref I], []⟩) R s := by
  have apart2 : S ∉ wr := fun h => apart (W.sub _ h)
  have wider : ∀ b ∈ wr, b ∈ S :: wr := fun b hb => List.mem_cons_of_mem _ hb
  have still : ∀ {s s' : Shared}, Moved wr G s s' → (∀ b o, h0.get? b = some o → s.heap.get? b = some o) → ∀ b o, h0.get? b = some o → s'.heap.get? b = some o := fun mv kp b o e =>
    mv.heap b o (fun hb => by rw [news b hb] at e; cases e) (kp b o e)
  intro k
  induction k with
  | zero =>
    intro i s hk hi st kp ⟨L, es, ep, t, T, g⟩ hR
    obtain rfl : i = n := by omega
    refine codeAny_builtin F.entry_set_update_loop ?_
    rw [Around.under_plainId F.plain_set_update_loop _]
    show wpAny _ A.in1 (pyNext (.ref I) >>= _) _ _ s
    refine wpAny_bind (W.done s _ _ st fun s' mv => wpAny_pure ?_)
    have kp' := still mv kp
    exact hR s' L es ep t (mv.mono wider) (T.keep (fun o e => mv.heap S o apart2 e) fun q hq => on_keep (on q (List.mem_of_mem_take (g.sub q hq))) kp') g kp'
  | succ k ih =>
    intro i s hk hi st kp ⟨L, es, ep, t, T, g⟩ hR
    have lt : i < n := by omega
    refine codeAny_builtin F.entry_set_update_loop ?_
    rw [Around.under_plainId F.plain_set_update_loop _]
    show wpAny _ A.in1 (pyNext (.ref I) >>= _) _ _ s
    refine wpAny_bind (W.item i s _ _ lt st fun v s' hv st' mv => ?_)
    obtain ⟨q, hq, rfl⟩ := val i v hv
    have kp' := still mv kp
    have hx : On P w s'.heap q := on_keep (on q (List.mem_of_getElem? hq)) kp'
    have T' : Tb P w s'.heap S L es ep t := T.keep (fun o e => mv.heap S o apart2 e) fun p hp => on_keep (on p (List.mem_of_mem_take (g.sub p hp))) kp'
    show wpAny _ A.in1 (holding [Value.ref q.1] (setAdd S (.ref q.1)) >>= _) _ _ s'
    refine wpAny_bind (wpAny_holding ?_)
    unfold setAdd
    refine wpAny_holding (wpAny_bind (wpAny_pyHash_tuple hu hx ?_))
    refine add (s := { s' with toks := s'.toks + (q.2.length + 1) }) T' hx hu (by have := g.len; omega) fun b h' L' es' ep' t' sb T2 cs => ?_
    have kp2 : ∀ b o, h0.get? b = some o → h'.get? b = some o := fun b o e => (sb.2 b (fun z => by rw [z, new] at e; cases e)).trans (kp' b o e)
    refine wpAny_pure ⟨plainId_quiet F.plain_set_update_loop _, ih (i + 1) _ (by omega) lt (W.frame _ s' _ _ st' (Nat.le_add_right _ _) fun b hb o e => ?_) kp2 ⟨L', es', ep', t', T2, g.step hq cs⟩ fun s3 L3 es3 ep3 t3 mv3 T3 g3 kp3 => ?_⟩
    · exact (sb.2 b fun z => apart (by rw [← z]; exact hb)).trans e
    · refine hR s3 L3 es3 ep3 t3 (Moved.trans W.gtrans ((mv.mono wider).then_heap (Nat.le_add_right _ _) fun b o hb e => ?_) mv3) T3 g3 kp3
      exact (sb.2 b fun z => hb (by rw [z]; exact List.mem_cons_self)).trans e

theorem beyond {h : Heap} {b : Addr} (le : h.objs.size ≤ b) : h.get? b = none := by
  cases q : h.get? b with
  | none => rfl
  | some o => exact absurd (Nat.lt_of_lt_of_le (Heap.lt_size q) le) (Nat.lt_irrefl _)
/-- set(xs) -/
theorem make {l : Addr} {items : Array Value} (ks : List El) {Q : Value → Shared → Prop} (hh : A.handled = none) (hl : s.heap.IsList l items) (its : items.toList = ks.map fun q => Value.ref q.1)
    (on : ∀ q ∈ ks, On P w s.heap q) (few : ks.length < 64) (hu : A.units + 3 < cLine)
    (q : ∀ (h' : Heap) (tk : Nat) L es ep t, Tb P w h' s.heap.objs.size L es ep t → Has ks ks.length L → (∀ b o, s.heap.get? b = some o → h'.get? b = some o) → Q (.ref s.heap.objs.size) { s with heap := h', toks := tk }) :
    wpAny (model P w) A (call (.type "set") [.ref l]) Q E s := by
  have zi : items.size = ks.length := by rw [← Array.length_toList, its, List.length_map]
  obtain ⟨c, tl, hmro⟩ := F.called_set.mro
  have m1 := F.called_set.made
  have m2 := F.called_set.sub
  have m3 := F.called_set.notType
  have m4 := F.called_set.canCreate
  have m5 := F.typeCall_set_1 (.ref l)
  refine wpAny_call (codeAny_of_tree ?_)
  show wpAny _ _ (callAny (.type "set") _) _ _ _
  refine wpAny_pure ⟨Code.quiet_builtin _ (by decide +kernel), codeAny_builtin F.entry_type_call ?_⟩
  rw [Around.under_plain (weight_type_call_type "set" [.ref l] []) rfl]
  repeat (any_goals (first | assumption | wp_step))

  refine codeAny_mono (code_set_led1 (.ref l) (E := E) (Q₁ := fun ob s1 => ob = .ref s.heap.objs.size ∧ s1 = { s with heap := s.heap.push (bareObj w) }) ⟨rfl, rfl⟩) fun r s1 hr => ?_
  cases r with
  | error e => exact hr
  | ok fl =>
    cases fl with
    | ret ob =>
      obtain ⟨rfl, rfl⟩ := hr
      have gS : (s.heap.push (bareObj w)).get? s.heap.objs.size = some (bareObj w) := Heap.get?_push_size _ rfl
      have tS : Shared.TypeIs { s with heap := s.heap.push (bareObj w) } (.ref s.heap.objs.size) "set" := ⟨_, gS, rfl⟩
      have i1 := F.called_set.init.lookup
      have i2 := F.called_set.init.bind (.ref s.heap.objs.size)
      repeat (any_goals (first | assumption | wp_step))

      refine codeAny_mono (codeAny_call_builtin (R := wants (fun r s2 => r = .none ∧ ∃ h' tk L es ep t, s2 = { s with heap := h', toks := tk } ∧ Tb P w h' s.heap.objs.size L es ep t ∧ Has ks ks.length L ∧
          (∀ b o, s.heap.get? b = some o → h'.get? b = some o)) E) F.called_set.init.plain F.entry_set_init (check_set_init_1 tS ?_)) fun r2 s2 hr2 => ?_
      · obtain ⟨⟨oc, od, odt, osl⟩, gl, cl, nl, dl⟩ := hl
        simp only at cl dl
        subst cl; subst dl
        have gl' := Heap.get?_push_of_some (bareObj w) gl
        have n1 := F.sub_list_set
        have n2 := F.sub_list_frozenset
        have n3 : (Value.type "list" == Value.type "dict") = false := by decide
        have L1 : (s.heap.push (bareObj w)).IsList l items := ⟨_, gl', rfl, nl, rfl⟩
        unfold Builtin.«set.__init__» noKeywords Builtin.Frozenset.updateFrom
        generalize hPI : pyIter = PI
        wp_walk
        subst hPI

        refine wpAny_pyIter_list L1 (wpAny_bind (wpAny_runValue ?_))
        have ltl : l < s.heap.objs.size := Heap.lt_size gl
        have hh3 : A.in1.in1.in1.handled = none := by simp [hh]
        have neI : l ≠ (s.heap.push (bareObj w)).objs.size := by
          rw [Heap.size_push]
          exact Nat.ne_of_lt (Nat.lt_succ_of_lt ltl)
        have val : ∀ (i : Nat) (v : Value), items[i]? = some v → ∃ p, ks[i]? = some p ∧ v = .ref p.1 := fun i v hv => by
          rw [← Array.getElem?_toList, its, List.getElem?_map] at hv
          cases hq : ks[i]? with
          | none => rw [hq] at hv; cases hv
          | some p =>
            rw [hq] at hv
            exact ⟨p, rfl, (Option.some.inj hv).symm⟩
        refine fill ((Walks.list hh3 _ l neI items).toS) s.heap.objs.size ?apart ks zi few val s.heap on (beyond (Nat.le_refl _)) (fun b hb => beyond (by
            rw [List.mem_singleton.mp hb, Heap.size_push]
            exact Nat.le_succ _)) hu (items.size - 0) 0 _ (by omega) (Nat.zero_le _)
          ⟨⟨_, Heap.get?_push_size _ rfl, rfl, rfl⟩, (L1.push _)⟩ (fun b o e => Heap.get?_push_of_some _ (Heap.get?_push_of_some _ e)) ⟨[], #[], 0, _, tb_new (Heap.get?_push_of_some _ gS), Has.none ks⟩ ?fin
        case apart =>
          rw [Heap.size_push]
          simp only [List.mem_cons, List.mem_singleton, List.not_mem_nil, or_false, not_or]
          exact ⟨Nat.ne_of_lt (Nat.lt_succ_self _), Nat.ne_of_gt ltl⟩
        case fin =>
          intro s' L es ep t mv T g kp
          obtain ⟨h2, g2, d2, tk2, os2⟩ := s'
          obtain rfl : g2 = s.gens := mv.gens
          obtain rfl : d2 = s.drawn := mv.drawn
          obtain rfl : os2 = s.os := mv.os
          show wpAny _ _ _ _ _ _
          rw [zi] at g
          refine wpAny_pure ?_
          show wpAny _ _ (ret Value.none) _ _ _
          exact wpAny_pure ⟨rfl, h2, tk2, L, es, ep, t, rfl, T, g, kp⟩

      · cases r2 with
        | error e => exact hr2
        | ok fl2 =>
          cases fl2 with
          | ret r =>
            obtain ⟨rfl, h', tk, L, es, ep, t, rfl, T, g, kp⟩ := hr2
            repeat (any_goals (first | assumption | wp_step))
            exact q _ _ _ _ _ _ T g kp
          | _ => exact hr2.elim
    | _ => exact hr.elim
end
end TSet

/-! Sets of tuples of texts and ints: sorted; the rules over values and over data. -/
namespace TSet
open PySem PyProof.Rows L2

/-- a key as the sort sees it -/
def it : Key → Int ⊕ List Nat
  | .inl i => .inl i
  | .inr x => .inr x.cps.toList
def rk (k : List Key) : List (Int ⊕ List Nat) := k.map it
def leq (a b : List Key) : Prop := (listOrd itemOrd).kle (rk a) (rk b)
/-- which places hold texts -/
def Shape (sh : Nat → Bool) : Nat → List Key → Prop
  | _, [] => True
  | i, .inl _ :: r => sh i = false ∧ Shape sh (i + 1) r
  | i, .inr _ :: r => sh i = true ∧ Shape sh (i + 1) r
section
variable {P : Program} {w : World} {A : Around} {E : Value → Shared → Prop} {s : Shared}
theorem shape_items {sh : Nat → Bool} {k : List Key} {vs : List Value} (h : ItemsAre (mixKind P w) k vs) : ∀ i, Shape sh i k → tupItems sh i vs = some (rk k) := by
  induction h with
  | nil => exact fun _ _ => rfl
  | @cons k0 v ks vs h1 _ ih =>
    intro i hs
    rcases keyIs_shape h1 with ⟨n, t, e1, e2⟩ | ⟨x, t, e1, e2⟩
    · subst e1; subst e2
      obtain ⟨h2, h3⟩ := hs
      rw [tupItems, if_neg (by rw [h2]; decide), ih _ h3]
      rfl
    · subst e1; subst e2
      obtain ⟨h2, h3⟩ := hs
      rw [tupItems, if_pos h2, ih _ h3]
      rfl
theorem on_key {h : Heap} {q : El} {sh : Nat → Bool} (hq : On P w h q) (hs : Shape sh 0 q.2) : G.tupKeyC h sh (.ref q.1) = some (rk q.2) := by
  obtain ⟨o, its, n, g, c, d, r⟩ := hq
  have e1 : G.isTupObj h (.ref q.1) = true := by
    simp only [G.isTupObj, g, c]
    rfl
  have e2 : tupKey h sh (.ref q.1) = tupItems sh 0 its.toList := by
    simp only [tupKey, g, d]
  rw [G.tupKeyC, if_pos e1, e2]
  exact shape_items r 0 hs
theorem on_tup {h : Heap} {q : El} {sh : Nat → Bool} (hq : On P w h q) (hs : Shape sh 0 q.2) (ne : q.2 ≠ []) : ∃ f, TupOf h sh (.ref q.1) f := by
  obtain ⟨a, k⟩ := q
  obtain ⟨o, its, n, g, c, d, r⟩ := hq
  cases k with
  | nil => exact absurd rfl ne
  | cons k0 ks =>
    generalize hz : its.toList = l at r
    cases r with
    | @cons _ v _ vs h1 _ =>
      have e0 : its[0]? = some v := by rw [← Array.getElem?_toList, hz]; rfl
      rcases keyIs_shape h1 with ⟨i, t, e1, e2⟩ | ⟨x, t, e1, e2⟩
      · subst e1; subst e2
        have h2 : sh 0 = false := hs.1
        exact ⟨_, a, o, its, n, rfl, g, c, d, e0, fun _ => ⟨_, _, rfl⟩, fun h => (by rw [h2] at h; cases h)⟩
      · subst e1; subst e2
        have h2 : sh 0 = true := hs.1
        exact ⟨_, a, o, its, n, rfl, g, c, d, e0, fun h => (by rw [h2] at h; cases h), fun _ => ⟨_, _, rfl⟩⟩
theorem on_tups {h : Heap} {sh : Nat → Bool} : ∀ {L : List El}, (∀ q ∈ L, On P w h q ∧ Shape sh 0 q.2 ∧ q.2 ≠ []) → ∃ fs, TupsOf h sh (L.map fun q => Value.ref q.1) fs
  | [], _ => ⟨[], .nil⟩
  | q :: L, all => by
    obtain ⟨h1, h2, h3⟩ := all q List.mem_cons_self
    obtain ⟨f, hf⟩ := on_tup h1 h2 h3
    obtain ⟨fs, hfs⟩ := on_tups (L := L) fun p hp => all p (List.mem_cons_of_mem _ hp)
    exact ⟨f :: fs, .cons hf hfs⟩
/-- values that are addresses of the elements -/
theorem refs_back {L : List El} : ∀ vs : List Value, (∀ v ∈ vs, ∃ q ∈ L, v = Value.ref q.1) → ∃ M : List El, vs = M.map (fun q => Value.ref q.1) ∧ ∀ q ∈ M, q ∈ L
  | [], _ => ⟨[], rfl, fun q hq => (by cases hq)⟩
  | v :: vs, hv => by
    obtain ⟨q, hq, rfl⟩ := hv v List.mem_cons_self
    obtain ⟨M, rfl, hs⟩ := refs_back vs fun u hu => hv u (List.mem_cons_of_mem _ hu)
    exact ⟨q :: M, rfl, fun r hr => (List.mem_cons.mp hr).elim (fun e => e ▸ hq) (hs r)⟩
theorem refs_perm {h : Heap} {L M : List El} (on : ∀ q ∈ L, On P w h q) (nd : (L.map (·.2)).Nodup) (sub : ∀ q ∈ M, q ∈ L) (pm : (M.map fun q => Value.ref q.1).Perm (L.map fun q => Value.ref q.1)) : M.Perm L := by
  have one : ∀ q ∈ L, ∀ r ∈ L, q.1 = r.1 → q = r := fun q hq r hr e => by
    have h1 := on q hq
    have h2 := on r hr
    have h3 : IsTupleKey (mixKind P w) h r.2 q.1 := by rw [e]; exact h2
    exact Prod.ext e (h1.inj h3)
  have nL : L.Nodup := nodup_of_map nd
  have nR : (L.map fun q => Value.ref q.1).Nodup := List.pairwise_map.mpr (List.Pairwise.imp_of_mem (fun {q r} hq hr ne e => by
    injection e with e
    exact ne (one q hq r hr e)) nL)
  refine (List.perm_ext_iff_of_nodup (nodup_of_map (pm.nodup_iff.mpr nR)) nL).mpr fun q => ⟨sub q, fun hq => ?_⟩
  obtain ⟨r, hr, e⟩ := List.mem_map.mp (pm.mem_iff.mpr (List.mem_map.mpr ⟨q, hq, rfl⟩))
  injection e with e
  rw [← one r (sub r hr) q hq e]
  exact hr
variable {a : Addr} {L : List El} {es : Array (Int × Value)} {ep : Nat} {t : SetTable}
/-- sorted(set) -/
theorem sort_set {Q : Value → Shared → Prop} (T : Tb P w s.heap a L es ep t) (hh : A.handled = none) {sh : Nat → Bool} (hs : ∀ q ∈ L, Shape sh 0 q.2 ∧ q.2 ≠ [])
    (hQ : ∀ s' p (out : Array Value) (c : Nat) (M : List El), (∀ b o, s.heap.get? b = some o → s'.heap.get? b = some o) → s'.gens = s.gens → s'.os = s.os → s.heap.objs.size ≤ p →
      s'.heap.get? p = some (seqObj "list" out c) → out.toList = M.map (fun q => Value.ref q.1) → M.Perm L → M.Pairwise (fun q r => leq q.2 r.2) → Q (.ref p) s') :
    wpAny (model P w) A (call (.builtin "sorted") [.ref a]) Q E s := by
  obtain ⟨o, g, ex, dt⟩ := T.obj
  have few := T.few
  have z := cells_size T.cells
  refine Calls.call_function_entry kind_sorted plain_sorted entry_sorted (args_sorted1 _) ?_
  unfold Builtin.«sorted»
  refine wpAny_bind (m := checkCount "sorted" 1 1 _) (wpAny_pure ?_)
  refine wpAny_bind (collect_set (A := A.in1) hh ⟨o, g, ex.1, dt⟩ T.fit (by unfold scanBound; omega) T.tab.ris T.led fun s1 vs kp up gs os pm => ?_)
  have pm1 : vs.Perm (L.map fun q => Value.ref q.1) := by
    rw [T.cells, List.map_map] at pm
    exact pm
  obtain ⟨M0, rfl, sub0⟩ := refs_back (L := L) vs fun v hv => by
    obtain ⟨q, hq, e⟩ := List.mem_map.mp (pm1.mem_iff.mp hv)
    exact ⟨q, hq, e.symm⟩
  have len : (M0.map fun q => Value.ref q.1).length < 64 := by
    rw [pm1.length_eq, List.length_map]
    exact few
  refine wpAny_bind (wpAny_newList ?_ (by rw [sizeLine_eq]; omega))
  obtain ⟨h2, eh2⟩ : ∃ h2, h2 = s1.heap.push (seqObj "list" (M0.map fun q => Value.ref q.1).toArray 0) := ⟨_, rfl⟩
  have gL : h2.get? s1.heap.objs.size = some (seqObj "list" (M0.map fun q => Value.ref q.1).toArray 0) := by
    rw [eh2]
    exact Heap.get?_push_size _ rfl
  have k2 : ∀ b u, s.heap.get? b = some u → h2.get? b = some u := fun b u e => by
    rw [eh2]
    exact Heap.get?_push_of_some _ (kp b u e)
  have on2 : ∀ q ∈ L, On P w h2 q := fun q hq => on_keep (T.on q hq) k2
  rw [← eh2]
  obtain ⟨fs, tf⟩ := on_tups (P := P) (w := w) (h := h2) (sh := sh) (L := M0) fun q hq => ⟨on2 q (sub0 q hq), hs q (sub0 q hq)⟩
  refine wpAny_bind (wpAny_holding (wpAny_call_entry (s := { s1 with heap := h2 }) slot_list_sort ⟨_, gL, rfl⟩ entry_list_sort (G.list_sort_tups (s := { s1 with heap := h2 }) (shape := sh) gL tf (fun v hv => ?_) (by rw [sizeLine_eq]; omega) fun st ap so _ => ⟨_, rfl, ?_⟩) (args_list_sort _)))
  · obtain ⟨q, hq, rfl⟩ := List.mem_map.mp hv
    exact ⟨_, on_key (on2 q (sub0 q hq)) (hs q (sub0 q hq)).1⟩
  have keyed : ∀ p ∈ (arrOf st).toList, p.1 = p.2 ∧ p.2 ∈ M0.map fun q => Value.ref q.1 := fun p hp => by
    have h1 : p ∈ (pairsOf (M0.map fun q => Value.ref q.1)).toList := (Array.perm_iff_toList_perm.mp ap).mem_iff.mp hp
    rw [pairsOf_toList] at h1
    obtain ⟨e, m⟩ := mem_zip_self h1
    exact ⟨e, e ▸ m⟩
  have pm3 : ((arrOf st).map (·.2)).toList.Perm (M0.map fun q => Value.ref q.1) := by
    have h1 := (Array.perm_iff_toList_perm.mp ap).map Prod.snd
    rw [pairsOf_toList, List.map_snd_zip (Nat.le_refl _)] at h1
    rw [Array.toList_map]
    exact h1
  obtain ⟨M, eM, sub⟩ := refs_back (L := L) ((arrOf st).map (·.2)).toList fun v hv => by
    obtain ⟨q, hq, e⟩ := List.mem_map.mp (pm1.mem_iff.mp (pm3.mem_iff.mp hv))
    exact ⟨q, hq, e.symm⟩
  have pmL : M.Perm L := refs_perm T.on T.nd sub (by rw [← eM]; exact pm3.trans pm1)
  obtain ⟨c, hc⟩ := sortedHeap_at (vs := M0.map fun q => Value.ref q.1) (out := (arrOf st).map (·.2)) gL
  have lenM : M.length = (arrOf st).size := by
    have h1 := congrArg List.length eM
    rw [List.length_map, Array.length_toList, Array.size_map] at h1
    exact h1.symm
  have key_at : ∀ (i : Nat) (q : El), M[i]? = some q → KK (G.tupKindC h2 sh) (arrOf st) i = rk q.2 := fun i q hq => by
    have h1 : ((arrOf st).map (·.2)).toList[i]? = some (Value.ref q.1) := by rw [eM, List.getElem?_map, hq]; rfl
    rw [Array.toList_map, List.getElem?_map, Array.getElem?_toList] at h1
    cases hp : (arrOf st)[i]? with
    | none => rw [hp] at h1; cases h1
    | some p =>
      rw [hp] at h1
      have h2' : p.2 = Value.ref q.1 := Option.some.inj h1
      have h3 : p.1 = Value.ref q.1 := (keyed p (by rw [← Array.mem_def]; exact Array.mem_of_getElem? hp)).1.trans h2'
      have hqL := sub q (List.mem_of_getElem? hq)
      unfold KK
      rw [hp]
      show ((G.tupKeyC h2 sh p.1).getD _) = _
      rw [h3, on_key (on2 q hqL) (hs q hqL).1]
      rfl
  have pw : M.Pairwise (fun q r => leq q.2 r.2) := by
    rw [List.pairwise_iff_getElem]
    intro i j hi hj lt
    have h1 := so i j (Nat.le_of_lt lt) (by rw [pairsOf_size, ← pm3.length_eq, Array.length_toList, Array.size_map]; omega)
    rw [key_at i _ (List.getElem?_eq_getElem hi), key_at j _ (List.getElem?_eq_getElem hj)] at h1
    exact h1
  refine wpAny_pure ⟨_, rfl, hQ _ s1.heap.objs.size _ c M (fun b u e => ?_) gs os up hc eM pmL pw⟩
  have lt : b < s1.heap.objs.size := Heap.lt_size (kp b u e)
  refine (sortedHeap_old (Nat.ne_of_lt lt) ?_).trans (k2 b u e)
  rw [eh2, size_push']
  exact Nat.lt_succ_of_lt lt
end

/-! ### the rules over values -/
structure Tb0 (P : Program) (w : World) (h : Heap) (a : Addr) (L : List El) : Prop where
  ex : ∃ (es : Array (Int × Value)) (ep : Nat) (t : SetTable), (∃ o, h.get? a = some o ∧ o.ExactSet ∧ o.data = .set es ep t) ∧ es.toList = L.map (cell P w) ∧ TabOk t (L.map (kh P w)) ∧ (L.map (·.2)).Nodup ∧
    (w.params.followText "set-order" = true ∨ t.led = true) ∧ L.length * 5 < t.mask * 3 ∧ L.length < 64
def SetO (P : Program) (w : World) (a : Addr) (L : List El) : HO := .ext fun h => Tb0 P w h a L
section
variable {P : Program} {w : World} {H : Hp} {h : Heap} {a : Addr} {L : List El} {X : Cx}
theorem setO_ok (R : Tb0 P w h a L) : ObjOk P w H h a (SetO P w a L) := by
  obtain ⟨es, ep, t, ⟨o, g, _⟩, _⟩ := R.ex
  refine ⟨R, ⟨o, g⟩, fun h1 h2 p k => ?_⟩
  obtain ⟨es', ep', t', ⟨o', g', r'⟩, q'⟩ := Tb0.ex p
  exact ⟨es', ep', t', ⟨o', k o' g', r'⟩, q'⟩
theorem inv_on {pins : List (Addr × Obj)} {σ : L2.St} {s : Shared} (I : Inv X pins σ H s) {q : El} (hq : SqT X.K H q.1 (q.2.map kV)) : On X.prog X.w s.heap q := by
  obtain ⟨its, r, ⟨o, g, hc, n, hd⟩, _⟩ := I.tuple hq
  exact ⟨o, its.toArray, n, g, hc, hd, by simpa using items_are r⟩
theorem addr_vals : ∀ (ks : List El), Vals (ks.map fun q => V.ref q.1) (ks.map fun q => Value.ref q.1)
  | [] => .nil
  | _ :: ks => .cons rfl (addr_vals ks)
theorem vals_addr : ∀ {ks : List El} {us : List Value}, Vals (ks.map fun q => V.ref q.1) us → us = ks.map fun q => Value.ref q.1
  | [], _, .nil => rfl
  | q :: ks, _, .cons r t => by
    cases r
    rw [vals_addr t]
    rfl
def rSet (K : PySem.W.Frag) (P : Program) (w : World) : List V → Hp → VK → Prop := fun xs H Q => ∃ (l : Addr) (ks : List El), xs = [V.ref l] ∧ SqL K H l (ks.map fun q => V.ref q.1) ∧ (∀ q ∈ ks, SqT K H q.1 (q.2.map kV)) ∧ ks.length < 64 ∧
  ∀ a L, H a = none → (∀ q ∈ L, q ∈ ks) → (∀ q ∈ ks, q.2 ∈ L.map (·.2)) → Q (.ref a) (upd H a (SetO P w a L))
theorem cr_set (hc : X.calm = true) (hu : X.A.units + 64 < cLine) : CallR X (.type "set") (rSet X.K X.prog X.w) := by
  intro pins s σ H xs us Q I r ⟨l, ks, e, hl, hk, few, q⟩
  subst e
  rw [Vals.ref1 r]
  obtain ⟨its, rv, pl, _⟩ := I.list hl
  refine make (P := X.prog) (w := X.w) ks (I.ok.hd hc) pl.isList (by simpa using vals_addr rv) (fun p hp => inv_on I (hk p hp)) few (by omega) fun h' tk L es ep t T g k => ?_
  have new : H s.heap.objs.size = none := I.hok.fresh (Nat.le_refl _)
  refine ⟨.ref s.heap.objs.size, upd H s.heap.objs.size (SetO X.prog X.w s.heap.objs.size L), I.laid (t' := tk) k (Nat.le_refl _) (setO_ok ⟨es, ep, t, T.obj, T.cells, T.tab, T.nd, T.led, T.room, T.few⟩), rfl, q _ L new (fun p hp => List.mem_of_mem_take (g.sub p hp)) fun p hp => g.all p (by rw [List.take_length]; exact hp)⟩
def rSorted (K : PySem.W.Frag) (P : Program) (w : World) : List V → Hp → VK → Prop := fun vs H Q => ∃ (a : Addr) (L : List El) (sh : Nat → Bool), vs = [V.ref a] ∧ H a = some (SetO P w a L) ∧ (∀ q ∈ L, SqT K H q.1 (q.2.map kV) ∧ Shape sh 0 q.2 ∧ q.2 ≠ []) ∧
  ∀ (M : List El) (p : Addr), M.Perm L → (M.map (·.2)).Nodup → M.Pairwise (fun q r => leq q.2 r.2) → H p = none → Q (.ref p) (upd H p (.lst (M.map fun q => V.ref q.1)))
theorem cr_sorted (hc : X.calm = true) : CallR X (.builtin "sorted") (rSorted X.K X.prog X.w) := by
  intro pins s σ H vs us Q I r ⟨a, L, sh, e, ha, hk, q⟩
  subst e
  rw [Vals.ref1 r]
  have R0 : Tb0 X.prog X.w s.heap a L := (I.hok a _ ha).1
  obtain ⟨es, ep, t, b1, b2, b3, b4, b5, b6, b7⟩ := R0.ex
  refine sort_set ⟨b1, b2, b3, b4, fun p hp => inv_on I (hk p hp).1, b5, b6, b7⟩ (I.ok.hd hc) (fun p hp => (hk p hp).2) fun s' p out c M k gs os up hg hout pm pw => ?_
  have new : H p = none := I.hok.fresh up
  have len : (M.map fun q => V.ref q.1).length ≤ sizeLine := by
    rw [List.length_map, pm.length_eq, sizeLine_eq]
    omega
  have J : Inv X pins σ (upd H p (.lst (M.map fun q => V.ref q.1))) { s with heap := s'.heap, gens := s'.gens, drawn := s'.drawn, toks := s'.toks } :=
    I.call (ch := []) (Un.laid k up new) (I.hok.laid k up ⟨len, out.toList, c, (by rw [hout]; exact addr_vals M), hg⟩) (by rw [gs]; exact I.bare) (fun _ z => nomatch z)
  have e : s' = { s with heap := s'.heap, gens := s'.gens, drawn := s'.drawn, toks := s'.toks } := by
    cases s'
    cases s
    cases os
    rfl
  rw [e]
  exact ⟨.ref p, _, J, rfl, q M p pm ((pm.map (·.2)).nodup_iff.mpr b4) pw new⟩
end
end TSet

namespace DL
open PySem PySem.Spec PyProof.Rows L2

def kD : Key → D
  | .inl i => .int i
  | .inr x => .str x
def tupK (k : List Key) : D := .tup (k.map kD)
theorem RpAll.keys {K : PySem.W.Frag} {z : Cz K} {H : Hp} : ∀ {vs : List V} {k : List Key}, RpAll K z H vs (k.map kD) → vs = k.map kV
  | [], [], _ => rfl
  | [], _ :: _, h => by cases h
  | _ :: _, [], h => by cases h
  | _ :: _, .inl i :: _, h => by
    cases h with
    | cons a b =>
      cases a
      rw [RpAll.keys b]
      rfl
  | _ :: _, .inr i :: _, h => by
    cases h with
    | cons a b =>
      cases a
      rw [RpAll.keys b]
      rfl
/-- the elements of a list of tuples -/
theorem RpAll.els {K : PySem.W.Frag} {z : Cz K} {H : Hp} : ∀ {vs : List V} {ks : List (List Key)}, RpAll K z H vs (ks.map tupK) → ∃ es : List TSet.El, vs = es.map (fun q => V.ref q.1) ∧ es.map (·.2) = ks ∧ ∀ q ∈ es, SqT K H q.1 (q.2.map kV) ∧ Rp K z H (.ref q.1) (tupK q.2)
  | [], [], _ => ⟨[], rfl, rfl, fun q h => (by cases h)⟩
  | [], _ :: _, h => by cases h
  | _ :: _, [], h => by cases h
  | _ :: _, k :: _, h => by
    cases h with
    | cons a b =>
      obtain ⟨es, rfl, rfl, h3⟩ := RpAll.els b
      have a' := a
      cases a with
      | @tup p us _ h1 h2 =>
        have e := h2.keys
        subst e
        exact ⟨(p, k) :: es, rfl, rfl, fun q hq => (List.mem_cons.mp hq).elim (fun e => by rw [e]; exact ⟨h1.sq, a'⟩) (h3 q)⟩
/-- sorted(set(xs)) -/
def dSset (f : DE) : DE := fun δ P E => f δ (fun d => ∃ (ks : List (List Key)) (sh : Nat → Bool), d = .lst (ks.map tupK) ∧ ks.length < 64 ∧ (∀ k ∈ ks, TSet.Shape sh 0 k ∧ k ≠ []) ∧
  ∀ ys : List (List Key), ys.Nodup → (∀ k, k ∈ ys ↔ k ∈ ks) → ys.Pairwise TSet.leq → P (.lst (ys.map tupK))) E
section
variable {X : Cx} {W : WX} {e : Expr} {f : DE} {p p2 pos pos2 : Pos}
theorem pd_sset (hc : X.calm = true) (hu : X.A.units + 64 < cLine) (hg1 : Gl X "sorted") (hm1 : X.mg "sorted" = none) (hg2 : Gl X "set") (hm2 : X.mg "set" = none) (he : PE X e (up X.K W f))
    (h1 : starEach [e] X.env = [(false, eval e X.env)] := by rfl) (h2 : starEach [.Call (.Name "set" p2) [e] [] pos2] X.env = [(false, eval (.Call (.Name "set" p2) [e] [] pos2) X.env)] := by rfl) :
    PE X (.Call (.Name "sorted" p) [.Call (.Name "set" p2) [e] [] pos2] [] pos) (up X.K W (dSset f)) := by
  have a1 := pe_callTy (p := p2) (pos := pos2) (TSet.cr_set hc hu) hg2 hm2 bb_set (pa_cons he pa_nil (by rw [h1]; rfl)) (by decide) (by decide) (by rw [h1]; rfl) (by rfl)
  have a2 := pe_callB (p := p) (pos := pos) (TSet.cr_sorted hc) hg1 hm1 bb_sorted (pa_cons a1 pa_nil (by rw [h2]; rfl)) (by decide) (by decide) (by rw [h2]; rfl) (by rfl)
  refine PE_imp a2 fun σ H Q ⟨z, δ, P, E, ok, sl, hf, kq, kx⟩ => ?_
  refine ⟨z, δ, _, E, ok, sl, hf, fun d v H1 ⟨ks, sh, hd, few, hs, hp⟩ e1 r1 => ?_, kx⟩
  subst hd
  cases r1 with
  | @lst l vs _ hl nl rl =>
    obtain ⟨es, rfl, rfl, he⟩ := rl.els
    refine ⟨l, es, rfl, SqL.of hl, fun q hq => (he q hq).1, by rwa [List.length_map] at few, fun a L new sub all => ?_⟩
    have ok1 := ok.ev e1
    have sq : ∀ q ∈ es, SqT X.K (upd H1 a (TSet.SetO X.prog X.w a L)) q.1 (q.2.map kV) := fun q hq => SqT.ext (he q hq).1 fun b u e => by
      rw [upd_ne (ne_of_none e new)]
      exact e
    refine ⟨a, L, sh, rfl, upd_same, fun q hq => ⟨sq q (sub q hq), hs q.2 (List.mem_map.mpr ⟨q, sub q hq, rfl⟩)⟩, fun M p pm nd pw newp => ?_⟩
    have eA : Ev z H1 (upd H1 a (TSet.SetO X.prog X.w a L)) := .new new
    have ok2 := ok1.ev eA
    have eB : Ev z H1 (upd (upd H1 a (TSet.SetO X.prog X.w a L)) p (.lst (M.map fun q => V.ref q.1))) := eA.trans (.new newp)
    refine kq _ _ _ (hp (M.map (·.2)) nd (fun k => ⟨fun hk => ?_, fun hk => ?_⟩) (List.pairwise_map.mpr pw)) (e1.trans eB) ?_
    · obtain ⟨q, hq, rfl⟩ := List.mem_map.mp hk
      exact List.mem_map.mpr ⟨q, sub q (pm.mem_iff.mp hq), rfl⟩
    · obtain ⟨q, hq, rfl⟩ := List.mem_map.mp hk
      exact (pm.map (·.2)).mem_iff.mpr (all q hq)
    · refine .lst upd_same (ok2.new newp) ?_
      rw [List.map_map]
      have : ∀ N : List TSet.El, (∀ q ∈ N, q ∈ es) → RpAll X.K z (upd (upd H1 a (TSet.SetO X.prog X.w a L)) p (.lst (M.map fun q => V.ref q.1))) (N.map fun q => V.ref q.1) (N.map (tupK ∘ (·.2))) := by
        intro N
        induction N with
        | nil => exact fun _ => .nil
        | cons q N ih => exact fun h => .cons ((he q (h q List.mem_cons_self)).2.evn eB) (ih fun r hr => h r (List.mem_cons_of_mem _ hr))
      exact this M fun q hq => sub q (pm.mem_iff.mp hq)
end
end DL

/-! The data layer, part 8: own lists made, appended to; the dice set. -/
namespace DL
open PySem PySem.Spec PyProof.Rows L2

def scal : D → Bool
  | .non | .bl _ | .int _ | .str _ => true
  | _ => false
section
variable {K : PySem.W.Frag} {z c c' : Cz K} {H H1 H' : Hp} {σ : L2.St} {δ : MS} {d : D} {v : V} {vs ws : List V} {ds es : List D} {a q : Addr} {i : Nat} {o : HO}
theorem Rp.scal (r : Rp K c H v d) (h : DL.scal d = true) : Rp K c' H v d := by
  cases r <;> first | exact .non | exact .bl _ | exact .int _ | exact .str _ | cases h
theorem tab_upd {P : Addr} {t : Str} {u : HO} (h : H a = some u) (h1 : ∀ ps, u ≠ .tbl ps) (h2 : ∀ f, u ≠ .ext f) (x : LamX.TabS H P t) : LamX.TabS (upd H a o) P t := by
  obtain ⟨ps, g1, g2, g3⟩ := x
  refine ⟨ps, by rw [upd_ne (fun e => by rw [e, h] at g1; exact h1 ps (Option.some.inj g1))]; exact g1, g2, fun pos cv hc => ?_⟩
  obtain ⟨b, e1, e2⟩ := g3 pos cv hc
  exact ⟨b, e1, by rw [upd_ne (fun e => by rw [e, h] at e2; exact h2 _ (Option.some.inj e2))]; exact e2⟩
theorem set_at {α : Type} {l : List (Option α)} {y : Option α} {j : Nat} {w : α} (h : (l.set i y)[j]? = some (some w)) : (j = i ∧ y = some w ∧ i < l.length) ∨ (i ≠ j ∧ l[j]? = some (some w)) := by
  by_cases e : i = j
  · subst e
    by_cases hl : i < l.length
    · rw [List.getElem?_set_self hl] at h
      exact .inl ⟨rfl, Option.some.inj h, hl⟩
    · rw [List.getElem?_eq_none (by simpa using hl)] at h
      cases h
  · rw [List.getElem?_set_ne e] at h
    exact .inr ⟨e, h⟩
/-- a new object is a name's own -/
theorem Sm.make {u : HO} {w0 : OD} (ni : ∀ C ks ds, w0 ≠ .i C ks ds) (s : Sm K z H1 σ δ) (ok : Ok z H1) (hq : H1 q = none) (i : Nat) (r : OwnH K (z.ex σ δ) (upd H1 q u) q w0) (rs : ∀ c : Cz K, (∀ a, There H1 a → ¬ (z.ex σ δ).n a → ¬ c.n a) → c.z = z.z → OwnH K c (upd H1 q u) q w0) : Sm K z (upd H1 q u) (σ.set i (some (.ref q))) (δ.set i (some (.own w0))) ∧ Eo z σ δ H1 (σ.set i (some (.ref q))) (δ.set i (some (.own w0))) (upd H1 q u) := by
  have sub : ∀ a, OwnA (σ.set i (some (.ref q))) (δ.set i (some (.own w0))) a → a = q ∨ OwnA σ δ a := fun a ⟨j, es, h1, h2⟩ => by
    rcases set_at h1 with ⟨rfl, e, hl⟩ | ⟨e, h⟩
    · rw [List.getElem?_set_self (by rw [s.len]; exact hl)] at h2
      cases h2
      exact .inl rfl
    · rw [List.getElem?_set_ne e] at h2
      exact .inr ⟨j, es, h, h2⟩
  have w : ∀ a, There H1 a → ¬ (z.n a ∨ OwnA σ δ a) → ¬ (z.n a ∨ OwnA (σ.set i (some (.ref q))) (δ.set i (some (.own w0))) a) := fun a ha n h => by
    rcases h with h | h
    · exact n (.inl h)
    · rcases sub a h with e | h
      · obtain ⟨o, e1, _⟩ := ha
        rw [e, hq] at e1
        cases e1
      · exact n (.inr h)
  have old : ∀ {a : Addr} {u' : HO}, H1 a = some u' → upd H1 q u a = some u' := fun {a u'} e => by
    rw [upd_ne (ne_of_none e hq)]
    exact e
  refine ⟨⟨by simp [s.len], fun j d h => ?_, fun j d h => ?_, fun j es h => ?_, fun j k es fs a h1 h2 h3 h4 => ?_⟩, (Ev.new hq).st, fun a h => ?_, fun a ⟨j, C, ks, ds', h1, h2⟩ => ?_⟩
  · rcases set_at h with ⟨_, e, _⟩ | ⟨e, h⟩
    · cases e
    · obtain ⟨v, a, b⟩ := s.dat j d h
      exact ⟨v, by rw [List.getElem?_set_ne e]; exact a, (b.re (z := z.ex σ δ) (y := z.ex (σ.set i (some (.ref q))) (δ.set i (some (.own w0)))) rfl w).evn (.new hq)⟩
  · rcases set_at h with ⟨_, e, _⟩ | ⟨e, h⟩
    · cases e
    · obtain ⟨v, a, b⟩ := s.tnt j d h
      exact ⟨v, by rw [List.getElem?_set_ne e]; exact a, b.evn (.new hq)⟩
  · rcases set_at h with ⟨rfl, e, hl⟩ | ⟨e, h⟩
    · cases e
      exact ⟨q, List.getElem?_set_self (by rw [s.len]; exact hl), rs _ w rfl, ok.new hq⟩
    · obtain ⟨a, h1, h2, h3⟩ := s.own j es h
      exact ⟨a, by rw [List.getElem?_set_ne e]; exact h1, (h2.re (c := z.ex σ δ) (c' := z.ex (σ.set i (some (.ref q))) (δ.set i (some (.own w0)))) rfl w).evn (.new hq) fun u' hu _ => old hu, h3⟩
  · have other : ∀ {j : Nat} {es : OD}, i ≠ j → δ[j]? = some (some (SD.own es)) → (σ.set i (some (V.ref q)))[j]? = some (some (V.ref a)) → a ≠ q := fun {j es} e h h' => by
      rw [List.getElem?_set_ne e] at h'
      obtain ⟨b, b1, b2, _⟩ := s.own j es h
      rw [h'] at b1
      cases b1
      obtain ⟨u', hu, _⟩ := b2.there
      exact ne_of_none hu hq
    rcases set_at h1 with ⟨rfl, _, hl⟩ | ⟨e, h1⟩
    · rcases set_at h2 with ⟨rfl, _, _⟩ | ⟨e2, h2⟩
      · rfl
      · rw [List.getElem?_set_self (by rw [s.len]; exact hl)] at h3
        cases h3
        exact absurd rfl (other e2 h2 h4)
    · rcases set_at h2 with ⟨rfl, _, hl⟩ | ⟨e2, h2⟩
      · rw [List.getElem?_set_self (by rw [s.len]; exact hl)] at h4
        cases h4
        exact absurd rfl (other (j := j) (es := es) e (by assumption) h3)
      · rw [List.getElem?_set_ne e] at h3
        rw [List.getElem?_set_ne e2] at h4
        exact s.inj j k es fs a h1 h2 h3 h4
  · rcases sub a h with e | h
    · exact .inr fun ⟨o, e1, _⟩ => by rw [e, hq] at e1; cases e1
    · exact .inl h
  · rcases set_at h1 with ⟨_, e, _⟩ | ⟨e, h⟩
    · cases e
      exact absurd rfl (ni C ks ds')
    · rw [List.getElem?_set_ne e] at h2
      exact ⟨j, C, ks, ds', h, h2⟩
theorem Sm.makeL (s : Sm K z H1 σ δ) (ok : Ok z H1) (r : RpAll K (z.ex σ δ) H1 vs ds) (hq : H1 q = none) (i : Nat) : Sm K z (upd H1 q (.lst vs)) (σ.set i (some (.ref q))) (δ.set i (some (.own (.l ds)))) ∧ Eo z σ δ H1 (σ.set i (some (.ref q))) (δ.set i (some (.own (.l ds)))) (upd H1 q (.lst vs)) :=
  s.make (fun _ _ _ w => by cases w) ok hq i (.l upd_same (r.evn (.new hq))) fun c w e => .l upd_same ((r.re (z := z.ex σ δ) (y := c) e w).evn (.new hq))
theorem drp_at {j : Nat} {w : SD} (h : (drp δ)[j]? = some (some w)) : δ[j]? = some (some w) ∧ ∀ d, w ≠ .tnt d := by
  unfold drp at h
  rw [List.getElem?_map] at h
  cases q : δ[j]? with
  | none => rw [q] at h; cases h
  | some x =>
    rw [q] at h
    cases x with
    | none => cases h
    | some y =>
      cases y with
      | dat e => cases h; exact ⟨rfl, fun d e => by cases e⟩
      | tnt e => cases h
      | own e => cases h; exact ⟨rfl, fun d e => by cases e⟩
/-- an own object is written -/
theorem Sm.write {u : HO} {w0 w1 : OD} (tu : ∀ ps, u ≠ .tbl ps) (ni : (∃ C ks ds, w1 = .i C ks ds) → ∃ C ks ds, w0 = .i C ks ds) (s : Sm K z H σ δ) (hi : δ[i]? = some (some (.own w0))) (ha : σ[i]? = some (some (.ref a))) (r : ∀ c : Cz K, (∀ a, ¬ (z.ex σ δ).n a → ¬ c.n a) → c.z = z.z → c.n a → OwnH K c (upd H a u) a w1) :
    Sm K z (upd H a u) σ (drp (δ.set i (some (.own w1)))) ∧ Eo z σ δ H σ (drp (δ.set i (some (.own w1)))) (upd H a u) := by
  obtain ⟨⟨u0, hl, t1, t2⟩, na⟩ := s.there ⟨i, w0, hi, ha⟩
  have oa : OwnA σ δ a := ⟨i, w0, hi, ha⟩
  have sub : ∀ b, OwnA σ (drp (δ.set i (some (.own w1)))) b → OwnA σ δ b := fun b ⟨j, fs, h1, h2⟩ => by
    obtain ⟨h1, _⟩ := drp_at h1
    rcases set_at h1 with ⟨rfl, e, _⟩ | ⟨e, h⟩
    · exact ⟨j, w0, hi, h2⟩
    · exact ⟨j, fs, h, h2⟩
  have nx : (z.ex σ δ).n a := .inr oa
  refine ⟨⟨by simp [drp, s.len], fun j d h => ?_, fun j d h => ?_, fun j fs h => ?_, fun j k fs gs b h1 h2 h3 h4 => ?_⟩, ⟨fun b u n w t e => ?_, fun b ⟨v, h, t⟩ => ?_, fun b n ⟨x, y, l, e⟩ => ?_, fun _ h p hp => tab_upd hl t1 t2 (h p hp)⟩, fun b h => .inl (sub b h), fun b ⟨j, C, ks, ds', h1, h2⟩ => ?_⟩
  · obtain ⟨h, _⟩ := drp_at h
    rcases set_at h with ⟨_, e, _⟩ | ⟨e, h⟩
    · cases e
    · obtain ⟨v, x, y⟩ := s.dat j d h
      exact ⟨v, x, ex_re sub (y.wr nx)⟩
  · exact absurd rfl ((drp_at h).2 d)
  · obtain ⟨h, _⟩ := drp_at h
    rcases set_at h with ⟨rfl, e, hl2⟩ | ⟨e, h⟩
    · cases e
      refine ⟨a, ha, r _ (fun b (n : ¬ (z.n b ∨ OwnA σ δ b)) (q : z.n b ∨ OwnA σ (drp (δ.set j (some (SD.own w1)))) b) => n (q.imp id (sub b))) rfl (.inr ?_), na⟩
      have hj : j < δ.length := hl2
      refine ⟨j, w1, ?_, ha⟩
      unfold drp
      rw [List.getElem?_map, List.getElem?_set_self hj]
      rfl
    · obtain ⟨b, h1, h2, h3⟩ := s.own j fs h
      have ne : b ≠ a := fun q => e (s.inj i j w0 fs a hi h ha (by rw [← q]; exact h1))
      exact ⟨b, h1, exo_re sub (h2.wr nx ne), h3⟩
  · obtain ⟨h1, _⟩ := drp_at h1
    obtain ⟨h2, _⟩ := drp_at h2
    have own1 : ∀ {j : Nat} {fs : OD}, (δ.set i (some (SD.own w1)))[j]? = some (some (SD.own fs)) → ∃ gs, δ[j]? = some (some (SD.own gs)) := fun {j fs} h => by
      rcases set_at h with ⟨rfl, _, _⟩ | ⟨_, h⟩
      · exact ⟨w0, hi⟩
      · exact ⟨fs, h⟩
    obtain ⟨f1, g1⟩ := own1 h1
    obtain ⟨f2, g2⟩ := own1 h2
    exact s.inj j k f1 f2 b g1 g2 h3 h4
  · have ne : b ≠ a := fun q => w (.inr (by rw [q]; exact oa))
    rw [upd_ne ne]
    exact e
  · by_cases e : b = a
    · exact ⟨u, by rw [e, upd_same], tu⟩
    · exact ⟨v, by rw [upd_ne e]; exact h, t⟩
  · have ne : b ≠ a := fun q => na (z.no a (by rw [← q]; exact n))
    exact ⟨x, y, l, by rw [upd_ne ne]; exact e⟩
  · obtain ⟨h1, _⟩ := drp_at h1
    rcases set_at h1 with ⟨rfl, e, _⟩ | ⟨e, h⟩
    · obtain ⟨C', ks', ds2, e2⟩ := ni ⟨C, ks, ds', by cases e; rfl⟩
      subst e2
      exact ⟨j, C', ks', ds2, hi, h2⟩
    · exact ⟨j, C, ks, ds', h, h2⟩
theorem Sm.writeL (s : Sm K z H σ δ) (hi : δ[i]? = some (some (.own (.l ds)))) (ha : σ[i]? = some (some (.ref a))) (r : RpAll K (z.ex σ δ) H ws es) :
    Sm K z (upd H a (.lst ws)) σ (drp (δ.set i (some (.own (.l es))))) ∧ Eo z σ δ H σ (drp (δ.set i (some (.own (.l es))))) (upd H a (.lst ws)) :=
  s.write (fun _ w => by cases w) (fun ⟨_, _, _, w⟩ => by cases w) hi ha fun c w e n => .l upd_same ((r.re (z := z.ex σ δ) (y := c) e fun a _ h => w a h).wr n)
end

/-! ### statements -/
/-- name = [..], the name's own -/
def dOwn (i : Nat) (g : DA) : DSt := fun δ e E => g (hid δ) (fun ds => ds.length ≤ sizeLine ∧ e.nx (δ.set i (some (.own (.l ds))))) (fun x => E x δ)
/-- name = list(e), the name's own -/
def dOwnL (i : Nat) (f : DE) : DSt := fun δ e E => f (hid δ) (fun d => ∃ xs, seqOf d = some xs ∧ e.nx (δ.set i (some (.own (.l xs))))) (fun x => E x δ)
/-- name.append(e) -/
def dApp (i : Nat) (f : DE) : DSt := fun δ e E => ∃ ds, δ[i]? = some (some (SD.own (.l ds))) ∧ ds.length < sizeLine ∧ f (hid δ) (fun d => e.nx (drp (δ.set i (some (.own (.l (ds ++ [d]))))))) (fun x => E x δ)
/-- .. e reads own lists, its value is a scalar -/
def dAppS (i : Nat) (f : DE) : DSt := fun δ e E => ∃ ds, δ[i]? = some (some (SD.own (.l ds))) ∧ ds.length < sizeLine ∧ f (shw δ) (fun d => scal d = true ∧ e.nx (drp (δ.set i (some (.own (.l (ds ++ [d]))))))) (fun x => E x δ)
/-- name.extend(e) -/
def dExt (i : Nat) (f : DE) : DSt := fun δ e E => ∃ ds, δ[i]? = some (some (SD.own (.l ds))) ∧ f (hid δ) (fun d => ∃ es, d = .lst es ∧ ds.length + es.length ≤ sizeLine ∧ e.nx (drp (δ.set i (some (.own (.l (ds ++ es))))))) (fun x => E x δ)
/-- dice[c] = e -/
def dDie (i : Nat) (j : Int) (f : DE) : DSt := fun δ e E => δ[i]? = some (some (SD.dat .die)) ∧ (j = 0 ∨ j = 1 ∨ j = 2) ∧ f (hid δ) (fun d => ∃ k, d = .int k ∧ e.nx δ) (fun x => E x δ)
section
variable {X : Cx} {W : WX} {i : Nat} {x : Str} {e : Expr} {es : List Expr} {g : DA} {f : DE} {pos pos' p2 cpos apos : Pos}
theorem pds_own (hN : X.N.Nodup) (hi : X.N[i]? = some x) (hx : Loc X.env.scope x) (ha : PA X es (upA X.K W g)) (hs : swapsWith (.List es p2) (some (.Name x pos')) pos.line X.env = pure false := by rfl) (hf : X.fn x = true ∨ X.env.scope.names.lookup x = some .local := by first | exact .inl rfl | exact .inr rfl | assumption) :
    PS X (.Assign [.Name x pos'] (.List es p2) pos) (upS X.K W (dOwn i g)) := by
  refine PS_imp (ps_set hN hi hx (pe_lst ha) hs hf) fun T σ H ⟨z, δ, e, E, ok, sm, hf, cn⟩ => ?_
  refine runA_hid ok sm cn hf fun ds vs H1 ⟨hz, p⟩ e1 ok1 sm1 cn1 r1 => ⟨by rw [r1.len]; exact hz, fun q hq => ?_⟩
  obtain ⟨s2, o2⟩ := sm1.makeL ok1 r1 hq i
  exact cn1.nx _ _ _ p o2 s2
theorem pds_ownL {fe : DE} {p3 : Pos} (hN : X.N.Nodup) (hi : X.N[i]? = some x) (hx : Loc X.env.scope x) (hg : Gl X "list") (hm : X.mg "list" = none) (ha : PE X e (up X.K W fe)) (hst : starEach [e] X.env = [(false, eval e X.env)] := by rfl) (hs : swapsWith (.Call (.Name "list" p3) [e] [] p2) (some (.Name x pos')) pos.line X.env = pure false := by rfl) (hf : X.fn x = true ∨ X.env.scope.names.lookup x = some .local := by first | exact .inl rfl | exact .inr rfl | assumption) :
    PS X (.Assign [.Name x pos'] (.Call (.Name "list" p3) [e] [] p2) pos) (upS X.K W (dOwnL i fe)) := by
  have a1 := pe_callTy (p := p3) (pos := p2) call_list_of hg hm bb_list (pa_cons ha pa_nil (by rw [hst]; rfl)) (by decide) (by decide) (by rw [hst]; rfl) (by rfl)
  refine PS_imp (ps_set hN hi hx a1 hs hf) fun T σ H ⟨z, δ, e, E, ok, sm, hf, cn⟩ => ?_
  refine run_hid ok sm cn hf fun d v H1 ⟨xs, hd, p⟩ e1 ok1 sm1 cn1 r1 => ?_
  obtain ⟨a, vs, rfl, hs2, ra⟩ := r1.seq hd
  refine ⟨a, vs, rfl, hs2, fun q hq => ?_⟩
  obtain ⟨s2, o2⟩ := sm1.makeL ok1 ra hq i
  exact cn1.nx _ _ _ p o2 s2
theorem pds_app (ho : PE X (.Name x p2) (tVar i)) (he : PE X e (up X.K W f)) (hs : starEach [e] X.env = [(false, eval e X.env)] := by rfl) (hsw : swapsWith (.Call (.Attribute (.Name x p2) "append" apos) [e] [] cpos) none pos.line X.env = pure false := by rfl) (hbase : attributeBase (.Name x p2) "append" X.env (eval (.Name x p2) X.env) = eval (.Name x p2) X.env := by rfl)
    (hfew : ((backTo cpos (starEach [e] X.env)).all (fun x => !x.1) && (backToKw cpos (keywordEach [] X.env)).all (fun x => x.1.isSome) && decide ([e].length + ([] : List Keyword).length + (if ([] : List Keyword).isEmpty then 0 else 1) < 30)) = true := by rfl) (hline : (apos.endLine == cpos.line) = true := by rfl) :
    PS X (.Expr (.Call (.Attribute (.Name x p2) "append" apos) [e] [] cpos) pos) (upS X.K W (dApp i f)) := by
  have a1 := ps_expr (pos := pos) (pe_bm PySem.F.plainAttrs_list PySem.F.slot_list_append PySem.F.type_list_append mt_append ho (pa_cons he pa_nil (by rw [hs]; rfl)) hbase hfew hline (by rw [hs]; rfl) (by rfl)) hsw
  refine PS_imp a1 fun T σ H ⟨z, δ, e, E, ok, sm, ⟨ds, hd, hz, hf⟩, cn⟩ => ?_
  obtain ⟨a, h1, hh, h4⟩ := sm.own i _ hd
  cases hh with
  | @l vs _ h2 h3 =>
  refine ⟨.ref a, h1, .inl ⟨rfl, vs, SqL.of h2⟩, ?_⟩
  refine run_hid ok sm cn hf fun d v H1 p e1 ok1 sm1 cn1 r1 => ?_
  obtain ⟨b, g1, gg, g4⟩ := sm1.own i _ hd
  rw [h1] at g1
  cases g1
  cases gg with
  | @l us _ g2 g3 =>
  obtain ⟨s2, o2⟩ := sm1.writeL hd h1 (g3.app (.one r1))
  exact ⟨a, us, v, rfl, rfl, g2, by rw [g3.len]; exact hz, cn1.nx _ _ _ p o2 s2⟩
theorem pds_appS (ho : PE X (.Name x p2) (tVar i)) (he : PE X e (up X.K W f)) (hs : starEach [e] X.env = [(false, eval e X.env)] := by rfl) (hsw : swapsWith (.Call (.Attribute (.Name x p2) "append" apos) [e] [] cpos) none pos.line X.env = pure false := by rfl) (hbase : attributeBase (.Name x p2) "append" X.env (eval (.Name x p2) X.env) = eval (.Name x p2) X.env := by rfl)
    (hfew : ((backTo cpos (starEach [e] X.env)).all (fun x => !x.1) && (backToKw cpos (keywordEach [] X.env)).all (fun x => x.1.isSome) && decide ([e].length + ([] : List Keyword).length + (if ([] : List Keyword).isEmpty then 0 else 1) < 30)) = true := by rfl) (hline : (apos.endLine == cpos.line) = true := by rfl) :
    PS X (.Expr (.Call (.Attribute (.Name x p2) "append" apos) [e] [] cpos) pos) (upS X.K W (dAppS i f)) := by
  have a1 := ps_expr (pos := pos) (pe_bm PySem.F.plainAttrs_list PySem.F.slot_list_append PySem.F.type_list_append mt_append ho (pa_cons he pa_nil (by rw [hs]; rfl)) hbase hfew hline (by rw [hs]; rfl) (by rfl)) hsw
  refine PS_imp a1 fun T σ H ⟨z, δ, e, E, ok, sm, ⟨ds, hd, hz, hf⟩, cn⟩ => ?_
  obtain ⟨a, h1, hh, h4⟩ := sm.own i _ hd
  cases hh with
  | @l vs _ h2 h3 =>
  refine ⟨.ref a, h1, .inl ⟨rfl, vs, SqL.of h2⟩, ?_⟩
  refine run_shw ok sm cn hf fun d v H1 ⟨hc, p⟩ e1 ok1 sm1 cn1 r1 => ?_
  obtain ⟨b, g1, gg, g4⟩ := sm1.own i _ hd
  rw [h1] at g1
  cases g1
  cases gg with
  | @l us _ g2 g3 =>
  obtain ⟨s2, o2⟩ := sm1.writeL hd h1 (g3.app (.one (r1.scal hc)))
  exact ⟨a, us, v, rfl, rfl, g2, by rw [g3.len]; exact hz, cn1.nx _ _ _ p o2 s2⟩
theorem pds_ext (ho : PE X (.Name x p2) (tVar i)) (he : PE X e (up X.K W f)) (hs : starEach [e] X.env = [(false, eval e X.env)] := by rfl) (hsw : swapsWith (.Call (.Attribute (.Name x p2) "extend" apos) [e] [] cpos) none pos.line X.env = pure false := by rfl) (hbase : attributeBase (.Name x p2) "extend" X.env (eval (.Name x p2) X.env) = eval (.Name x p2) X.env := by rfl)
    (hfew : ((backTo cpos (starEach [e] X.env)).all (fun x => !x.1) && (backToKw cpos (keywordEach [] X.env)).all (fun x => x.1.isSome) && decide ([e].length + ([] : List Keyword).length + (if ([] : List Keyword).isEmpty then 0 else 1) < 30)) = true := by rfl) (hline : (apos.endLine == cpos.line) = true := by rfl) :
    PS X (.Expr (.Call (.Attribute (.Name x p2) "extend" apos) [e] [] cpos) pos) (upS X.K W (dExt i f)) := by
  have a1 := ps_expr (pos := pos) (pe_bm PySem.F.plainAttrs_list PySem.F.slot_list_extend PySem.F.type_list_extend mt_extend ho (pa_cons he pa_nil (by rw [hs]; rfl)) hbase hfew hline (by rw [hs]; rfl) (by rfl)) hsw
  refine PS_imp a1 fun T σ H ⟨z, δ, e, E, ok, sm, ⟨ds, hd, hf⟩, cn⟩ => ?_
  obtain ⟨a, h1, hh, h4⟩ := sm.own i _ hd
  cases hh with
  | @l vs _ h2 h3 =>
  refine ⟨.ref a, h1, .inl ⟨rfl, vs, SqL.of h2⟩, ?_⟩
  refine run_hid ok sm cn hf fun d v H1 ⟨es, hes, hz, p⟩ e1 ok1 sm1 cn1 r1 => ?_
  subst hes
  obtain ⟨b, g1, gg, g4⟩ := sm1.own i _ hd
  rw [h1] at g1
  cases g1
  cases gg with
  | @l us _ g2 g3 =>
  cases r1 with
  | @lst l ws _ b1 b2 b3 =>
    obtain ⟨s2, o2⟩ := sm1.writeL hd h1 (g3.app b3)
    exact ⟨a, l, us, ws, rfl, rfl, g2, b1, by rw [g3.len, b3.len]; exact hz, cn1.nx _ _ _ p o2 s2⟩
theorem pds_die {j : Int} {kk : Nat} {kpos tpos : Pos} (ho : PE X (.Name x p2) (tVar i)) (he : PE X e (up X.K W f)) (ha : ∀ v, assign (.Subscript (.Name x p2) (.Constant (.int j) kk kpos) tpos) X.env v = (do
      let ov ← holding [v] (eval (.Name x p2) X.env)
      let iv ← holding [v, ov] (eval (.Constant (.int j) kk kpos) X.env)
      standAt tpos
      holding [v, ov, iv] (setItem ov iv v)
      release [v, ov, iv] []) := by intro _; rfl) (hs : swapsWithSole [.Subscript (.Name x p2) (.Constant (.int j) kk kpos) tpos] e pos.line X.env = pure false := by rfl) (hw : swappedStores [.Subscript (.Name x p2) (.Constant (.int j) kk kpos) tpos] e X.env = pure none := by rfl)
    (h1 : (assignEach [.Subscript (.Name x p2) (.Constant (.int j) kk kpos) tpos] X.env).map (·.2) = [assign (.Subscript (.Name x p2) (.Constant (.int j) kk kpos) tpos) X.env] := by rfl) :
    PS X (.Assign [.Subscript (.Name x p2) (.Constant (.int j) kk kpos) tpos] e pos) (upS X.K W (dDie i j f)) := by
  refine PS_imp (ps_asg he (pg_sub ho pe_int set_list ha) hs hw h1) fun T σ H ⟨z, δ, e, E, ok, sm, ⟨hd, hj, hf⟩, cn⟩ => ?_
  refine run_hid ok sm cn hf fun d v H1 ⟨k, hk, p⟩ e1 ok1 sm1 cn1 r1 => ?_
  subst hk
  cases r1
  obtain ⟨v0, hv0, r0⟩ := sm1.dat i _ hd
  cases r0 with
  | @die a hz =>
    obtain ⟨j0, j1, j2, hl⟩ := ok1.die a hz
    have fin : ∀ (n : Nat), n < 3 → ixN 3 j = some n → ∀ m0 m1 m2, [V.int j0, .int j1, .int j2].set n (.int k) = [V.int m0, .int m1, .int m2] → gSub (tVar i) (tC (.int j)) rSetL (.int k) σ H1 T.nx := fun n hn hx m0 m1 m2 hm => by
      refine ⟨.ref a, hv0, a, _, j, n, rfl, rfl, hl, hx, ?_⟩
      rw [hm]
      have zn := z.no a hz
      have ev : Ev z H1 (upd H1 a (.lst [V.int m0, .int m1, .int m2])) := ⟨fun b u n w t h => by rw [upd_ne (fun q => n (by rw [q]; exact hz))]; exact h, fun b ⟨u, h, t⟩ => by
        by_cases e : b = a
        · exact ⟨_, by rw [e, upd_same], fun _ w => (by cases w)⟩
        · exact ⟨u, by rw [upd_ne e]; exact h, t⟩, fun b n _ => by
          have e : b = a := Option.some.inj (n.symm.trans hz)
          exact ⟨m0, m1, m2, by rw [e, upd_same]⟩, fun _ h p hp => tab_upd hl (fun _ w => by cases w) (fun _ w => by cases w) (h p hp)⟩
      exact cn1.nx δ σ _ p (.of ev .refl) (sm1.ev ev)
    rcases hj with rfl | rfl | rfl
    · exact fin 0 (by decide) (by decide) k j1 j2 rfl
    · exact fin 1 (by decide) (by decide) j0 k j2 rfl
    · exact fin 2 (by decide) (by decide) j0 j1 k rfl
end
end DL

/-! The data layer, part 9: wide powers, texts repeated, dict displays, index and count, try. -/
namespace DL
open PySem PySem.Spec PyProof.Rows L2

/-! ### i ** j of greater bases; text * n -/
def CPowW (i j : Int) : Prop := 0 ≤ j ∧ (Builtin.Int.intBits i : Int) * j ≤ 2 ^ 27
theorem op_powW {X : Cx} : OpR X (binaryOp .Pow) (rI CPowW fun i j => .int (i ^ j.toNat)) := opI fun _ _ _ _ _ _ _ hc q => PyProof.Rows.pow_int hc.1 hc.2 q
def dPowW : D → D → PQ → Prop
  | .int i, .int j, P => CPowW i j ∧ P (.int (i ^ j.toNat))
  | _, _, _ => False
theorem opd_powW {K : PySem.W.Frag} : OpD K (rI CPowW fun i j => .int (i ^ j.toNat)) dPowW := by
  intro z H v u x y P Q ok r1 r2 h kq
  cases x with
  | int i =>
    cases y with
    | int j =>
      cases r1
      cases r2
      exact ⟨i, j, rfl, rfl, h.1, kq _ _ H h.2 .refl (.int _)⟩
    | _ => exact h.elim
  | _ => exact h.elim
def repS (x : Str) (n : Nat) : Str := ⟨(List.replicate n x.cps).foldl (· ++ ·) #[]⟩
def rMulS : R2 := fun x y H Q => ∃ (a : Str) (n : Int), x = .str a ∧ y = .int n ∧ 2 ≤ n ∧ n ≤ 1000000 ∧ 1 ≤ a.length ∧ a.length ≤ 16 ∧ Q (.str (repS a n.toNat)) H
theorem rep_size (c : Array Nat) : ∀ (n : Nat) (acc : Array Nat), ((List.replicate n c).foldl (· ++ ·) acc).size = acc.size + n * c.size
  | 0, acc => by simp
  | n + 1, acc => by
    rw [List.replicate_succ, List.foldl_cons, rep_size c n, Array.size_append, Nat.succ_mul]
    omega
theorem op_mulS {X : Cx} : OpR X (binaryOp .Mult) rMulS := by
  rintro pins s σ H x y v u Q I rx ry ⟨a, n, rfl, rfl, h1, h2, h3, h4, q⟩
  obtain ⟨t, rfl⟩ := rx
  obtain ⟨t', rfl⟩ := ry
  have e : a.length * n.toNat ≤ 16 * 1000000 := Nat.mul_le_mul h4 (by omega)
  refine PySem.P.mul_str (by rw [decide_eq_false (by omega), decide_eq_false (by omega)]; rfl) (fun _ _ => ?_) (fun _ _ => ?_) ?_
  · have e : (16 : Int) ≤ (2 ^ 63 - 1) / n := (Int.le_ediv_iff_mul_le (by omega)).mpr (by omega)
    omega
  · unfold PySem.Builtin.Str.tooLong
    rw [decide_eq_false]
    rw [sizeLine_eq]
    omega
  · rw [if_neg (by omega), if_neg (by
      rw [Bool.or_eq_true]
      rintro (e | e)
      · have := eq_of_beq e
        omega
      · have := eq_of_beq e
        omega)]
    refine ⟨?_, ⟨.str _, H, I.tok _, ⟨_, rfl⟩, q⟩⟩
    show ((List.replicate n.toNat a.cps).foldl (· ++ ·) #[]).size ≤ sizeLine
    rw [rep_size, sizeLine_eq]
    have e2 : n.toNat * a.cps.size ≤ 16 * 1000000 := by rw [Nat.mul_comm]; exact e
    simp
    omega
def dMulS : D → D → PQ → Prop
  | .str a, .int n, P => 2 ≤ n ∧ n ≤ 1000000 ∧ 1 ≤ a.length ∧ a.length ≤ 16 ∧ P (.str (repS a n.toNat))
  | _, _, _ => False
theorem opd_mulS {K : PySem.W.Frag} : OpD K rMulS dMulS := by
  intro z H v u x y P Q ok r1 r2 h kq
  cases x with
  | str i =>
    cases y with
    | int j =>
      cases r1
      cases r2
      exact ⟨i, j, rfl, rfl, h.1, h.2.1, h.2.2.1, h.2.2.2.1, kq _ _ H h.2.2.2.2 .refl (.str _)⟩
    | _ => exact h.elim
  | _ => exact h.elim

/-! ### {}, {"k": v} -/
def dD0 : DE := fun _ P _ => P (.dic [] [])
def dD1 (k : Str) (f : DE) : DE := fun δ P E => f δ (fun d => P (.dic [Sum.inr k] [d])) E
theorem Ev.updNewD {K : PySem.W.Frag} {z : Cz K} {H H' : Hp} {L : Addr} {o u0 : HO} (e : Ev z H H') (h : H L = none) (hl : H' L = some u0) (h1 : ∀ ps, u0 ≠ .tbl ps := by intro _ w; cases w) (h2 : ∀ f, u0 ≠ .ext f := by intro _ w; cases w) : Ev z H (upd H' L o) := by
  refine ⟨fun a u n w t q => ?_, fun a q => ?_, fun a n ⟨i, j, l, q⟩ => ?_, fun d t p hp => tab_upd hl h1 h2 (e.tab d t p hp)⟩
  · rw [upd_ne (ne_of_none q h)]
    exact e.keep a u n w t q
  · obtain ⟨u, hu, t⟩ := e.thr a q
    obtain ⟨u0, q0, _⟩ := q
    exact ⟨u, by rw [upd_ne (ne_of_none q0 h)]; exact hu, t⟩
  · obtain ⟨i', j', l', q'⟩ := e.die a n ⟨i, j, l, q⟩
    exact ⟨i', j', l', by rw [upd_ne (ne_of_none q h)]; exact q'⟩
section
variable {X : Cx} {W : WX} {pos p2 : Pos} {k : Str} {j : Nat} {e : Expr} {f : DE}
theorem pd_d0 : PE X (.Dict [] [] pos) (up X.K W dD0) := PE_imp pe_dnewK fun σ H Q ⟨z, δ, P, E, ok, sl, hf, kq, kx⟩ p hp => kq _ _ _ hf (.new hp) (.dic (ks := []) (vs := []) upd_same (ok.new hp) rfl .nil)
theorem pd_d1 (he : PE X e (up X.K W f)) : PE X (.Dict [some (.Constant (.str k) j p2)] [e] pos) (up X.K W (dD1 k f)) := by
  refine PE_imp (pe_disp (pps_cons pe_str he pps_nil) rfl rfl (by simp) (by simp)) fun σ H Q ⟨z, δ, P, E, ok, sl, hf, kq, kx⟩ p hp => ?_
  have np : ¬ z.n p := ok.new hp
  refine ⟨z.shut p, δ, _, E, (ok.upd (Cz.nz np) (.inl hp)).shut ⟨_, upd_same, fun _ w => (by cases w)⟩, (sl.re (z := z) (y := z.shut p) rfl (okc_shut hp).new).evn (.new hp), hf, fun d v H1 hd ev r => ?_, fun x c dd H' hx ev r => kx x c dd H' hx ((Ev.new hp).trans (ev_shut.mp ev)) (xr_re (z := z.shut p) (y := z) rfl (fun a _ n q => n (.inl q)) r)⟩
  have e1 : H1 p = some (.dK []) := ev.keep p _ (show z.z ≠ some p from Cz.nz np) (fun q => np (z.on p q)) (fun _ w => by cases w) upd_same
  refine ⟨e1, [(Sum.inr k, v)], rfl, by simp, ?_⟩
  have eA : Ev z H1 (upd H1 p (.dK [(Sum.inr k, v)])) → True := fun _ => True.intro
  have eB : Ev z H (upd H1 p (.dK (mergeK [] [(Sum.inr k, v)]))) := by
    have e2 := ev_shut.mp ev
    have e0 : Ev z H (upd H p (.dK [])) := .new hp
    have e3 := e0.trans e2
    exact e3.updNewD hp e1
  refine kq _ _ _ hd eB (.dic (ks := [Sum.inr k]) (vs := [v]) upd_same np rfl (.one ?_))
  have r2 : Rp X.K (z.shut p) (upd H1 p (.dK (mergeK [] [(Sum.inr k, v)]))) v d := Rp.wr (z := z.shut p) (Or.inr rfl) r
  exact r2.re (z := z.shut p) (y := z) rfl fun a _ n q => n (.inl q)
end

/-! ### x.index(v), x.count(v) of flat lists -/
def rCntF (K : PySem.W.Frag) : V → List V → Hp → VK → Prop := fun x xs H Q => ∃ (p : Addr) (ys : List V) (y : V), x = .ref p ∧ xs = [y] ∧ SqL K H p ys ∧ flatV y = true ∧ ys.all flatV = true ∧ Q (.int ((ys.countP fun z => eqV z y : Nat) : Int)) H
theorem count_vals {y : V} : ∀ {ys : List V} {its : List Value}, Vals ys its → ys.all flatV = true → its.countP (eqU y) = ys.countP fun z => eqV z y
  | [], _, .nil, _ => rfl
  | z :: ys, _, .cons r t, h => by
    simp only [List.all_cons, Bool.and_eq_true] at h
    rw [List.countP_cons, List.countP_cons, count_vals t h.2, eqU_of r h.1]
theorem mt_countF {X : Cx} : MtR X "list.count" (rCntF X.K) := by
  rintro pins s σ H x xs v us Q I rx rxs ⟨p, ys, y, rfl, rfl, hs, fy, fys, q⟩
  cases rx
  obtain ⟨u, rfl, ru⟩ := rxs.one
  obtain ⟨its, rv, ⟨⟨cls, dd, data, sl⟩, n, ho, hc, hdn, hd⟩, hlen⟩ := I.list hs
  simp only at hc hd
  subst hc hd
  refine call_meets PySem.F.slot_list_count ⟨_, ho, rfl⟩ PySem.F.entry_list_count (PySem.F.args_list_count_2 _ _)
    (SeqAt.list_countAt p its.toArray n dd sl u (eqU y)) ⟨ho, fun u' hu' => mem_eqAt ru fy rv fys u' (by simpa using hu'), ?_⟩
  refine ⟨.int ((ys.countP fun z => eqV z y : Nat) : Int), H, I.tok _, ⟨s.toks, ?_⟩, q⟩
  show Value.int ((its.toArray.toList.countP (eqU y) : Nat) : Int) s.toks = _
  rw [show its.toArray.toList.countP (eqU y) = ys.countP fun z => eqV z y from count_vals rv fys]
end DL

/-! The data layer, part 10: try; raise .. from None; methods index and count. -/
namespace DL
open PySem PySem.Spec PyProof.Rows L2

def XD.cls : XD → Addr
  | .own C => C
  | .fld C _ _ => C
theorem Xr.cls {K : PySem.W.Frag} {z : Cz K} {H : Hp} {c : Value} {dd : Option Addr} {x : XD} (r : Xr K z H c dd x) : c = .ref x.cls := by cases r <;> rfl
/-- try: .. except c: suite (which lets nothing out) -/
def dTry (K : PySem.W.Frag) (c : Value) (fb fs : DSt) : DSt := fun δ e E => fb δ e (fun x δ' => ∃ b, PySem.W.exmOne K (.ref x.cls) c = some b ∧ (b = true → fs δ' e (fun _ _ => False)) ∧ (b = false → E x δ'))
/-- .. the suite may raise -/
def dTryX (K : PySem.W.Frag) (c : Value) (fb fs : DSt) : DSt := fun δ e E => fb δ e (fun x δ' => ∃ b, PySem.W.exmOne K (.ref x.cls) c = some b ∧ (b = true → fs δ' e E) ∧ (b = false → E x δ'))
section
variable {X : Cx} {W : WX} {x : Str} {c : Value} {body suite : List Stmt} {b₀ : Stmt} {np pos pos' : Pos} {fb fs : DSt}
theorem pds_try (hs : X.stack = X.env :: X.outer) (hf : X.env.frame = some X.env.locals) (hc : Names X x c) (tk : L2.Takes X W)
    (hb : ∀ (W' : WX) (pn : List (Addr × Obj)) (xe : Value → Shared → Prop), L2.Takes (X.tr pn xe) W' → PassesOwn (model X.prog X.w) X.A X.env xe → PSs (X.tr pn xe) body (upS X.K W' fb))
    (hsu : ∀ (a : Addr) (oe : Obj) (cls : Value) (d : Option Addr) (pn : List (Addr × Obj)), Zc cls d oe → (∃ vs, oe.data = .fields vs) → PSs (X.suite a ((a, oe) :: pn)) (b₀ :: suite) (upS X.K W0 fs)) :
    PS X (.Try body [.ExceptHandler (some (.Name x np)) none (b₀ :: suite) pos'] [] [] pos) (upS X.K W (dTry X.K c fb fs)) := by
  refine PS_imp (ps_try_only (tb := fun W' => upS X.K W' fb) (ts := fun _ _ _ => upS X.K W0 fs) hs hf hc tk hb hsu) fun T σ H ⟨z, δ, e, E, ok, sm, hfb, cn⟩ => ?_
  refine ⟨z, δ, e, _, ok, sm, hfb, ⟨cn.nx, cn.rt, cn.bk, cn.ct, fun x δ' cl dd σ' H' ⟨b, hb, h1, h2⟩ o s r => ?_⟩⟩
  refine ⟨b, by rw [r.cls]; exact hb, fun hb a _ => ?_, fun hb => cn.xx x δ' cl dd σ' H' (h2 hb) o s r⟩
  have cm := cn.move o
  exact ⟨z, δ', e, fun _ _ => False, ok_st ok o.ev, s, h1 hb, ⟨cm.nx, cm.rt, cm.bk, cm.ct, fun _ _ _ _ _ _ q => q.elim⟩⟩
theorem pds_tryX (hs : X.stack = X.env :: X.outer) (hf : X.env.frame = some X.env.locals) (hc : Names X x c) (hpa : ∀ hd : Option Value, PassesOwnAt (model X.prog X.w) (X.A.mark hd) X.A X.env X.xe) (tk : L2.Takes X W)
    (hb : ∀ (W' : WX) (pn : List (Addr × Obj)) (xe : Value → Shared → Prop), L2N.Takes (X.tr pn xe) W' → PassesOwn (model X.prog X.w) X.A X.env xe → PSs (X.tr pn xe) body (upS X.K W' fb))
    (hsu : ∀ (a : Addr) (oe : Obj) (cls : Value) (d : Option Addr) (pn : List (Addr × Obj)), L2N.Zn cls d oe → (∃ vs, oe.data = .fields vs) → L2.Takes (L2H.suiteX X a ((a, oe) :: pn)) W → L2H.HotC (L2H.suiteX X a ((a, oe) :: pn)) → PSs (L2H.suiteX X a ((a, oe) :: pn)) (b₀ :: suite) (upS X.K W fs)) :
    PS X (.Try body [.ExceptHandler (some (.Name x np)) none (b₀ :: suite) pos'] [] [] pos) (upS X.K W (dTryX X.K c fb fs)) := by
  refine PS_imp (L2H.ps_try_onlyX (tb := fun W' => upS X.K W' fb) (ts := fun _ _ _ => upS X.K W fs) hs hf hc hpa tk (fun W' pn xe h1 _ h3 => hb W' pn xe h1 h3) hsu) fun T σ H ⟨z, δ, e, E, ok, sm, hfb, cn⟩ => ?_
  refine ⟨z, δ, e, _, ok, sm, hfb, ⟨cn.nx, cn.rt, cn.bk, cn.ct, fun x δ' cl dd σ' H' ⟨b, hb, h1, h2⟩ o s r => ?_⟩⟩
  refine ⟨b, by rw [r.cls]; exact hb, fun hb a _ => ?_, fun hb => cn.xx x δ' cl dd σ' H' (h2 hb) o s r⟩
  exact ⟨z, δ', e, E, ok_st ok o.ev, s, h1 hb, cn.move o⟩
theorem passAtN {CX : CXT} (tk : L2N.Takes X W) : ∀ σ, PassesAt (L2N.CX X.prog X.w) X σ (WE W σ) := fun σ => L2N.passAt tk σ
end

/-! ### raise C('m') from None in a suite -/
section
variable {X : Cx} {C : Addr} {bmB : List Value} {B newId initId : String}
theorem pmk5_lit {x m : Str} {j : Nat} {p p2 pos : Pos} (F : ExcBaseFacts B newId initId bmB) (q : PySem.W.excIn X.K C bmB newId = true) (gC : X.mg x = some (.ref C)) (kC : PySem.W.keepIn X.K (.ref C) = true) (r : Raises X (.ref C)) (hg : Gl X x)
    (hdb : (x == ("__debug__" : Str)) = false := by decide) : L2H.PMk5 X (.Call (.Name x p) [.Constant (.str m) j p2] [] pos) (fun _ H Q => Q (.ref C) none H) := by
  intro pins s σ H Q I h
  have ar : PA X [.Constant (.str m) j p2] (tCons (tC (.str m)) tNil) := pa_cons pe_str pa_nil
  refine wpAny_Call_Name_kw (ld_glob I hg gC ?_ hdb)
  refine PySem.W.callWith_K (h₀ := X.base) I.ok.mod.kin kC (thn (ar.run pos pins s σ H (fun vs H1 => vs = [V.str m] ∧ H1 = H) I ⟨rfl, rfl⟩) fun us s1 ⟨vs, H1, I1, r1, e1, e2⟩ => ⟨I1.kIn, ?_⟩)
  subst e1
  subst e2
  obtain ⟨u, rfl, ru⟩ := r1.one
  show wpAny _ _ (call (.ref C) [u]) _ _ _
  obtain ⟨bm, N, nm, qn, bs, hdct, sn, sub, ab, col, dd, k0, k1, k2, k3, k5, mN, hC, hN, hni, T⟩ := exc_obj I1.kIn q
  exact wpAny_call_exc_subT F T hC hN hni (fun h' e hm => L2H.mk_of5 I1 hm r h (I1.hok.gone hm.new)) (by show 1 ≤ sizeLine; rw [sizeLine_eq]; omega)
end

/-! ### index, count over data -/
def dIdxF (x y : D) (P : PQ) : Prop := ∃ (ys : List D) (v : V) (us : List V), x = .lst ys ∧ vOf y = some v ∧ ys.map vOf = us.map some ∧ flatV v = true ∧ us.all flatV = true ∧ ∃ (j : Nat) (u : V), us[j]? = some u ∧ eqV u v = true ∧ (∀ (m : Nat) (u' : V), m < j → us[m]? = some u' → eqV u' v = false) ∧ P (.int (j : Nat))
def dCntF (x y : D) (P : PQ) : Prop := ∃ (ys : List D) (v : V) (us : List V), x = .lst ys ∧ vOf y = some v ∧ ys.map vOf = us.map some ∧ flatV v = true ∧ us.all flatV = true ∧ P (.int ((us.countP fun z => eqV z v : Nat) : Int))
def dML (op : D → D → PQ → Prop) (fo fe : DE) : DE := fun δ P E => fo δ (fun x => isLstD x ∧ fe δ (fun y => op x y P) E) E
section
variable {X : Cx} {W : WX} {o e : Expr} {fo fe : DE} {apos cpos : Pos}
theorem pd_lindex (ho : PE X o (up X.K W fo)) (he : PE X e (up X.K W fe)) (hs : starEach [e] X.env = [(false, eval e X.env)] := by rfl) (hbase : attributeBase o "index" X.env (eval o X.env) = eval o X.env := by rfl)
    (hfew : ((backTo cpos (starEach [e] X.env)).all (fun x => !x.1) && (backToKw cpos (keywordEach [] X.env)).all (fun x => x.1.isSome) && decide ([e].length + ([] : List Keyword).length + (if ([] : List Keyword).isEmpty then 0 else 1) < 30)) = true := by rfl) (hline : (apos.endLine == cpos.line) = true := by rfl) :
    PE X (.Call (.Attribute o "index" apos) [e] [] cpos) (up X.K W (dML dIdxF fo fe)) := by
  refine PE_imp (pe_bm PySem.F.plainAttrs_list PySem.F.slot_list_index PySem.F.type_list_index mt_index ho (pa_cons he pa_nil (by rw [hs]; rfl)) hbase hfew hline (by rw [hs]; rfl) (by rfl)) fun σ H Q ⟨z, δ, P, E, ok, sl, hf, kq, kx⟩ => ?_
  refine ⟨z, δ, _, E, ok, sl, hf, fun d v H1 ⟨ty, p⟩ e1 r1 => ⟨ty_lstD ty r1, z, δ, _, E, ok.ev e1, sl.evn e1, p, fun y u H2 p2 e2 r2 => ?_, kx.ev e1⟩, kx⟩
  obtain ⟨ys, v', us, rfl, hy, hys, f1, f2, j, w, g1, g2, g3, hp⟩ := p2
  cases r2.v_of hy
  cases (r1.evn e2) with
  | lst a n q =>
    cases q.v_of hys
    exact ⟨_, us, _, j, w, rfl, rfl, SqL.of a, f1, f2, g1, g2, g3, kq _ _ H2 hp (e1.trans e2) (.int _)⟩
theorem pd_lcount (ho : PE X o (up X.K W fo)) (he : PE X e (up X.K W fe)) (hs : starEach [e] X.env = [(false, eval e X.env)] := by rfl) (hbase : attributeBase o "count" X.env (eval o X.env) = eval o X.env := by rfl)
    (hfew : ((backTo cpos (starEach [e] X.env)).all (fun x => !x.1) && (backToKw cpos (keywordEach [] X.env)).all (fun x => x.1.isSome) && decide ([e].length + ([] : List Keyword).length + (if ([] : List Keyword).isEmpty then 0 else 1) < 30)) = true := by rfl) (hline : (apos.endLine == cpos.line) = true := by rfl) :
    PE X (.Call (.Attribute o "count" apos) [e] [] cpos) (up X.K W (dML dCntF fo fe)) := by
  refine PE_imp (pe_bm PySem.F.plainAttrs_list PySem.F.slot_list_count PySem.F.type_list_count mt_countF ho (pa_cons he pa_nil (by rw [hs]; rfl)) hbase hfew hline (by rw [hs]; rfl) (by rfl)) fun σ H Q ⟨z, δ, P, E, ok, sl, hf, kq, kx⟩ => ?_
  refine ⟨z, δ, _, E, ok, sl, hf, fun d v H1 ⟨ty, p⟩ e1 r1 => ⟨ty_lstD ty r1, z, δ, _, E, ok.ev e1, sl.evn e1, p, fun y u H2 p2 e2 r2 => ?_, kx.ev e1⟩, kx⟩
  obtain ⟨ys, v', us, rfl, hy, hys, f1, f2, hp⟩ := p2
  cases r2.v_of hy
  cases (r1.evn e2) with
  | lst a n q =>
    cases q.v_of hys
    exact ⟨_, us, _, rfl, rfl, SqL.of a, f1, f2, kq _ _ H2 hp (e1.trans e2) (.int _)⟩
/-- isinstance(e, c) of the exception at a -/
def dIsE (K : PySem.W.Frag) (D0 a : Addr) (ds : List D) (P : PQ) : Prop := ∃ (C : Addr) (b : Bool), ds = [.raw (.ref a), .raw (.ref C)] ∧ PySem.W.kitOne K (.ref D0) (.ref C) = some b ∧ P (.bl b)
theorem cd_isE {K : PySem.W.Frag} {D0 a : Addr} : CallD K (rIsE K D0 a) (dIsE K D0 a) := by
  rintro z H vs ds P Q ok r ⟨C, b, rfl, hk, p⟩ kq
  cases r with
  | cons r1 r =>
    cases r1
    cases r with
    | cons r2 r =>
      cases r2
      cases r
      exact ⟨.ref C, .ref C, b, rfl, fun u h => h, hk, kq _ _ H p .refl (.bl _)⟩
end
end DL

/-! The data layer, part 11: classes: attributes set, instances made, classmethods, properties. -/
namespace DL
open PySem PySem.Spec PyProof.Rows L2

/-! ### self.f = e -/
theorem putF_new {f : Str} {v : V} : ∀ {ks : List Str} {vs : List V}, ks.length = vs.length → f ∉ ks → putF f v (ks.zip vs) = (ks ++ [f]).zip (vs ++ [v])
  | [], [], _, _ => rfl
  | [], _ :: _, h, _ => by cases h
  | _ :: _, [], h, _ => by cases h
  | k :: ks, w :: vs, h, n => by
    have n1 : ¬ k = f := fun e => n (by rw [e]; exact List.mem_cons_self)
    have n2 : f ∉ ks := fun m => n (List.mem_cons_of_mem _ m)
    show (if k = f then (k, v) :: ks.zip vs else (k, w) :: putF f v (ks.zip vs)) = _
    rw [if_neg n1, putF_new (by simpa using h) n2]
    rfl
def dPut (K : PySem.W.Frag) (i : Nat) (f : Str) (fe : DE) : DSt := fun δ e E => ∃ C ks ds, δ[i]? = some (some (SD.own (.i C ks ds))) ∧ Cls K C ∧ NoAttr K C f ∧ f ∉ ks ∧ ks.length < 1000 ∧
  fe (hid δ) (fun d => e.nx (drp (δ.set i (some (.own (.i C (ks ++ [f]) (ds ++ [d]))))))) (fun x => E x δ)
section
variable {X : Cx} {W : WX} {i : Nat} {x f : Str} {e : Expr} {fe : DE} {p2 pos pos' : Pos}
theorem pds_put (ho : PE X (.Name x p2) (tVar i)) (he : PE X e (up X.K W fe)) (hs : swapsWith e (some (.Attribute (.Name x p2) f pos')) pos.line X.env = pure false := by rfl) :
    PS X (.Assign [.Attribute (.Name x p2) f pos'] e pos) (upS X.K W (dPut X.K i f fe)) := by
  refine PS_imp (ps_fld ho he hs) fun T σ H ⟨z, δ, e, E, ok, sm, ⟨C, ks, ds, hd, hC, hn, nk, lt, hf⟩, cn⟩ => ?_
  refine run_hid ok sm cn hf fun d v H1 p e1 ok1 sm1 cn1 r1 => ?_
  obtain ⟨a, h1, hh, h4⟩ := sm1.own i _ hd
  cases hh with
  | @i _ dx _ vs _ h2 hl h3 =>
    refine ⟨.ref a, h1, a, C, dx, ks.zip vs, rfl, h2, hC, hn, by rw [List.length_zip]; omega, ?_⟩
    rw [putF_new hl nk]
    obtain ⟨s2, o2⟩ := sm1.write (fun _ w => by cases w) (fun _ => ⟨_, _, _, rfl⟩) (u := .ins C dx ((ks ++ [f]).zip (vs ++ [v]))) (w1 := .i C (ks ++ [f]) (ds ++ [d])) hd h1 fun c w ez n => .i upd_same (by simp [hl]) (((h3.app (.one r1)).re (z := z.ex σ δ) (y := c) ez fun b _ h => w b h).wr n)
    exact cn1.nx _ _ _ p o2 s2
end

/-! ### an instance is made -/
/-- the context in which the object at x is made -/
def Cz.opn {K : PySem.W.Frag} (z : Cz K) (x : Addr) : Cz K := ⟨z.z, fun a => z.n a ∨ a = x, fun a h => .inl (z.no a h), fun a => z.o a ∨ a = x, fun a h => h.imp (z.on a) id⟩
def SpMk (K : PySem.W.Frag) (C : Addr) (ks : List Str) (g : List D → List D → Prop) : Sp := fun vs H Q _ => ∃ z x dx ws ds fs, vs = V.ref x :: ws ∧ H x = some (.ins C dx []) ∧ Ok z H ∧ ¬ z.n x ∧ RpAll K (z.shut x) H ws ds ∧ g ds fs ∧
  ∀ us H' dx', Ev (z.opn x) H H' → H' x = some (.ins C dx' (ks.zip us)) → ks.length = us.length → RpAll K (z.shut x) H' us fs → Q .non H'
theorem ev_made {K : PySem.W.Frag} {z : Cz K} {H1 H2 H' : Hp} {x : Addr} (e : Ev z H1 H2) (hx : H1 x = none) (f : Ev (z.opn x) H2 H') : Ev z H1 H' := ⟨fun a o n w t h => f.keep a o n (fun q => q.elim w fun q => by rw [q, hx] at h; cases h) t (e.keep a o n w t h), fun a h => f.thr a (e.thr a h), fun a n h => f.die a n (e.die a n h), fun d h => f.tab (fun a c => e.die a c (d a c)) (e.tab d h)⟩
/-- a body that makes: its first slot is the object -/
theorem mk_up {K : PySem.W.Frag} {fb : DSt} {N : List Str} {z : Cz K} {H : Hp} {x C dx : Addr} {ks : List Str} {vs : List V} {ds fs : List D} {Q : VK} (ok : Ok z H) (nx : ¬ z.n x) (hx : H x = some (.ins C dx [])) (r : RpAll K (z.shut x) H vs ds)
    (q : ∀ us H' dx', Ev (z.opn x) H H' → H' x = some (.ins C dx' (ks.zip us)) → ks.length = us.length → RpAll K (z.shut x) H' us fs → Q .non H')
    (h : fb (some (.own (.i C [] [])) :: startM (N.length - 1) ds) { nx := fun δ' => δ'[0]? = some (some (SD.own (.i C ks fs))), rt := fun _ => False } (fun _ _ => False)) (hN : 1 + vs.length ≤ N.length) : upS K W0 fb { nx := fun _ H' => Q .non H', rt := Q } (L2.start N (V.ref x :: vs)) H := by
  have es : L2.start N (V.ref x :: vs) = some (V.ref x) :: (vs.map some ++ List.replicate (N.length - 1 - vs.length) none) := by
    unfold L2.start
    rw [List.map_cons, List.length_cons, List.cons_append, show N.length - (vs.length + 1) = N.length - 1 - vs.length by omega]
  have eo : ∀ a, OwnA (L2.start N (V.ref x :: vs)) (some (SD.own (.i C [] [])) :: startM (N.length - 1) ds) a ↔ a = x := fun a => by
    constructor
    · rintro ⟨i, o, h1, h2⟩
      cases i with
      | zero =>
        rw [es] at h2
        simp at h2
        exact h2.symm
      | succ i =>
        rw [List.getElem?_cons_succ] at h1
        exact absurd h1 (startM_own _ _ i o)
    · rintro rfl
      exact ⟨0, .i C [] [], rfl, by rw [es]; rfl⟩
  have hl := r.len
  have zz : z.z ≠ some x := Cz.nz nx
  refine ⟨z, _, _, _, ok, ⟨?_, fun i d hd => ?_, fun i d hd => ?_, fun i o hd => ?_, fun i j o1 o2 a h1 h2 _ _ => ?_⟩, h, ⟨fun δ' σ' H' q0 o s => ?_, fun _ _ _ q => q.elim, fun _ _ _ q => q.elim, fun _ _ _ q => q.elim, fun _ _ _ _ _ _ q => q.elim⟩⟩
  · rw [es]
    simp [startM, hl]
  · cases i with
    | zero => simp at hd
    | succ i =>
      rw [List.getElem?_cons_succ] at hd
      unfold startM at hd
      by_cases hi : i < ds.length
      · rw [List.getElem?_append_left (by simpa using hi), List.getElem?_map] at hd
        cases q : ds[i]? with
        | none => rw [q] at hd; cases hd
        | some e =>
          rw [q] at hd
          cases hd
          obtain ⟨v, a, b⟩ := r.getD q
          refine ⟨v, ?_, b.re (z := z.shut x) (y := z.ex _ _) rfl fun c _ (n : ¬ (z.n c ∨ c = x)) (q : z.n c ∨ OwnA _ _ c) => n (q.imp id (eo c).mp)⟩
          rw [es, List.getElem?_cons_succ, List.getElem?_append_left (by simpa [hl] using hi), List.getElem?_map, a]
          rfl
      · rw [List.getElem?_append_right (by simpa using hi), List.getElem?_replicate] at hd
        split at hd <;> cases hd
  · cases i with
    | zero => simp at hd
    | succ i =>
      rw [List.getElem?_cons_succ] at hd
      unfold startM at hd
      by_cases hi : i < ds.length
      · rw [List.getElem?_append_left (by simpa using hi), List.getElem?_map] at hd
        cases q : ds[i]? with
        | none => rw [q] at hd; cases hd
        | some e => rw [q] at hd; cases hd
      · rw [List.getElem?_append_right (by simpa using hi), List.getElem?_replicate] at hd
        split at hd <;> cases hd
  · cases i with
    | zero =>
      simp at hd
      subst hd
      exact ⟨x, by rw [es]; rfl, .i (vs := []) hx rfl .nil, nx⟩
    | succ i =>
      rw [List.getElem?_cons_succ] at hd
      exact absurd hd (startM_own _ _ i o)
  · have z0 : ∀ {i : Nat} {o : OD}, (some (SD.own (.i C [] [])) :: startM (N.length - 1) ds)[i]? = some (some (SD.own o)) → i = 0 := fun {i o} hd => by
      cases i with
      | zero => rfl
      | succ i =>
        rw [List.getElem?_cons_succ] at hd
        exact absurd hd (startM_own _ _ i o)
    rw [z0 h1, z0 h2]
  · obtain ⟨a, h1, h2, h3⟩ := s.own 0 _ q0
    have ev : Ev (z.opn x) H H' := ⟨fun a u n w t h => o.ev.keep a u n (fun q => q.elim (fun q => w (.inl q)) fun q => w (.inr ((eo a).mp q))) t h, o.ev.thr, o.ev.die, o.ev.tab⟩
    have ax : a = x := (eo a).mp (by
      obtain ⟨i, C', ks', ds', g1, g2⟩ := o.ins a ⟨0, C, ks, fs, q0, h1⟩
      exact ⟨i, _, g1, g2⟩)
    subst ax
    cases h2 with
    | @i _ dx' _ us _ g1 g2 g3 => exact q us H' dx' ev g1 g2 (g3.re (z := z.ex σ' δ') (y := z.shut a) rfl fun c _ (n : ¬ (z.n c ∨ OwnA σ' δ' c)) (q : z.n c ∨ c = a) => n (q.imp id fun e => by rw [e]; exact ⟨0, _, q0, h1⟩))

theorem init_star {P : Program} {w : World} {K : PySem.W.Frag} {mg : Str → Option Value} {base : Heap} {k : Nat} {name qual pv : Str} {st : Stmt} {f C : Addr} {fd : FuncData} {N ks : List Str} {g : List D → List D → Prop} (F : Fun K name qual st f fd) (S : FnScope N ["self", pv] (defScope st)) (hN : 2 ≤ N.length) (hz : ∀ ds fs, g ds fs → ds.length ≤ sizeLine)
    (hbind : ∀ (kV doc pm cdv ct : Value) (an : Option Addr) (us rest : List Value), us.length = 1 → bindArgs (PySem.W.fnOf name qual (defArgs st) (defBody st) (defScope st) .none kV doc pm an cdv ct) ⟨us ++ rest, []⟩ = (newTuple rest >>= fun t => pure ([("self" : Str)].zip us ++ [(pv, t)])))
    (body : ∀ (cdv : Value) (A : Around) (outer : List Env) (s : Shared) (H : Hp) (E : XK), Room k (A.deeper (envOfC qual (defScope st) s.heap.objs.size f cdv)) →
      ∃ fb, PSs (cxOf CX0 P w K mg base N qual (defScope st) f cdv A outer s H E).nox (defBody st) (upS K W0 fb) ∧ ∀ ds fs, g ds fs → fb (some (.own (.i C [] [])) :: startM (N.length - 1) [.tup ds]) { nx := fun δ' => δ'[0]? = some (some (SD.own (.i C ks fs))), rt := fun _ => False } (fun _ _ => False)) :
    FnR P w K mg base CX0 (k + 1) f (SpMk K C ks g) := by
  obtain ⟨oc, od, kV, doc, pm, an, cdv, ct, osl, e, lk, hcd⟩ := F.ex
  subst e
  have F1 := StX.fn_star (CX := CX0) (P := P) (w := w) (mg := mg) (base := base) (k := k) (ps := [("self" : Str)]) (pv := pv) (sp := fun vs H Q _ => ∃ z x dx p ds fs, vs = [V.ref x, V.ref p] ∧ H x = some (.ins C dx []) ∧ Ok z H ∧ ¬ z.n x ∧ RpAll K (z.shut x) H [V.ref p] [.tup ds] ∧ g ds fs ∧
    ∀ us H' dx', Ev (z.opn x) H H' → H' x = some (.ins C dx' (ks.zip us)) → ks.length = us.length → RpAll K (z.shut x) H' us fs → Q .non H') lk hcd S StX.cxUp_none (hbind kV doc pm cdv ct an) fun A outer s H vs Q E hr ⟨z, x, dx, p, ds, fs, e, hx, ok, nx, r, hg, q⟩ => ?_
  · refine F1.imp fun vs H Q E ⟨z, x, dx, ws, ds, fs, e, hx, ok, nx, r, hg, q⟩ => ⟨[V.ref x], ws, e, rfl, by rw [r.len]; exact hz _ _ hg, fun p hp => ?_⟩
    have xp : x ≠ p := fun e => by rw [e, hp] at hx; cases hx
    have np : ¬ (z.shut x).n p := fun h => h.elim (ok.new hp) fun e => xp e.symm
    exact ⟨z, x, dx, p, ds, fs, rfl, by rw [upd_ne xp]; exact hx, ok.ev (.new hp), nx, .one (.tup (.inl ⟨upd_same, np⟩) (r.evn (.new hp))), hg, fun us H' dx' ev hx' hl ra => q us H' dx' ((Ev.new hp).trans ev) hx' hl ra⟩
  · subst e
    obtain ⟨fb, hd, hp⟩ := body cdv A outer s H E hr
    exact ⟨_, hd.nox, mk_up ok nx hx r q (hp ds fs hg) (by simpa using hN)⟩

def dMake (C : Addr) (ks : List Str) (g : List D → List D → Prop) (fa : DA) : DE := fun δ P E => fa δ (fun ds => ∃ fs, g ds fs ∧ P (.ins C ks fs)) E
def dMakeS (C : Addr) (ks : List Str) (g : List D → List D → Prop) (i : Nat) (fe : DE) : DE := fun δ P E => δ[i]? = some (some (.raw (.ref C))) ∧ fe δ (fun d => ∃ xs fs, seqOf d = some xs ∧ g xs fs ∧ P (.ins C ks fs)) E
section
variable {X : Cx} {W : WX} {C f : Addr} {k i : Nat} {ks : List Str} {g : List D → List D → Prop} {x : Str} {p sp pos : Pos} {e : Expr} {es : List Expr} {fa : DA} {fe : DE}
/-- what a call of the class meets -/
theorem mk_meet {z : Cz X.K} {H1 : Hp} {vs : List V} {ds fs : List D} {P : PQ} {Q : VK} (ok : Ok z H1) (r : RpAll X.K z H1 vs ds) (hg : g ds fs) (p : P (.ins C ks fs)) (kq : Kq X.K z H1 P Q) :
    ∀ x dx, H1 x = none → H1 dx = none → dx ≠ x → SpMk X.K C ks g (V.ref x :: vs) (upd (upd H1 dx (.own x)) x (.ins C dx [])) (fun v H2 => v = .non ∧ Q (.ref x) H2) E0 := fun x dx hx hdx ne => by
  have e1 : Ev z H1 (upd H1 dx (.own x)) := .new hdx
  have hx1 : upd H1 dx (.own x) x = none := by rw [upd_ne (Ne.symm ne)]; exact hx
  have e2 : Ev z H1 (upd (upd H1 dx (.own x)) x (.ins C dx [])) := e1.trans (.new hx1)
  have e2' : Ev (z.shut x) H1 (upd (upd H1 dx (.own x)) x (.ins C dx [])) := ev_shut.mpr e2
  refine ⟨z, x, dx, vs, ds, fs, rfl, upd_same, ok.ev e2, ok.new hx, (r.re (z := z) (y := z.shut x) rfl (okc_shut hx).new).evn e2', hg, fun us H' dx' ev hx' hl ra => ⟨rfl, kq _ _ H' p (ev_made e2 hx ev) (.ins hx' (ok.new hx) hl (ra.re (z := z.shut x) (y := z) rfl fun a _ n q => n (.inl q)))⟩⟩
theorem pd_make (M : Mk X.K C f) (F : FnR X.prog X.w X.K X.mg X.base CX0 k f (SpMk X.K C ks g)) (hr : Room (k + 1) X.A) (hg : Gl X x) (hm : X.mg x = some (.ref C)) (ha : PA X (e :: es) (upA X.K W fa)) (hdb : (x == ("__debug__" : Str)) = false := by decide)
    (he : starEach (e :: es) X.env = (false, eval e X.env) :: starEach es X.env := by rfl) (hpl : (backTo pos (starEach es X.env)).any (·.1) = false := by rfl) : PE X (.Call (.Name x p) (e :: es) [] pos) (up X.K W (dMake C ks g fa)) :=
  PE_imp (StX.pe_makeR M F hr hg hm pass0 ha hdb he hpl) fun σ H Q ⟨z, δ, P, E, ok, sl, hf, kq, kx⟩ => ⟨z, δ, _, E, ok, sl, hf, fun ds vs H1 ⟨fs, h1, h2⟩ ev r => mk_meet (ok.ev ev) r h1 h2 (kq.ev ev), kx⟩
theorem pd_make0 (M : Mk X.K C f) (F : FnR X.prog X.w X.K X.mg X.base CX0 k f (SpMk X.K C ks g)) (hr : Room (k + 1) X.A) (hg : Gl X x) (hm : X.mg x = some (.ref C)) (hdb : (x == ("__debug__" : Str)) = false := by decide) :
    PE X (.Call (.Name x p) [] [] pos) (up X.K W (dMake C ks g dNil)) := by
  refine ⟨fun pins s σ H Q I ⟨z, δ, P, E, ok, sl, ⟨fs, h1, h2⟩, kq, kx⟩ => ?_⟩
  refine wpAny_Call_Name_kw (ld_glob I hg hm ?_ hdb)
  exact PySem.W.callWith_K0 I.kIn M.kp (StX.run_makeR (us := []) M F hr pass0 I .nil (mk_meet ok .nil h1 h2 kq))
/-- cls(*e), cls a local name -/
theorem pd_makeS (M : Mk X.K C f) (F : FnR X.prog X.w X.K X.mg X.base CX0 k f (SpMk X.K C ks g)) (hr : Room (k + 1) X.A) (hv : PE X (.Name x p) (tVar i)) (he : PE X e (up X.K W fe)) (hst : starEach [.Starred e sp] X.env = [(true, eval e X.env)] := by rfl) :
    PE X (.Call (.Name x p) [.Starred e sp] [] pos) (up X.K W (dMakeS C ks g i fe)) := by
  refine ⟨fun pins s σ H Q I ⟨z, δ, P, E, ok, sl, ⟨hd, hf⟩, kq, kx⟩ => ?_⟩
  obtain ⟨v0, hv0, r0⟩ := sl.get i _ hd
  cases r0
  refine wpAny_Call_Name_kw (thn (hv.run pins s σ H (fun v H1 => v = .ref C ∧ H1 = H) I ⟨.ref C, hv0, rfl, rfl⟩) fun u s0 ⟨v, H0, I0, r0, e1, e2⟩ => ?_)
  subst e1
  subst e2
  obtain rfl : u = Value.ref C := r0
  refine PySem.W.callWith_S (h₀ := X.base) I.ok.mod.kin M.kp (thn (he.run pins s0 σ H0 (fun y H1 => ∃ a xs, y = V.ref a ∧ (SqT X.K H1 a xs ∨ SqL X.K H1 a xs) ∧ ∀ x dx, H1 x = none → H1 dx = none → dx ≠ x → SpMk X.K C ks g (V.ref x :: xs) (upd (upd H1 dx (.own x)) x (.ins C dx [])) (fun v H2 => v = .non ∧ Q (.ref x) H2) E0) I0 ?_) fun v s1 ⟨y, H1, I1, ry, a, xs, ey, hxs, q⟩ => ?_) hst
  · refine ⟨z, δ, _, E, ok, sl, hf, fun d v H1 ⟨xs, fs, h1, h2, h3⟩ ev r => ?_, kx⟩
    obtain ⟨a, vs, rfl, hs, ra⟩ := r.seq h1
    exact ⟨a, vs, rfl, hs.symm, mk_meet (ok.ev ev) ra h2 h3 (kq.ev ev)⟩
  · subst ey
    obtain rfl : v = Value.ref a := ry
    exact StX.star_any I1 hxs fun us s2 I2 rv => ⟨I2.kIn, StX.run_makeR M F hr pass0 I2 rv q⟩
end

/-! ### promises of methods -/
/-- a method's promise at its def g0 -/
def MetG (P : Program) (w : World) (K : PySem.W.Frag) (mg : Str → Option Value) (base : Heap) (CX : CXT) (k : Nat) (f : Addr) (ps : List Str) (g : List D → DW) : Prop := ∃ fd, FnOk P w K mg base CX k f fd ps (toSp K g) ∧ Binds K fd ps []
theorem MetG.raw {P : Program} {w : World} {K : PySem.W.Frag} {mg : Str → Option Value} {base : Heap} {CX : CXT} {k : Nat} {f : Addr} {ps : List Str} {g : List D → DW} (m : MetG P w K mg base CX k f ps g) : FnR P w K mg base CX k f (toSp K g) := by
  obtain ⟨fd, F, hb⟩ := m
  refine (F.raw hb .nil).imp fun vs H Q E h => ?_
  rw [List.append_nil]
  exact h
theorem met_of {P : Program} {w : World} {K : PySem.W.Frag} {mg : Str → Option Value} {base : Heap} {name qual : Str} {st : Stmt} {N ps : List Str} {k : Nat} {CX : CXT} {f : Addr} {fd : FuncData} {g : List D → DW} (hF : Fun K name qual st f fd) (hb : Binds K fd ps []) (S : FnScope N ps (defScope st)) (len : ∀ ds P E, g ds P E → ds.length = ps.length)
    (body : ∀ (cdv : Value) (A : Around) (outer : List Env) (s : Shared) (H : Hp) (E : XK), Room k (A.deeper (envOfC qual (defScope st) s.heap.objs.size f cdv)) →
      ∃ fb, PSs (cxOf CX P w K mg base N qual (defScope st) f cdv A outer s H E) (defBody st) (upS K (fun c d _ H => E c d H) fb) ∧ ∀ ds R X, g ds R X → fb (startM N.length ds) { nx := fun _ => R .non, rt := R } (fun x _ => X x)) :
    MetG P w K mg base CX (k + 1) f ps g := by
  obtain ⟨oc, od, kV, doc, pm, an, cdv, ct, osl, e, lk, hcd⟩ := hF.ex
  subst e
  refine ⟨_, fn_of lk hcd S (fun vs H Q E ⟨z, ds, R, Ex, _, r, h, _⟩ => r.len.trans (len ds R Ex h)) (fun A outer s H vs Q E hr h => ?_), hb⟩
  obtain ⟨fb, hd, hp⟩ := body cdv A outer s H E hr
  obtain ⟨z, ds, R, Ex, ok, r, h, kq, kx⟩ := h
  exact ⟨_, hd, start_up ok r kq kx (fun _ _ _ _ q => q) (hp ds R Ex h)⟩
/-- C.m(..), m a classmethod -/
def dCMet (C : Addr) (g : List D → DW) (fa : DA) : DE := fun δ P E => fa δ (fun ds => g (.raw (.ref C) :: ds) P E) E
/-- e.f, f a property -/
def dProp (C : Addr) (g : List D → DW) (fe : DE) : DE := fun δ P E => fe δ (fun d => ∃ ks xs, d = .ins C ks xs ∧ g [d] P (fun _ => False)) E
section
variable {X : Cx} {W : WX} {C p f : Addr} {mc : Value} {k : Nat} {g : List D → DW} {o e : Expr} {es : List Expr} {fa : DA} {fe : DE} {m x : Str} {pos apos np : Pos} {pl : Sem Bool} {ps : List Str}
theorem run_fnRS {CX : CXT} {sp : Sp} {E : XK} {Q : VK} {pins : List (Addr × Obj)} {σ : L2.St} {H : Hp} {s : Shared} {us : List Value} {vs : List V} (F : FnR X.prog X.w X.K X.mg X.base CX k f sp) (hr : Room k X.A) (hx : PassesAt CX X σ E) (I : Inv X pins σ H s) (r : Vals vs us) (h : sp vs H Q E) :
    codeAny (model X.prog X.w) X.A (.call (.ref f) ⟨us, []⟩) (fun r s' => match r with | .ok (.ret v) => EP X pins σ Q v s' | .ok _ => False | .error e => X.xe e s') s := by
  refine codeAny_mono (F X.A X.stack s H us vs Q E hr I.env0 r h) fun r s' hq => ?_
  cases r with
  | error e => exact hx pins H s e s' I hq
  | ok fl =>
    cases fl with
    | ret u => exact I.after hq
    | next => exact hq.elim
    | brk => exact hq.elim
    | cont => exact hq.elim
theorem pd_cmet {CX : CXT} (hg : Gl X x) (hm : X.mg x = some (.ref C)) (r : ClX.CRead X.K C mc) (c : ClX.CMet X.K C mc m p f) (F : MetG X.prog X.w X.K X.mg X.base CX k f ps g) (hr : Room k X.A) (hx : ∀ σ, PassesAt CX X σ (WE W σ)) (ha : PA X (e :: es) (upA X.K W fa)) (hdb : (x == ("__debug__" : Str)) = false := by decide)
    (hst : starEach (e :: es) X.env = (false, eval e X.env) :: starEach es X.env := by rfl) (hpl : (backTo pos (starEach es X.env)).any (·.1) = false := by rfl)
    (ht : eval (.Call (.Attribute (.Name x np) m apos) (e :: es) [] pos) X.env = (do
      let ov ← eval (.Name x np) X.env
      standAt apos.atName
      let (f, first) ← holding [ov] (getMethod ov m pl)
      callWith pos f first (backTo pos (starEach (e :: es) X.env)) (backToKw pos (keywordEach [] X.env))) := by rfl) :
    PE X (.Call (.Attribute (.Name x np) m apos) (e :: es) [] pos) (up X.K W (dCMet C g fa)) := by
  refine ⟨fun pins s σ H Q I ⟨z, δ, P, E, ok, sl, hf, kq, kx⟩ => ?_⟩
  refine PySem.W.methodCall_KW (pl := pl) (ld_glob I hg hm ?_ hdb) ht
  refine ClX.getmethcm_ok I r c fun s2 I2 => ?_
  refine ClX.callwith_cm I2 (ClX.base_none I (Nat.le_refl _)) c.fi (thn (ha.run pos _ s2 σ H (fun vs H1 => toSp X.K g (V.ref C :: vs) H1 Q (WE W σ)) I2 ?_) fun us s3 ⟨vs, H2, I3, rv, q2⟩ => ⟨⟨ClX.pin_at I3, I3.kIn⟩, ?_⟩) hst hpl
  · exact ⟨z, δ, _, E, ok, sl, hf, fun ds vs H1 hg e1 r1 => ⟨z, .raw (.ref C) :: ds, P, E, ok.ev e1, .cons (.raw _) r1, hg, kq.ev e1, kx.ev e1⟩, kx⟩
  · have z1 : wpAny (model X.prog X.w) X.A (call (.ref s.heap.objs.size) us) (EP X ((s.heap.objs.size, PySem.W.methodObj (.ref f) (.ref C)) :: pins) σ Q) X.xe s3 :=
      wpAny_call (PySem.W.method_call (ClX.pin_at I3) (run_fnRS (us := .ref C :: us) (vs := .ref C :: vs) F.raw hr (hx σ) I3 (.cons rfl rv) q2))
    exact thn z1 fun _ _ y => ClX.unpinE y
theorem pd_prop (he : PE X e (up X.K W fe)) (c : Cls X.K C) (hp : PropOf X.K C m p f) (F : MetG X.prog X.w X.K X.mg X.base CX0 k f ps g) (hr : Room (k + 1) X.A) (hab : attributeBase e m X.env (eval e X.env) = eval e X.env := by rfl) : PE X (.Attribute e m pos) (up X.K W (dProp C g fe)) := by
  obtain ⟨fd, Fn, hb⟩ := F
  refine PE_imp (pe_prop (dvs := []) he c hp Fn hr hb .nil pass0 hab) fun σ H Q ⟨z, δ, P, E, ok, sl, hf, kq, kx⟩ => ?_
  refine ⟨z, δ, _, E, ok, sl, hf, fun d v H1 ⟨ks, xs, hd, hg⟩ e1 r1 => ?_, kx⟩
  subst hd
  have r1' := r1
  cases r1 with
  | ins a n l q => exact ⟨_, _, _, rfl, a, z, [.ins C ks xs], P, fun _ => False, ok.ev e1, .one r1', hg, kq.ev e1, fun _ _ _ _ q => q.elim⟩
end
end DL

/-! The data layer, part 12: == and != of instances by an own __eq__; lambdas. -/
namespace DL
open PySem PySem.Spec PyProof.Rows L2

/-! ### != where only __eq__ is the text's own -/
section
variable {prog : Program} {w : World} {A : Around} {E : Value → Shared → Prop} {s : Shared} {K : PySem.W.Frag} {x C f : Addr} {ox : Obj} {od : Option Obj} {name : Str} {b : Value}
/-- a special name found in a built-in class above -/
theorem ifBound_B {M : Model} {id : String} {B : String} {args : List Value} {Q : Option Value → Shared → Prop} (X : K.In s.heap) (I : PySem.W.InstAt s.heap x ox C od) (hs : PySem.W.findIn K (.ref C) name = some (some (.builtin id))) (S : Slot B name id)
    (h : wpAny M A (call (.builtin id) (.ref x :: args)) (fun v => Q (some v)) E s) : wpAny M A (callSpecialIfBound? (.ref x) name args) Q E s := by
  simp only [callSpecialIfBound?, bindSpecialIfBound?]
  refine wpAny_holding (wpAny_bind (wpAny_bind (wpAny_bind (I.type.here ((PySem.W.looks_findIn X hs).here ?_)))))
  simp only [S.bind]
  have go : wpAny M A (call (.builtin id) ([.ref x] ++ args) >>= fun v => pure (some v)) Q E s := wpAny_bind (wpAny_mono h (fun v s' q => wpAny_pure q) fun _ _ q => q)
  refine wpAny_bind (wpAny_askSetting (wpAny_ite ?_))
  split
  · exact wpAny_bind (wpAny_pure (wpAny_pure go))
  · exact wpAny_tryCatch (wpAny_bind (wpAny_pure (wpAny_pure go)))
theorem check_ne {M : Model} {rest : List Value} {Q : Unit → Shared → Prop} (X : K.In s.heap) (I : PySem.W.InstAt s.heap x ox C od) (hsub : PySem.W.subIn K (.ref C) (.type "object") = some true) (ha : argsOk "object.__ne__" ⟨.ref x :: rest, []⟩) (hq : Q () s) :
    wpAny M A (checkBuiltinCall "object.__ne__" ⟨.ref x :: rest, []⟩) Q E s := by
  simp only [checkBuiltinCall, F.cmpKind_ne, F.cmpSplit_ne]
  refine wpAny_bind ?_
  unfold isInstance
  refine wpAny_bind (I.type.here ((PySem.W.looks_subIn X hsub).here ?_))
  refine wp_if_neg (by decide) ?_
  cases hsig : Manifest.signature? "object.__ne__" with
  | none => exact wpAny_pure hq
  | some sig =>
    simp only [argsOk, hsig] at ha
    have h2 : Bind.checkArgs "object.__ne__" sig ⟨.ref x :: rest, []⟩ = pure () := ha
    show wpAny M A (Bind.checkArgs "object.__ne__" sig ⟨.ref x :: rest, []⟩) Q E s
    rw [h2]
    exact wpAny_pure hq
/-- x != y by the __eq__ at f, which answers with a bool -/
theorem ne_own {Q : Value → Shared → Prop} (hu : A.units + 1 < cLine) (X : K.In s.heap) (I : PySem.W.InstAt s.heap x ox C od) (hb : PySem.W.Looks (model prog w) s.heap (typeOf b) (.ref C)) (hne : PySem.W.findIn K (.ref C) "__ne__" = some (some (.builtin "object.__ne__")))
    (hsub : PySem.W.subIn K (.ref C) (.type "object") = some true) (heq : PySem.W.findIn K (.ref C) "__eq__" = some (some (.ref f))) (hf : PySem.W.isFn K (.ref f) = true)
    (h : wpAny (model prog w) A.in1 (call (.ref f) [.ref x, b]) (fun v s' => ∃ k : Bool, v = .bool k ∧ Q (.bool (!k)) s') E s) : wpAny (model prog w) A (richCompare .NotEq (.ref x) b) Q E s := by
  have inner : wpAny (model prog w) A.in1 (Builtin.«object.__ne__» ⟨[.ref x, b], []⟩) (fun fin s' => ∃ v, fin = .done (.ret v) ∧ (∃ k : Bool, v = .bool k) ∧ Q v s') E s := by
    unfold Builtin.«object.__ne__»
    refine wpAny_bind (wpAny_pure ?_)
    dsimp only
    refine wpAny_bind (wpAny_cRoomFor (by show A.units + 1 < cLine; exact hu) ?_)
    refine wpAny_bind (PySem.W.ifBound_K X I heq hf (wpAny_mono h (fun v s' hv => ?_) fun _ _ e => e))
    obtain ⟨k, rfl, q⟩ := hv
    dsimp only
    refine wpAny_bind (wpAny_truthy_bool ?_)
    exact wpAny_pure ⟨_, rfl, ⟨_, rfl⟩, q⟩
  have one : wpAny (model prog w) A (tryCompare (.ref x) "__ne__" b) (fun r s' => ∃ v, r = some v ∧ Q v s') E s := by
    unfold tryCompare
    refine wpAny_bind (ifBound_B X I hne F.slot_object_ne (wpAny_call (codeAny_call_builtin F.slot_object_ne.plain F.cmpEntry_ne (check_ne X I hsub (F.cmpArgs_ne _ _) (wpAny_mono inner (fun fin s' hfin => ?_) fun _ _ e => e)))))
    obtain ⟨v, rfl, ⟨k, rfl⟩, q⟩ := hfin
    exact wpAny_pure ⟨_, rfl, q⟩
  unfold richCompare
  simp only [oneThing_ref]
  refine wpAny_holding (wpAny_bind (wpAny_cRoomFor (by omega) ?_))
  refine wpAny_bind (I.type.here (wpAny_bind (hb.here ?_)))
  rw [if_neg (by simp)]
  refine wpAny_bind (wpAny_pure ?_)
  simp only [Bool.false_eq_true, if_false]
  refine wpAny_bind (wpAny_mono one (fun r s' z => ?_) fun _ _ e => e)
  obtain ⟨v, rfl, hq⟩ := z
  exact wpAny_pure hq
end

/-- x == y (n = false), x != y (n = true) of two instances of C, over data -/
def rOwnC (K : PySem.W.Frag) (C : Addr) (g : List D → DW) (n : Bool) : R2 := fun x y H Q => ∃ z d1 d2 ks xs ks' ys P, d1 = .ins C ks xs ∧ d2 = .ins C ks' ys ∧ Ok z H ∧ Rp K z H x d1 ∧ Rp K z H y d2 ∧ g [d1, d2] (fun d => ∃ k : Bool, d = .bl k ∧ P (.bl (if n then !k else k))) (fun _ => False) ∧ Kq K z H P Q
def dOwnC (C : Addr) (g : List D → DW) (n : Bool) (x y : D) (P : PQ) : Prop := ∃ ks xs ks' ys, x = .ins C ks xs ∧ y = .ins C ks' ys ∧ g [x, y] (fun d => ∃ k : Bool, d = .bl k ∧ P (.bl (if n then !k else k))) (fun _ => False)
theorem opd_own {K : PySem.W.Frag} {C : Addr} {g : List D → DW} {n : Bool} : OpD K (rOwnC K C g n) (dOwnC C g n) := by
  rintro z H v u x y P Q ok r1 r2 ⟨ks, xs, ks', ys, rfl, rfl, h⟩ kq
  exact ⟨z, _, _, ks, xs, ks', ys, P, rfl, rfl, ok, r1, r2, h, kq⟩
section
variable {X : Cx} {C f : Addr} {k : Nat} {ps : List Str} {g : List D → DW}
theorem own_run {A : Around} {pins : List (Addr × Obj)} {σ : L2.St} {H : Hp} {s : Shared} {a b : Addr} {Q : Value → Shared → Prop} {z : Cz X.K} {d1 d2 : D} {R : D → Prop} (F : MetG X.prog X.w X.K X.mg X.base CX0 k f ps g) (hr : Room k A) (fr : A.frames = X.A.frames) (I : Inv X pins σ H s) (ok : Ok z H) (r1 : Rp X.K z H (.ref a) d1) (r2 : Rp X.K z H (.ref b) d2)
    (h : g [d1, d2] R (fun _ => False)) (q : ∀ u s' v H' d, Inv X pins σ H' s' → RelV v u → R d → Ev z H H' → Rp X.K z H' v d → Q u s') : wpAny (model X.prog X.w) A (call (.ref f) [.ref a, .ref b]) Q X.xe s := by
  have e0 : Env0 X.prog X.w X.K X.mg X.base A X.stack s H := by
    have e := I.env0
    exact ⟨by rw [fr]; exact e.frames, e.mod, e.bs, e.bsz, e.funs, e.frf, e.hok, e.bare⟩
  have sp : toSp X.K g [V.ref a, V.ref b] H (fun v H' => ∃ d, R d ∧ Ev z H H' ∧ Rp X.K z H' v d) E0 := ⟨z, [d1, d2], R, fun _ => False, ok, .cons r1 (.one r2), h, fun d v H' p e r => ⟨d, p, e, r⟩, fun _ _ _ _ q => q.elim⟩
  refine wpAny_call (codeAny_mono (F.raw A X.stack s H [.ref a, .ref b] [.ref a, .ref b] _ E0 hr e0 (.cons rfl (.cons rfl .nil)) sp) fun r s' hq => ?_)
  cases r with
  | error e => exact hq.elim
  | ok fl =>
    cases fl with
    | ret w =>
      obtain ⟨v, H', I', rv, d, hd, e, r⟩ := I.after hq
      exact q w s' v H' d I' rv hd e r
    | next => exact hq.elim
    | brk => exact hq.elim
    | cont => exact hq.elim
theorem op_ownNe (F : MetG X.prog X.w X.K X.mg X.base CX0 k f ps g) (hr : Room (k + 1) X.A) (hne : PySem.W.findIn X.K (.ref C) "__ne__" = some (some (.builtin "object.__ne__"))) (hsub : PySem.W.subIn X.K (.ref C) (.type "object") = some true)
    (heq : PySem.W.findIn X.K (.ref C) "__eq__" = some (some (.ref f))) (hf : PySem.W.isFn X.K (.ref f) = true) : OpR X (compareOp .NotEq) (rOwnC X.K C g true) := by
  rintro pins s σ H x y v u Q I rx ry ⟨z, d1, d2, ks, xs, ks', ys, P, rfl, rfl, ok, r1, r2, h, kq⟩
  cases r1 with
  | @ins a _ dx _ vs _ ha na hl ra =>
    cases r2 with
    | @ins b _ dy _ us _ hb nb hl' rb =>
      cases rx
      cases ry
      obtain ⟨mA, J, _⟩ := ins_get I.hok ha
      obtain ⟨mB, J', _⟩ := ins_get I.hok hb
      obtain ⟨od, J, _⟩ := J.look
      obtain ⟨od', J', _⟩ := J'.look
      show wpAny (model X.prog X.w) X.A (richCompare .NotEq (.ref a) (.ref b)) (EP X pins σ Q) X.xe s
      refine ne_own (by have := hr.un; omega) I.kIn J J'.type hne hsub heq hf (own_run F hr.in1 rfl I ok (.ins ha na hl ra) (.ins hb nb hl' rb) h fun w s' v' H' d I' rv ⟨kk, hd, hp⟩ e r => ?_)
      subst hd
      cases r
      cases rv
      exact ⟨kk, rfl, .bl (!kk), H', I', rfl, kq _ _ H' hp e (.bl _)⟩
theorem op_ownEq (F : MetG X.prog X.w X.K X.mg X.base CX0 k f ps g) (hr : Room k X.A) (heq : PySem.W.findIn X.K (.ref C) "__eq__" = some (some (.ref f))) (hf : PySem.W.isFn X.K (.ref f) = true) : OpR X (compareOp .Eq) (rOwnC X.K C g false) := by
  rintro pins s σ H x y v u Q I rx ry ⟨z, d1, d2, ks, xs, ks', ys, P, rfl, rfl, ok, r1, r2, h, kq⟩
  cases r1 with
  | @ins a _ dx _ vs _ ha na hl ra =>
    cases r2 with
    | @ins b _ dy _ us _ hb nb hl' rb =>
      cases rx
      cases ry
      obtain ⟨mA, J, _⟩ := ins_get I.hok ha
      obtain ⟨mB, J', _⟩ := ins_get I.hok hb
      obtain ⟨od, J, _⟩ := J.look
      obtain ⟨od', J', _⟩ := J'.look
      obtain ⟨m, hF⟩ := I.fr
      show wpAny (model X.prog X.w) X.A (richCompare .Eq (.ref a) (.ref b)) (EP X pins σ Q) X.xe s
      refine PySem.W.cmp_K (op := .Eq) (tb := .ref C) hr.units0 hF I.ok.mod.kin J J'.type (by simp [PySem.W.notFirst]) heq hf (own_run F hr rfl I ok (.ins ha na hl ra) (.ins hb nb hl' rb) h fun w s' v' H' d I' rv ⟨kk, hd, hp⟩ e r => ?_)
      subst hd
      cases r
      cases rv
      exact ⟨.bl kk, H', I', rfl, kq _ _ H' hp e (.bl _)⟩
end
end DL

/-! The data layer, part 13: x(lambda: body) where x tells which error the call raised. -/
namespace DL
open PySem PySem.Spec PyProof.Rows L2

/-- the context in which nothing is shut off -/
def Cz.all (K : PySem.W.Frag) : Cz K := ⟨none, fun _ => False, fun _ h => (by cases h), fun _ => False, fun _ h => h⟩
section
variable {K : PySem.W.Frag} {z : Cz K} {H H' : Hp}
theorem Ev.ofAll (e : Ev (Cz.all K) H H') : Ev z H H' := ⟨fun a o _ _ t h => e.keep a o (fun q => by cases q) (fun q => q) t h, e.thr, fun a _ ⟨i, j, k, h⟩ => ⟨i, j, k, e.keep a _ (fun q => by cases q) (fun q => q) (fun _ w => by cases w) h⟩, fun _ h => e.tab (fun a q => by cases q) h⟩
theorem Ev.ofExtN (e : LamX.ExtN H H') (t : LamX.Tabs (TBS K) H') : Ev z H H' := ⟨fun a o _ _ t h => e a o h t, fun a ⟨o, h, t⟩ => ⟨o, e a o h t, t⟩, fun a _ ⟨i, j, k, h⟩ => ⟨i, j, k, e a _ h (fun _ w => by cases w)⟩, fun _ _ => t⟩
theorem ok_all (t : LamX.Tabs (TBS K) H) : Ok (Cz.all K) H := ⟨fun a q => (by cases q), fun a q => q.elim, t⟩
end
/-- what it makes of the lambda: the word for a raised error, or the word for none -/
def TTmet (K : PySem.W.Frag) (MW : Addr → Str → Prop) (ret : Str) : (XK → Hp → VK → Prop) → Hp → VK → Prop := fun tl H Q =>
  tl (fun cls d H' => ∃ D0 w, cls = .ref D0 ∧ d = none ∧ MW D0 w ∧ LamX.Tabs (TBS K) H' ∧ ∀ H'', Ev (Cz.all K) H' H'' → Q (.str w) H'') H (fun _ H' => Q (.str ret) H')
section
variable {X : Cx}
theorem gives_met {Ng : List Str} {x a m n q ret : Str} {sg : Scope} {g CM : Addr} {cdg : Value} {j : Nat} {p1 p2 p3 p4 p5 p6 p7 p8 : Pos} {b₀ : Stmt} {suite : List Stmt} {MW : Addr → Str → Prop} {fs : Addr → Addr → DSt} (hge : sg.names.lookup m = some .globalImplicit) (hme : X.mg m = some (.ref CM)) (hde : (m == ("__debug__" : Str)) = false)
    (hNn : Ng.Nodup) (hN1 : Ng[1]? = some n) (hln : sg.names.lookup n = some .local) (hl4 : Ng.length = 4)
    (hsu : ∀ (s : Shared) (H : Hp) (e : Addr) (oe : Obj) (D0 : Addr) (w : Str) (pn : List (Addr × Obj)), Zc (.ref D0) none oe → (∃ vs, oe.data = .fields vs) → MW D0 w → Room 0 (X.A.deeper (envOfC x sg s.heap.objs.size g cdg)) →
      PSs ((cxOf C8.CX0 X.prog X.w X.K X.mg X.base Ng x sg g cdg X.A X.stack s H C8.E0).nox.suite e ((e, oe) :: pn)) (b₀ :: suite) (upS X.K W0 (fs e D0)))
    (hfs : ∀ (e D0 : Addr) (w : Str) (P : PQ), MW D0 w → P (.str w) → fs e D0 [none, some (.dat (.raw (.ref e))), none, none] { nx := fun _ => False, rt := P } (fun _ _ => False))
    (hmw : ∀ D0 w, MW D0 w → PySem.W.exmOne X.K (.ref D0) (.ref CM) = some true) (hroom : Room 1 X.A) :
    LamX.GivesTo X Ng x sg g cdg [.Try [.Expr (.Call (.Name a p1) [] [] p2) p3] [.ExceptHandler (some (.Name m p4)) (some n) (b₀ :: suite) p5] [] [] p6, .Return (some (.Constant (.str ret) j p7)) p8] a q (TTmet X.K MW ret) := by
  intro f c' s H Q tl act hc h
  have hgl : Gl (cxOf C8.CX0 X.prog X.w X.K X.mg X.base Ng x sg g cdg X.A X.stack s H C8.E0).nox m := hge
  have h0 : (L2.start Ng [V.ref f])[0]? = some (some (V.ref f)) := rfl
  refine ⟨_, pss_cons (ps_try_as (X := (cxOf C8.CX0 X.prog X.w X.K X.mg X.base Ng x sg g cdg X.A X.stack s H C8.E0).nox) (c := .ref CM) (i := 1) (Wout := fun _ _ _ _ => False)
      (tb := fun W D σ H => ∃ Ech : XK, (∀ cls d σ' H', Ech cls d H' → W cls d σ' H') ∧ σ[0]? = some (some (.ref f)) ∧ H c' = some (LamX.CodeO c' q) ∧ tl Ech H (fun _ H' => D.nx σ H'))
      (ts := fun e cls d D σ H => σ.length = 4 → ∃ D0 w, cls = .ref D0 ∧ d = none ∧ MW D0 w ∧ upS X.K W0 (fs e D0) D σ H)
      rfl rfl hNn hN1 hln ⟨hgl, hde, .inl hme⟩ LamX.takes0 (fun W pn xe tk _ => ?_) (fun e oe cls d pn hz hf => ?_)) (pss_one (ps_ret pe_str)), ?_⟩
  · refine ⟨fun pins s' σ H' D I ⟨Ech, hW, h1, h2, h3⟩ => ?_⟩
    have hp := act W pn xe Ech p1 p2 tk hW
    exact (pss_one (ps_expr (pos := p3) hp)).run pins s' σ H' D I ⟨h1, h2, h3⟩
  · refine ⟨fun pins s' σ H' D I ht => ?_⟩
    obtain ⟨D0, w, rfl, rfl, hm, hu⟩ := ht (I.len.trans hl4)
    exact (hsu s H e oe D0 w pn hz hf hm ((hroom.deeper _).mono (Nat.le_refl _))).run pins s' σ H' D I hu
  · refine ⟨fun cls d H' => ∃ D0 w, cls = .ref D0 ∧ d = none ∧ MW D0 w ∧ LamX.Tabs (TBS X.K) H' ∧ ∀ H'', Ev (Cz.all X.K) H' H'' → Q (.str w) H'', fun cls d σ' H' ⟨D0, w, ec, ed, hm, ht, hq⟩ => ?_, h0, hc, h⟩
    subst ec
    subst ed
    refine ⟨true, hmw D0 w hm, fun _ e he hl => ⟨D0, w, rfl, rfl, hm, ?_⟩, fun z => by cases z⟩
    have hl' : σ'.length = 4 := by simpa using hl
    have no : ∀ (i : Nat) (o : OD), ([none, some (SD.dat (.raw (.ref e))), none, none] : MS)[i]? ≠ some (some (SD.own o)) := fun i o hi => by
      match i, hi with
      | 0, hi => cases hi
      | 1, hi => cases hi
      | 2, hi => cases hi
      | 3, hi => cases hi
      | i + 4, hi => simp at hi
    refine ⟨Cz.all X.K, [none, some (.dat (.raw (.ref e))), none, none], _, _, ok_all ht, ⟨by simpa using hl', fun i d hi => ?_, fun i d hi => ?_, fun i o hi => absurd hi (no i o), fun i j o o' b hi => absurd hi (no i o)⟩, hfs e D0 w (fun d => d = .str w) hm rfl, ⟨fun _ _ _ z => z.elim, fun d v H'' hd ev r => ?_, fun _ _ _ z => z.elim, fun _ _ _ z => z.elim, fun _ _ _ _ _ _ z => z.elim⟩⟩
    · match i, hi with
      | 0, hi => cases hi
      | 1, hi =>
        cases hi
        exact ⟨.ref e, List.getElem?_set_self (by omega), .raw _⟩
      | 2, hi => cases hi
      | 3, hi => cases hi
      | i + 4, hi => simp at hi
    · match i, hi with
      | 0, hi => cases hi
      | 1, hi => cases hi
      | 2, hi => cases hi
      | 3, hi => cases hi
      | i + 4, hi => simp at hi
    · subst hd
      cases r
      refine hq H'' ⟨fun a o n w t h => ev.keep a o n (fun q => q.elim w fun ⟨i, o, h, _⟩ => no i o h) t h, ev.thr, ev.die, ev.tab⟩
/-- x(lambda: body) over data -/
def dMet (MW : Addr → Str → Prop) (ret : Str) (fe : DE) : DE := fun δ P _ => fe δ (fun _ => P (.str ret)) (fun x => ∃ C w, x = .own C ∧ MW C w ∧ P (.str w))
theorem pd_met {W : WX} {MW : Addr → Str → Prop} {x a ret : Str} {g c P : Addr} {k : Nat} {pg : Arguments} {bg : List Stmt} {sg : Scope} {dV kV doc pm cdv ct oc : Value} {an od : Option Addr} {osl : Array (Option Value)} {Ng : List Str}
    {params : Arguments} {body : Expr} {scope : Scope} {fe : DE} {p lpos pos : Pos} (hg : Gl X x) (hm : X.mg x = some (.ref g)) (hk : PySem.W.keepIn X.K (.ref g) = true)
    (lk : X.K.lookup g = some ⟨oc, od, .func (PySem.W.fnOf x x pg bg sg dV kV doc pm an cdv ct), osl⟩) (hcg : PySem.W.codeIn X.K cdv x = true) (hb : L2.Binds X.K (PySem.W.fnOf x x pg bg sg dV kV doc pm an cdv ct) [a] []) (Sg : FnScope Ng [a] sg) (hNg : Ng[0]? = some a) (hva : Vis sg a)
    (hG : LamX.GivesTo X Ng x sg g cdv bg a (X.env.qual ++ "<lambda>") (TTmet X.K MW ret))
    (TB : LamX.TabB X.base X.mg c P) (hcode : X.env.code = .ref c) (hmT : (P, X.env.qual ++ "<lambda>") ∈ TBS X.K) (hu : ∀ p ∈ TBS X.K, p.1 = P → p.2 = X.env.qual ++ "<lambda>") (hr : Room (k + 2) X.A) (L : LamX.LamS X.env.scope scope) (hdef : defaultsOf params X.env = ([], []))
    (hbind : ∀ (q : Str) (cl : List (Str × Addr)) (pm cv ctv : Value), bindArgs (PySem.W.kla_fn "<lambda>" q params body scope cl pm cv ctv) ⟨[], []⟩ = pure [])
    (hbody : ∀ (A : Around) (outer : List Env) (s : Shared) (H : Hp) (E : XK) (f c' : Addr), Room k (A.deeper (LamX.lamEnv X scope s.heap.objs.size f c')) → PE (LamX.lamCx X A outer s H E scope f c') body (up X.K (fun c d _ H => E c d H) fe))
    (hdb : (x == ("__debug__" : Str)) = false := by decide) (hd : (a == ("__debug__" : Str)) = false := by decide) (hcd : (a == ("__classdict__" : Str)) = false := by decide) :
    PE X (.Call (.Name x p) [.Lambda params body scope lpos] [] pos) (up X.K W (dMet MW ret fe)) := by
  refine PE_imp (LamX.pe_lamcall (T := TBS X.K) (TT := TTmet X.K MW ret) (t := fun E => up X.K (fun c d _ H => E c d H) fe) hg hm hk lk hcg hb Sg hNg hva hG TB hcode hmT hu hr L hdef hbind hbody hdb hd hcd) fun σ H Q ⟨z, δ, Pd, E, ok, sl, hf, kq, kx⟩ => ?_
  refine ⟨ok.tabs, fun H1 eN T1 => ?_⟩
  have e1 : Ev z H H1 := .ofExtN eN T1
  have ok1 : Ok z H1 := ⟨fun a q => e1.die a q (ok.die a q), fun a q => e1.thr a (ok.there a q), T1⟩
  refine ⟨z, δ, _, _, ok1, sl.evn e1, hf, fun d v H' hp ev r => kq _ _ H' hp (e1.trans ev) (.str _), fun x c' dd H' ⟨C, w, hx, hm, hp⟩ ev r => ?_⟩
  subst hx
  cases r
  exact ⟨C, w, rfl, rfl, hm, (ok1.ev ev).tabs, fun H'' e2 => kq _ _ H'' hp (e1.trans (ev.trans e2.ofAll)) (.str _)⟩
end
end DL

/-! The data layer, part 14: dice: made by a def that returns a new list, kept while a body uses them. -/
namespace DL
open PySem PySem.Spec PyProof.Rows L2

/-! ### a body that ends with a new list -/
def upF (K : PySem.W.Frag) (f : MS → (List D → Prop) → Prop) : TS := fun T σ H => ∃ z δ P, Ok z H ∧ Sm K z H σ δ ∧ f δ P ∧ ∀ ds vs H1, P ds → Ev (z.st σ δ) H H1 → RpAll K z H1 vs ds → ∀ q, H1 q = none → T.rt (.ref q) (upd H1 q (.lst vs))
section
variable {X : Cx} {s : Stmt} {rest : List Stmt} {es : List Expr} {f : DSt} {g : MS → (List D → Prop) → Prop} {fa : DA} {p pos : Pos}
theorem pdf_ret (ha : PA X es (upA X.K W0 fa)) : PSs X [.Return (some (.List es p)) pos] (upF X.K (fun δ P => fa (hid δ) (fun ds => ds.length ≤ sizeLine ∧ P ds) (fun _ => False))) := by
  refine PSs_imp (pss_one (ps_ret (pe_lst ha))) fun T σ H ⟨z, δ, P, ok, sm, hf, q⟩ => ?_
  refine ⟨z.ex σ δ, hid δ, _, _, ok.ex sm, sm.hid, hf, fun ds vs H1 ⟨hz, hp⟩ ev r => ⟨by rw [r.len]; exact hz, fun l hl => q ds vs H1 hp (ev_ex.mp ev).st (exs_base r) l hl⟩, fun _ _ _ _ z => z.elim⟩
theorem pdf_cons (h1 : PS X s (upS X.K W0 f)) (h2 : PSs X rest (upF X.K g)) : PSs X (s :: rest) (upF X.K (fun δ P => f δ { nx := fun δ' => g δ' P, rt := fun _ => False } (fun _ _ => False))) :=
  PSs_imp (pss_cons h1 h2) fun T σ H ⟨z, δ, P, ok, sm, hf, q⟩ => ⟨z, δ, _, _, ok, sm, hf, ⟨fun δ' σ' H' hg o s1 => ⟨z, δ', P, ok_st ok o.ev, s1, hg, fun ds vs H1 hp ev r l hl => q ds vs H1 hp (ev_seq o.ev o.new ev) r l hl⟩, fun _ _ _ z => z.elim, fun _ _ _ z => z.elim, fun _ _ _ z => z.elim, fun _ _ _ _ _ _ z => z.elim⟩⟩
end
/-- the promise of a def that returns new dice -/
def SpDie (K : PySem.W.Frag) (g : List D → Prop) : Sp := fun vs H Q _ => ∃ z ds, Ok (K := K) z H ∧ RpAll K z H vs ds ∧ g ds ∧ ∀ i j k H1, Ev z H H1 → ∀ a, H1 a = none → Q (.ref a) (upd H1 a (.lst [.int i, .int j, .int k]))
theorem die_of {P : Program} {w : World} {K : PySem.W.Frag} {mg : Str → Option Value} {base : Heap} {x : Str} {st : Stmt} {N ps : List Str} {k : Nat} {g : List D → Prop} (F : FD K mg x st ps) (S : FnScope N ps (defScope st)) (len : ∀ ds, g ds → ds.length = ps.length)
    (body : ∀ (f : Addr) (cdv : Value) (A : Around) (outer : List Env) (s : Shared) (H : Hp) (E : XK), Room k (A.deeper (envOfC x (defScope st) s.heap.objs.size f cdv)) →
      ∃ fb, PSs (cxOf CX0 P w K mg base N x (defScope st) f cdv A outer s H E).nox (defBody st) (upF K fb) ∧ ∀ ds, g ds → fb (startM N.length ds) (fun xs => ∃ i j k : Int, xs = [.int i, .int j, .int k])) :
    ∃ f fd, FnOk P w K mg base CX0 (k + 1) f fd ps (SpDie K g) ∧ mg x = some (.ref f) ∧ PySem.W.keepIn K (.ref f) = true ∧ Binds K fd ps [] := by
  obtain ⟨f, fd, hF, hm, hb⟩ := F
  refine ⟨f, fd, hF.ok S (fun vs H Q E ⟨z, ds, _, r, h, _⟩ => r.len.trans (len ds h)) (fun cdv A outer s H vs Q E hr h => ?_), hm, hF.kp, hb⟩
  obtain ⟨fb, hd, hp⟩ := body f cdv A outer s H E hr
  obtain ⟨z, ds, ok, r, h, q⟩ := h
  refine ⟨_, hd, z, startM N.length ds, _, ok, Sm.start r, hp ds h, fun xs vs H1 ⟨i, j, k, hx⟩ ev ra l hl => ?_⟩
  subst hx
  have e : vs = [V.int i, .int j, .int k] := RpAll.of_ints (xs := [i, j, k]) ra
  subst e
  exact q i j k H1 (ev_clean ev) l hl

/-! ### statements where nothing is shut off -/
def upS0 (K : PySem.W.Frag) (W : WX) (f : DSt) : TS := fun T σ H => ∃ δ e E, Ok (Cz.all K) H ∧ Sm K (Cz.all K) H σ δ ∧ f δ e E ∧ Cn K W (Cz.all K) σ δ H e E T
section
variable {X : Cx} {W : WX} {st : Stmt} {sts : List Stmt} {f g : DSt}
theorem pd0_of (h : PS X st (upS X.K W f)) : PS X st (upS0 X.K W f) := PS_imp h fun T σ H ⟨δ, e, E, ok, sm, hf, cn⟩ => ⟨_, δ, e, E, ok, sm, hf, cn⟩
theorem pds0_of (h : PSs X sts (upS X.K W f)) : PSs X sts (upS0 X.K W f) := PSs_imp h fun T σ H ⟨δ, e, E, ok, sm, hf, cn⟩ => ⟨_, δ, e, E, ok, sm, hf, cn⟩
theorem pds0_cons (h1 : PS X st (upS0 X.K W f)) (h2 : PSs X sts (upS0 X.K W g)) : PSs X (st :: sts) (upS0 X.K W (dSeq f g)) :=
  PSs_imp (pss_cons h1 h2) fun T σ H ⟨δ, e, E, ok, sm, hf, cn⟩ => ⟨δ, { e with nx := fun δ' => g δ' e E }, E, ok, sm, hf, ⟨fun δ' σ' H' q o s1 => ⟨δ', e, E, ok_st ok o.ev, s1, q, cn.move o⟩, cn.rt, cn.bk, cn.ct, cn.xx⟩⟩
theorem pds0_for {tg iter : Expr} {body : List Stmt} {fi : DI} {gt : MG} {fb : DSt} {pos : Pos} (hp : PassesOwn (model X.prog X.w) X.A X.env X.xe) (hc : X.calm = true) (hi : PI X tg iter (upI X.K W fi)) (hg : PG X tg (upG X.K gt)) (hb : PSs X body (upS0 X.K W fb)) (hs : ∀ x, foldedSetIterable iter X.env x = pure x := by intro _; rfl) :
    PS X (.For tg iter body [] pos) (upS0 X.K W (dFor fi gt fb)) := by
  refine PS_imp (ps_for hp hc hi hg hb hs) fun T σ H ⟨δ, e, E, ok, sm, hf, cn⟩ => ?_
  refine ⟨(Cz.all X.K).ex σ δ, hid δ, _, _, ok.ex sm, sm.hid, hf, fun ds H1 J p ev it => ?_, cn.kx sm⟩
  have e1 := ev_ex.mp ev
  have ok1 := ok.ev e1
  have sm1 := sm.ev e1
  have cn1 := cn.ev e1
  have it := it ((Cz.all X.K).st σ δ) ⟨rfl, fun _ _ h => h⟩
  refine ⟨fun i m σ' H' => m = ds.length - i ∧ i ≤ ds.length ∧ ∃ δ', Eo (Cz.all X.K) σ δ H1 σ' δ' H' ∧ Sm X.K (Cz.all X.K) H' σ' δ' ∧ dForL gt fb (ds.drop i) δ' e E, ⟨ds.length, by simp, Nat.zero_le _, δ, .refl, sm1, p⟩, ?_⟩
  rintro i m σ2 H2 ⟨rfl, hi, δ2, o2, s2, p2⟩
  by_cases hlt : i < ds.length
  · refine .inr ⟨it.go i H2 o2.ev hlt, fun σ' H' => ∃ δ', Eo (Cz.all X.K) σ δ H1 σ' δ' H' ∧ Sm X.K (Cz.all X.K) H' σ' δ' ∧ dForL gt fb (ds.drop (i + 1)) δ' e E, fun σ' H' q => ⟨ds.length - (i + 1), by omega, rfl, hlt, q⟩, fun x H3 hy => ?_⟩
    obtain ⟨rfl, d, hd, rd⟩ := it.yld i H2 x H3 o2.ev hlt hy
    rw [drop_at hlt hd] at p2
    refine ⟨Cz.all X.K, δ2, d, _, s2, item_now rd o2, p2, fun δ4 σ4 p4 s4 sub => ?_⟩
    have o4 : Eo (Cz.all X.K) σ δ H1 σ4 δ4 H3 := o2.trans (.of .refl sub)
    exact ⟨δ4, _, E, ok_st ok1 o4.ev, s4, p4, ⟨fun δ5 σ5 H5 q o5 s5 => ⟨δ5, o4.trans o5, s5, q⟩, fun d v H' q e5 r => cn1.rt d v H' q (ev_seq o4.ev o4.new e5) r, fun δ5 σ5 H5 q o5 s5 => cn1.nx δ5 σ5 H5 q (o4.trans o5) s5,
      fun δ5 σ5 H5 q o5 s5 => ⟨δ5, o4.trans o5, s5, q⟩, fun x δ' c dd σ' H' q o5 s5 r => cn1.xx x δ' c dd σ' H' q (o4.trans o5) s5 r⟩⟩
  · have e : i = ds.length := by omega
    subst e
    rw [List.drop_length] at p2
    exact .inl ⟨it.stop _ H2 o2.ev rfl, cn1.nx δ2 σ2 H2 p2 o2 s2⟩
end

/-! ### name = dice(..); rest -/
mutual
theorem Rp.plain {K : PySem.W.Frag} {c c' : Cz K} {H : Hp} (w : ∀ a, There H a → ¬ c.n a → ¬ c'.n a) : ∀ {d : D} {v : V} {e : PyData}, Rp K c H v d → pyOf d = some e → Rp K c' H v d
  | .non, _, _, h, q => by cases h; exact .non
  | .bl b, _, _, h, q => by cases h; exact .bl b
  | .int i, _, _, h, q => by cases h; exact .int i
  | .str x, _, _, h, q => by cases h; exact .str x
  | .tup ds, _, e, h, q => by
    cases h with
    | tup a r =>
      cases y : pyAll ds with
      | none => rw [pyOf, y] at q; cases q
      | some es => exact .tup (a.elim (fun a => .inl ⟨a.1, w _ ⟨_, a.1, fun _ q => (by cases q)⟩ a.2⟩) .inr) (RpAll.plain w r y)
  | .lst ds, _, e, h, q => by
    cases h with
    | lst a n r =>
      cases y : pyAll ds with
      | none => rw [pyOf, y] at q; cases q
      | some es => exact .lst a (w _ ⟨_, a, fun _ q => (by cases q)⟩ n) (RpAll.plain w r y)
  | .ins _ _ _, _, _, _, q => by cases q
  | .dic _ _, _, _, _, q => by cases q
  | .die, _, _, _, q => by cases q
  | .raw _, _, _, _, q => by cases q
  | .scr _, _, _, _, q => by cases q
theorem RpAll.plain {K : PySem.W.Frag} {c c' : Cz K} {H : Hp} (w : ∀ a, There H a → ¬ c.n a → ¬ c'.n a) : ∀ {ds : List D} {vs : List V} {es : List PyData}, RpAll K c H vs ds → pyAll ds = some es → RpAll K c' H vs ds
  | [], _, _, h, q => by cases h; exact .nil
  | d :: ds, _, es, h, q => by
    cases h with
    | cons a b =>
      cases y : pyOf d with
      | none => rw [pyAll, y] at q; cases q
      | some p =>
        cases y2 : pyAll ds with
        | none => rw [pyAll, y, y2] at q; cases q
        | some ps => exact .cons (Rp.plain w a y) (RpAll.plain w b y2)
end
mutual
/-- where there are no dice, no data speak of them -/
theorem Rp.nodie {K : PySem.W.Frag} {c c' : Cz K} {H : Hp} (z0 : c.z = none) (w : ∀ a, There H a → ¬ c.n a → ¬ c'.n a) : ∀ {d : D} {v : V}, Rp K c H v d → Rp K c' H v d
  | .non, _, h => by cases h; exact .non
  | .bl b, _, h => by cases h; exact .bl b
  | .int i, _, h => by cases h; exact .int i
  | .str x, _, h => by cases h; exact .str x
  | .tup ds, _, h => by
    cases h with
    | tup a q => exact .tup (a.elim (fun h => .inl ⟨h.1, w _ ⟨_, h.1, fun _ q => (by cases q)⟩ h.2⟩) .inr) (RpAll.nodie z0 w q)
  | .lst ds, _, h => by
    cases h with
    | lst a n q => exact .lst a (w _ ⟨_, a, fun _ q => (by cases q)⟩ n) (RpAll.nodie z0 w q)
  | .ins C ks ds, _, h => by
    cases h with
    | ins a n l q => exact .ins a (w _ ⟨_, a, fun _ q => (by cases q)⟩ n) l (RpAll.nodie z0 w q)
  | .dic ks ds, _, h => by
    cases h with
    | dic a n l q => exact .dic a (w _ ⟨_, a, fun _ q => (by cases q)⟩ n) l (RpAll.nodie z0 w q)
  | .die, _, h => by
    cases h with
    | die a => rw [z0] at a; cases a
  | .raw v, _, h => by cases h; exact .raw v
  | .scr ns, _, h => by
    cases h with
    | scr a => exact .scr (a.elim (fun h => .inl ⟨h.1, w _ (rd_there h.1) h.2⟩) .inr)
theorem RpAll.nodie {K : PySem.W.Frag} {c c' : Cz K} {H : Hp} (z0 : c.z = none) (w : ∀ a, There H a → ¬ c.n a → ¬ c'.n a) : ∀ {ds : List D} {vs : List V}, RpAll K c H vs ds → RpAll K c' H vs ds
  | [], _, h => by cases h; exact .nil
  | d :: ds, _, h => by
    cases h with
    | cons a b => exact .cons (Rp.nodie z0 w a) (RpAll.nodie z0 w b)
end
/-- plain data, or the script -/
def isScr : D → Bool
  | .scr _ => true
  | _ => false
def plD (d : D) : Bool := (pyOf d).isSome || isScr d
theorem Rp.plB {K : PySem.W.Frag} {c c' : Cz K} {H : Hp} (w : ∀ a, There H a → ¬ c.n a → ¬ c'.n a) {d : D} {v : V} (h : Rp K c H v d) (q : plD d = true) : Rp K c' H v d := by
  unfold plD at q
  rcases Bool.or_eq_true_iff.mp q with q | q
  · obtain ⟨e, he⟩ := Option.isSome_iff_exists.mp q
    exact h.plain w he
  · cases d with
    | scr ns =>
      cases h with
      | scr a => exact .scr (a.elim (fun h => .inl ⟨h.1, w _ (rd_there h.1) h.2⟩) .inr)
    | _ => cases q
def keep1 : Option SD → Option SD
  | some (.dat d) => if plD d = true then some (.dat d) else none
  | _ => none
def keepS (δ : MS) : MS := δ.map keep1
def AllDat (δ : MS) : Prop := ∀ (i : Nat) (s : SD), δ[i]? = some (some s) → ∃ d, s = .dat d
theorem keepS_at {δ : MS} {i : Nat} {s : SD} (h : (keepS δ)[i]? = some (some s)) : ∃ d, s = .dat d ∧ δ[i]? = some (some (SD.dat d)) ∧ plD d = true := by
  unfold keepS at h
  rw [List.getElem?_map] at h
  cases q : δ[i]? with
  | none => rw [q] at h; cases h
  | some x =>
    rw [q] at h
    cases x with
    | none => cases h
    | some y =>
      cases y with
      | dat d =>
        have h' : (if plD d = true then some (SD.dat d) else none) = some s := Option.some.inj h
        by_cases hp : plD d = true
        · rw [if_pos hp] at h'
          cases h'
          exact ⟨d, rfl, rfl, hp⟩
        · rw [if_neg hp] at h'
          cases h'
      | tnt d => cases h
      | own o => cases h
/-- name = dice(..); the rest with the dice, of whose slots the plain ones stay -/
def dDice (i : Nat) (gd : List D → Prop) (fa : DA) (fr : DSt) : DSt := fun δ e E => AllDat δ ∧ fa (hid δ) (fun ds => gd ds ∧ fr (δ.set i (some (.dat .die))) { nx := fun δ' => e.nx (keepS δ'), rt := fun d => (∃ p, pyOf d = some p) ∧ e.rt d } (fun _ _ => False)) (fun _ => False)
theorem pds0_dice {X : Cx} {i k : Nat} {x y : Str} {f : Addr} {fd : FuncData} {ps : List Str} {gd : List D → Prop} {fa : DA} {fr : DSt} {rest : List Stmt} {e : Expr} {es : List Expr} {p cpos pos' pos : Pos} (hN : X.N.Nodup) (hi : X.N[i]? = some x) (hx : Loc X.env.scope x)
    (F : FnOk X.prog X.w X.K X.mg X.base CX0 k f fd ps (SpDie X.K gd)) (hr : Room k X.A) (hm : X.mg y = some (.ref f)) (hk : PySem.W.keepIn X.K (.ref f) = true) (hb : Binds X.K fd ps []) (ha : PA X (e :: es) (upA X.K W0 fa)) (hrest : PSs X rest (upS X.K W0 fr))
    (hg : Gl X y := by rfl) (hdb : (y == ("__debug__" : Str)) = false := by decide) (he : starEach (e :: es) X.env = (false, eval e X.env) :: starEach es X.env := by rfl) (hpl : (backTo cpos (starEach es X.env)).any (·.1) = false := by rfl)
    (hs : swapsWith (.Call (.Name y p) (e :: es) [] cpos) (some (.Name x pos')) pos.line X.env = pure false := by rfl) (hf : X.fn x = true ∨ X.env.scope.names.lookup x = some .local := by first | exact .inl rfl | exact .inr rfl | assumption) :
    PSs X (.Assign [.Name x pos'] (.Call (.Name y p) (e :: es) [] cpos) pos :: rest) (upS0 X.K W0 (dDice i gd fa fr)) := by
  have a1 := ps_set (pos := pos) (pos' := pos') hN hi hx (pe_call (p := p) (pos := cpos) F hr hg hm hk hb .nil pass0 ha hdb he hpl) hs hf
  refine PSs_imp (pss_cons a1 hrest) fun T σ H ⟨δ, e, E, ok, sm, ⟨hall, hfa⟩, cn⟩ => ?_
  have noO : ∀ (j : Nat) (o : OD), δ[j]? ≠ some (some (SD.own o)) := fun j o h => by
    obtain ⟨d, e⟩ := hall j _ h
    cases e
  have noA : ∀ b, ¬ OwnA σ δ b := fun b ⟨j, o, h, _⟩ => noO j o h
  refine ⟨(Cz.all X.K).ex σ δ, hid δ, _, _, ok.ex sm, sm.hid, hfa, fun ds vs H1 ⟨hgd, hfr⟩ ev r => ?_, fun _ _ _ _ z => z.elim⟩
  have e1 := ev_ex.mp ev
  show SpDie X.K gd (vs ++ []) H1 _ E0
  rw [List.append_nil]
  refine ⟨(Cz.all X.K).ex σ δ, ds, (ok.ex sm).ev ev, r, hgd, fun n0 n1 n2 H2 ev2 a hq => ?_⟩
  have e2 := e1.trans (ev_ex.mp ev2)
  have sm2 := sm.ev e2
  have ok2 := ok.ev e2
  let z' : Cz X.K := ⟨some a, fun b => b = a, fun b h => (Option.some.inj h).symm, fun _ => False, fun _ h => h.elim⟩
  have e3 : Ev z' H2 (upd H2 a (.lst [V.int n0, .int n1, .int n2])) := .new hq
  have noS : ∀ (j : Nat) (s : SD), (δ.set i (some (SD.dat .die)))[j]? = some (some s) → ∃ d, s = .dat d := fun j s h => by
    rcases set_at h with ⟨_, e, _⟩ | ⟨_, h⟩
    · cases e
      exact ⟨_, rfl⟩
    · exact hall j s h
  have noA' : ∀ b, ¬ OwnA (σ.set i (some (V.ref a))) (δ.set i (some (SD.dat .die))) b := fun b ⟨j, o, h, _⟩ => by
    obtain ⟨d, e⟩ := noS j _ h
    cases e
  have ok' : Ok z' (upd H2 a (.lst [V.int n0, .int n1, .int n2])) := ⟨fun b q => ⟨n0, n1, n2, by rw [← Option.some.inj q, upd_same]⟩, fun b (q : b = a) => ⟨.lst [V.int n0, .int n1, .int n2], by rw [q, upd_same], fun _ w => (by cases w)⟩, (LamX.Tabs.ext ok2.tabs fun b u e => by rw [upd_ne (ne_of_none e hq)]; exact e)⟩
  have sm' : Sm X.K z' (upd H2 a (.lst [V.int n0, .int n1, .int n2])) (σ.set i (some (V.ref a))) (δ.set i (some (SD.dat .die))) := by
    refine ⟨by simp [sm.len], fun j d h => ?_, fun j d h => ?_, fun j o h => ?_, fun j j' o o' b h => ?_⟩
    · rcases set_at h with ⟨rfl, e, hl⟩ | ⟨e, h⟩
      · cases e
        exact ⟨.ref a, List.getElem?_set_self (by rw [sm.len]; exact hl), .die rfl⟩
      · obtain ⟨v, hv, rv⟩ := sm2.dat j d h
        exact ⟨v, by rw [List.getElem?_set_ne e]; exact hv, (rv.nodie (c := (Cz.all X.K).ex σ δ) (c' := z'.ex _ _) rfl fun b ⟨o, eo, _⟩ _ (q : b = a ∨ OwnA _ _ b) => q.elim (fun q => by rw [q, hq] at eo; cases eo) (noA' b)).evn (ev_ex.mpr e3)⟩
    · obtain ⟨d', e⟩ := noS j _ h
      cases e
    · obtain ⟨d', e⟩ := noS j _ h
      cases e
    · obtain ⟨d', e⟩ := noS j _ h
      cases e
  have back : ∀ {σ' : L2.St} {δ' : MS} {H' : Hp}, Ev (z'.st (σ.set i (some (V.ref a))) (δ.set i (some (SD.dat .die)))) (upd H2 a (.lst [V.int n0, .int n1, .int n2])) H' → Ev (Cz.all X.K) H H' := fun {σ' δ' H'} q =>
    ⟨fun b o _ _ t h => by
      have h2 := e2.keep b o (fun q => by cases q) (fun q => q) t h
      have nb : b ≠ a := ne_of_none h2 hq
      exact q.keep b o (fun q => nb (Option.some.inj q).symm) (fun q => q.elim id (noA' b)) t (by rw [upd_ne nb]; exact h2), fun b h => q.thr b (e3.thr b (e2.thr b h)), fun b h => (by cases h), fun _ h => q.tab (fun b hb => ⟨n0, n1, n2, by rw [← Option.some.inj hb, upd_same]⟩) (LamX.Tabs.ext (e2.tab (fun b q => by cases q) h) fun b u e => by rw [upd_ne (ne_of_none e hq)]; exact e)⟩
  refine ⟨z', _, _, _, ok', sm', hfr, ⟨fun δ' σ' H' q o s => ?_, fun d v H' ⟨⟨pd, hp⟩, q⟩ ev3 r3 => ?_, fun _ _ _ z => z.elim, fun _ _ _ z => z.elim, fun _ _ _ _ _ _ z => z.elim⟩⟩
  · have noK : ∀ b, ¬ OwnA σ' (keepS δ') b := fun b ⟨j, o, h, _⟩ => by
      obtain ⟨d, e, _⟩ := keepS_at h
      cases e
    have noKI : ∀ b, ¬ OwnI σ' (keepS δ') b := fun b ⟨j, C, ks, ds, h, _⟩ => by
      obtain ⟨d, e, _⟩ := keepS_at h
      cases e
    have eo : Eo (Cz.all X.K) σ δ H σ' (keepS δ') H' := ⟨(back (σ' := σ') (δ' := δ') o.ev).st, fun b h => absurd h (noK b), fun b h => absurd h (noKI b)⟩
    refine cn.nx (keepS δ') σ' H' q eo ⟨by simp [keepS, s.len], fun j d h => ?_, fun j d h => ?_, fun j w h => ?_, fun j j' w w' b h => ?_⟩
    · obtain ⟨d', e, h1, hp⟩ := keepS_at h
      cases e
      obtain ⟨v, hv, rv⟩ := s.dat j d h1
      exact ⟨v, hv, rv.plB (c := z'.ex σ' δ') (c' := (Cz.all X.K).ex σ' (keepS δ')) (fun b _ _ (q : False ∨ OwnA σ' (keepS δ') b) => q.elim id (noK b)) hp⟩
    · obtain ⟨d', e, _⟩ := keepS_at h
      cases e
    · obtain ⟨d', e, _⟩ := keepS_at h
      cases e
    · obtain ⟨d', e, _⟩ := keepS_at h
      cases e
  · exact cn.rt d v H' q (back (σ' := σ) (δ' := δ) ev3).st (r3.plain (c := z') (c' := Cz.all X.K) (fun b _ _ q => q) hp)
end DL
namespace DL
open PySem PySem.Spec PyProof.Rows L2
/-- name = [..] on one line, reading own lists -/
theorem pds_setLcS {X : Cx} {W : WX} {elt tg iter : Expr} {ifs : List Expr} {scope : Scope} {own : List (Str × Nat)} {pos : Pos} {fi : DI} {g : TG} {gd : DG} {ft : DT} {fe : DE} {i : Nat} {y : Str} {py spos : Pos} (hc : X.calm = true) (hN : X.N.Nodup) (hy : X.N[i]? = some y) (hyl : X.env.scope.names.lookup y = some .local)
    (hsw : swapsWith (.ListComp elt [⟨tg, iter, ifs, 0⟩] scope pos) (some (.Name y py)) spos.line X.env = pure true) (hi : PI X tg iter (upI X.K W fi)) (ok : BlkOk X.N X.env.scope scope own)
    (hg : ∀ (s : Shared) (H : Hp) (C : Addr) (cl : List (Str × Addr)) (fp : List Addr), PG (X.blk s H scope (compEnvC scope cl C X.env) fp) tg g) (hw : TgW X.K g gd (own.map (·.2)))
    (ht : ∀ (s : Shared) (H : Hp) (C : Addr) (cl : List (Str × Addr)) (fp : List Addr), PTs (X.blk s H scope (compEnvC scope cl C X.env) fp) ifs (upT X.K W0 ft))
    (he : ∀ (s : Shared) (H : Hp) (C : Addr) (cl : List (Str × Addr)) (fp : List Addr), PE (X.blk s H scope (compEnvC scope cl C X.env) fp) elt (up X.K W0 fe)) (hs : ∀ x, foldedSetIterable iter X.env x = pure x := by intro _; rfl) :
    PS X (.Assign [.Name y py] (.ListComp elt [⟨tg, iter, ifs, 0⟩] scope pos) spos) (upS X.K W (dAsgS (dLc fi gd (own.map (·.2)) ft fe) i)) :=
  PS_imp (ps_setLc hc hN hy hyl hsw hi ok hg ht he hs) fun T σ H ⟨z, δ, e, E, ok, sm, hf, cn⟩ => by
    refine lc_up hw (run_shw ok sm cn hf fun d v H' p ev ok1 sm1 cn1 r1 => ?_)
    exact cn1.nx _ _ H' p (.of .refl (subO_set (fun ds e => by cases e))) (sm1.setT r1 i)
end DL

/-! The data layer, part 15: isinstance that computes; comprehensions as plain maps. -/
namespace DL
open PySem PySem.Spec PyProof.Rows L2

def tyN : D → Option String
  | .non => some "NoneType"
  | .bl _ => some "bool"
  | .int _ => some "int"
  | .str _ => some "str"
  | .tup _ => some "tuple"
  | .lst _ => some "list"
  | .dic _ _ => some "dict"
  | _ => none
theorem tyN_ok {K : PySem.W.Frag} {x : D} {a : String} (h : tyN x = some a) : DTy K x (.type a) := by
  cases x <;> cases h
  · exact .non
  · exact .bl _
  · exact .int _
  · exact .str _
  · exact .tup _
  · exact .lst _
  · exact .dic _ _
def kitP (r : Option Bool) (P : PQ) : Prop := match r with
  | some b => P (.bl b)
  | none => False
/-- isinstance(x, t), t a built-in class -/
def dIsiB : List D → PQ → Prop
  | [x, .raw (.ty b)], P => (match tyN x with
    | some a => kitP (kitB a b) P
    | none => False)
  | _, _ => False
theorem cd_isiB {K : PySem.W.Frag} : CallD K (rIsi K) dIsiB := by
  intro z H vs ds P Q ok r h kq
  unfold dIsiB at h
  split at h
  · rename_i x b
    cases hx : tyN x with
    | none => rw [hx] at h; exact h.elim
    | some a =>
      rw [hx] at h
      cases hk : kitB a b with
      | none => simp only [hk, kitP] at h
      | some c =>
        simp only [hk, kitP] at h
        exact cd_isi z H vs _ P Q ok r ⟨x, .ty b, _, _, c, rfl, .ty b, tyN_ok hx, kit_ty hk, h⟩ kq
  · exact h.elim
/-- what isinstance(x, C) asks of K, C a class of the text -/
structure KitC (K : PySem.W.Frag) (C : Addr) : Prop where
  ins : InsOk K C
  own : PySem.W.kitOne K (.ref C) (.ref C) = some true
  ty : ∀ a ∈ ["NoneType", "bool", "int", "str", "tuple", "list", "dict"], PySem.W.kitOne K (.type a) (.ref C) = some false
def dIsiC (C : Addr) : List D → PQ → Prop
  | [.ins C1 _ _, .raw (.ref C2)], P => C1 = C ∧ C2 = C ∧ P (.bl true)
  | [x, .raw (.ref C2)], P => C2 = C ∧ (tyN x).isSome = true ∧ P (.bl false)
  | _, _ => False
theorem tyN_mem {x : D} {a : String} (h : tyN x = some a) : a ∈ ["NoneType", "bool", "int", "str", "tuple", "list", "dict"] := by
  cases x <;> cases h <;> simp
theorem cd_isiC {K : PySem.W.Frag} {C : Addr} (k : KitC K C) : CallD K (rIsi K) (dIsiC C) := by
  intro z H vs ds P Q ok r h kq
  unfold dIsiC at h
  split at h
  · obtain ⟨rfl, rfl, h⟩ := h
    exact cd_isi z H vs _ P Q ok r ⟨_, _, _, _, true, rfl, .own _, .ins _ _ k.ins, k.own, h⟩ kq
  · obtain ⟨rfl, hs, h⟩ := h
    obtain ⟨a, ha⟩ := Option.isSome_iff_exists.mp hs
    exact cd_isi z H vs _ P Q ok r ⟨_, _, _, _, false, rfl, .own _, tyN_ok ha, k.ty a (tyN_mem ha), h⟩ kq
  · exact h.elim

/-! ### comprehensions, loops -/
/-- each step gives what f tells -/
theorem lcD_map {step : D → (Option D → Prop) → Prop} {f : D → Option D} {Kf : List D → Prop} : ∀ (xs acc : List D), (∀ x ∈ xs, ∀ k, k (f x) → step x k) → acc.length + xs.length ≤ sizeLine → Kf (acc ++ xs.filterMap f) → lcD step xs acc Kf
  | [], acc, _, _, h => by simpa [lcD] using h
  | x :: xs, acc, hs, hl, h => by
    refine ⟨by rw [List.length_cons] at hl; omega, hs x List.mem_cons_self _ ?_⟩
    cases hx : f x with
    | none =>
      refine lcD_map xs acc (fun y hy => hs y (List.mem_cons_of_mem _ hy)) (by rw [List.length_cons] at hl; omega) ?_
      rwa [List.filterMap_cons_none hx] at h
    | some y =>
      refine lcD_map xs (acc ++ [y]) (fun y hy => hs y (List.mem_cons_of_mem _ hy)) (by rw [List.length_cons] at hl; rw [List.length_append, List.length_singleton]; omega) ?_
      rw [List.filterMap_cons_some hx] at h
      rwa [List.append_assoc, List.singleton_append]
/-- each step gives one, over a mapped list -/
theorem lcD_mapL {α : Type} {step : D → (Option D → Prop) → Prop} {g : α → D} {f : α → D} {Kf : List D → Prop} (xs : List α) (hs : ∀ x ∈ xs, ∀ k, k (some (f x)) → step (g x) k) (hl : xs.length ≤ sizeLine) (h : Kf (xs.map f)) : lcD step (xs.map g) [] Kf := by
  have : ∀ (xs : List α) (acc : List D), (∀ x ∈ xs, ∀ k, k (some (f x)) → step (g x) k) → acc.length + xs.length ≤ sizeLine → Kf (acc ++ xs.map f) → lcD step (xs.map g) acc Kf := by
    intro xs
    induction xs with
    | nil => intro acc _ _ h; simpa [lcD] using h
    | cons x xs ih =>
      intro acc hs hl h
      rw [List.length_cons] at hl
      refine ⟨by omega, hs x List.mem_cons_self _ ?_⟩
      refine ih (acc ++ [f x]) (fun y hy => hs y (List.mem_cons_of_mem _ hy)) (by rw [List.length_append, List.length_singleton]; omega) ?_
      rw [List.append_assoc, List.singleton_append]
      exact h
  exact this xs [] hs (by simpa using hl) (by simpa using h)
/-- each step gives one or none, over a mapped list -/
theorem lcD_filL {α : Type} {step : D → (Option D → Prop) → Prop} {g : α → D} {f : α → Option D} {Kf : List D → Prop} (xs : List α) (hs : ∀ x ∈ xs, ∀ k, k (f x) → step (g x) k) (hl : xs.length ≤ sizeLine) (h : Kf (xs.filterMap f)) : lcD step (xs.map g) [] Kf := by
  have : ∀ (xs : List α) (acc : List D), (∀ x ∈ xs, ∀ k, k (f x) → step (g x) k) → acc.length + xs.length ≤ sizeLine → Kf (acc ++ xs.filterMap f) → lcD step (xs.map g) acc Kf := by
    intro xs
    induction xs with
    | nil => intro acc _ _ h; simpa [lcD] using h
    | cons x xs ih =>
      intro acc hs hl h
      rw [List.length_cons] at hl
      refine ⟨by omega, hs x List.mem_cons_self _ ?_⟩
      cases hx : f x with
      | none =>
        rw [List.filterMap_cons_none hx] at h
        exact ih acc (fun y hy => hs y (List.mem_cons_of_mem _ hy)) (by omega) h
      | some y =>
        rw [List.filterMap_cons_some hx] at h
        refine ih (acc ++ [y]) (fun y hy => hs y (List.mem_cons_of_mem _ hy)) (by rw [List.length_append, List.length_singleton]; omega) ?_
        rwa [List.append_assoc, List.singleton_append]
  exact this xs [] hs (by simpa using hl) (by simpa using h)
/-- each step gives one or ends in R -/
theorem lcD_orL {α : Type} {step : D → (Option D → Prop) → Prop} {g : α → D} {f : α → Option D} {Kf : List D → Prop} {R : Prop} (xs : List α) (hs : ∀ x ∈ xs, ∀ k : Option D → Prop, (match f x with | some y => k (some y) | none => R) → step (g x) k) (hl : xs.length ≤ sizeLine)
    (h : match xs.mapM f with | some ys => Kf ys | none => R) : lcD step (xs.map g) [] Kf := by
  have : ∀ (xs : List α) (acc : List D), (∀ x ∈ xs, ∀ k : Option D → Prop, (match f x with | some y => k (some y) | none => R) → step (g x) k) → acc.length + xs.length ≤ sizeLine → (match xs.mapM f with | some ys => Kf (acc ++ ys) | none => R) → lcD step (xs.map g) acc Kf := by
    intro xs
    induction xs with
    | nil => intro acc _ _ h; simpa [lcD] using h
    | cons x xs ih =>
      intro acc hs hl h
      rw [List.length_cons] at hl
      refine ⟨by omega, hs x List.mem_cons_self _ ?_⟩
      rw [List.mapM_cons] at h
      cases hx : f x with
      | none =>
        rw [hx] at h
        exact h
      | some y =>
        rw [hx] at h
        refine ih (acc ++ [y]) (fun y hy => hs y (List.mem_cons_of_mem _ hy)) (by rw [List.length_append, List.length_singleton]; omega) ?_
        cases hm : xs.mapM f with
        | none =>
          rw [hm] at h
          exact h
        | some ys =>
          rw [hm] at h
          have h' : Kf (acc ++ y :: ys) := h
          show Kf (acc ++ [y] ++ ys)
          rwa [List.append_assoc, List.singleton_append]
  exact this xs [] hs (by simpa using hl) (by
    cases hm : xs.mapM f with
    | none => rw [hm] at h; exact h
    | some ys => rw [hm] at h; simpa using h)
end DL

/-! The data layer, part 16: readings as equations, for simp. -/
namespace DL
open PySem PySem.Spec PyProof.Rows L2

theorem kb1 : kitB "int" "int" = some true := by decide +kernel
theorem kb2 : kitB "int" "bool" = some false := by decide +kernel
theorem kb3 : kitB "int" "str" = some false := by decide +kernel
theorem kb4 : kitB "int" "tuple" = some false := by decide +kernel
theorem kb5 : kitB "int" "list" = some false := by decide +kernel
theorem kb6 : kitB "str" "int" = some false := by decide +kernel
theorem kb7 : kitB "str" "bool" = some false := by decide +kernel
theorem kb8 : kitB "str" "str" = some true := by decide +kernel
theorem kb9 : kitB "str" "tuple" = some false := by decide +kernel
theorem kb10 : kitB "str" "list" = some false := by decide +kernel
theorem kb11 : kitB "tuple" "int" = some false := by decide +kernel
theorem kb12 : kitB "tuple" "bool" = some false := by decide +kernel
theorem kb13 : kitB "tuple" "str" = some false := by decide +kernel
theorem kb14 : kitB "tuple" "tuple" = some true := by decide +kernel
theorem kb15 : kitB "tuple" "list" = some false := by decide +kernel
theorem kb16 : kitB "list" "int" = some false := by decide +kernel
theorem kb17 : kitB "list" "bool" = some false := by decide +kernel
theorem kb18 : kitB "list" "str" = some false := by decide +kernel
theorem kb19 : kitB "list" "tuple" = some false := by decide +kernel
theorem kb20 : kitB "list" "list" = some true := by decide +kernel
theorem kb21 : kitB "NoneType" "int" = some false := by decide +kernel
theorem kb22 : kitB "NoneType" "bool" = some false := by decide +kernel
theorem kb23 : kitB "NoneType" "str" = some false := by decide +kernel
theorem kb24 : kitB "NoneType" "tuple" = some false := by decide +kernel
theorem kb25 : kitB "NoneType" "list" = some false := by decide +kernel
theorem kb26 : kitB "bool" "int" = some true := by decide +kernel
theorem kb27 : kitB "bool" "bool" = some true := by decide +kernel
theorem kb28 : kitB "bool" "str" = some false := by decide +kernel
theorem kb29 : kitB "bool" "tuple" = some false := by decide +kernel
theorem kb30 : kitB "bool" "list" = some false := by decide +kernel
theorem kb31 : kitB "dict" "int" = some false := by decide +kernel
theorem kb32 : kitB "dict" "bool" = some false := by decide +kernel
theorem kb33 : kitB "dict" "str" = some false := by decide +kernel
theorem kb34 : kitB "dict" "tuple" = some false := by decide +kernel
theorem kb35 : kitB "dict" "list" = some false := by decide +kernel

theorem dec_vstr {a b : Str} : decide (V.str a = V.str b) = decide (a = b) := by
  rw [Bool.eq_iff_iff]; simp
theorem dec_vint {a b : Int} : decide (V.int a = V.int b) = decide (a = b) := by
  rw [Bool.eq_iff_iff]; simp
theorem eqv_str {a b : Str} : PyData.eqv (.str a) (.str b) = decide (a = b) := by
  rw [Bool.eq_iff_iff]; simp [PyData.eqv]
theorem eqv_int {a b : Int} : PyData.eqv (.int a) (.int b) = decide (a = b) := by
  rw [Bool.eq_iff_iff]; simp [PyData.eqv]
theorem eq_strI {a b : Str} {P : PQ} : dEq (.str a) (.str b) P ↔ P (.bl (decide (a = b))) := by
  refine ⟨fun h => ?_, dEq_str⟩
  rcases h with ⟨v, u, e1, e2, _, p⟩ | ⟨x, y, e1, e2, _, _, p⟩
  · cases e1; cases e2
    rwa [dec_vstr] at p
  · cases e1; cases e2
    rwa [eqv_str] at p
theorem eq_intI {a b : Int} {P : PQ} : dEq (.int a) (.int b) P ↔ P (.bl (decide (a = b))) := by
  refine ⟨fun h => ?_, dEq_int⟩
  rcases h with ⟨v, u, e1, e2, _, p⟩ | ⟨x, y, e1, e2, _, _, p⟩
  · cases e1; cases e2
    rwa [dec_vint] at p
  · cases e1; cases e2
    rwa [eqv_int] at p
theorem ne_strI {a b : Str} {P : PQ} : dNe (.str a) (.str b) P ↔ P (.bl (!decide (a = b))) := eq_strI.trans ⟨fun ⟨_, e, p⟩ => by cases e; exact p, fun p => ⟨_, rfl, p⟩⟩
theorem ne_intI {a b : Int} {P : PQ} : dNe (.int a) (.int b) P ↔ P (.bl (!decide (a = b))) := eq_intI.trans ⟨fun ⟨_, e, p⟩ => by cases e; exact p, fun p => ⟨_, rfl, p⟩⟩
theorem vOf_strs : ∀ {ys : List Str} {us : List V}, (ys.map D.str).map vOf = us.map some → us = ys.map V.str
  | [], [], _ => rfl
  | [], _ :: _, h => by cases h
  | _ :: _, [], h => by cases h
  | y :: ys, u :: us, h => by
    simp only [List.map_cons, List.cons.injEq] at h
    rw [List.map_cons, vOf_strs h.2]
    congr 1
    exact (Option.some.inj h.1).symm
theorem inV_strs (x : Str) : ∀ ys : List Str, inV (.str x) (ys.map V.str) = decide (x ∈ ys)
  | [] => by simp [inV]
  | y :: ys => by
    have := inV_strs x ys
    unfold inV at this ⊢
    rw [List.map_cons, List.any_cons, this, Bool.eq_iff_iff]
    simp only [eqV, Bool.or_eq_true, beq_iff_eq, decide_eq_true_eq, List.mem_cons]
    exact ⟨fun h => h.imp Eq.symm id, fun h => h.imp Eq.symm id⟩
theorem flat_strs : ∀ ys : List Str, (ys.map V.str).all flatV = true
  | [] => rfl
  | _ :: ys => flat_strs ys
/-- x in a tuple of texts -/
theorem in_strs {x : Str} {ys : List Str} {k : Bool → Prop} : dInB (.str x) (.tup (ys.map D.str)) k ↔ k (decide (x ∈ ys)) := by
  refine ⟨fun h => ?_, fun h => .inr (.inl ⟨_, _, ys.map V.str, rfl, rfl, by simp [vOf], rfl, flat_strs ys, by rwa [inV_strs]⟩)⟩
  rcases h with ⟨c, s, _, e, _⟩ | ⟨v, zs, us, e1, e2, e3, _, _, p⟩ | ⟨zs, _, _, e, _⟩
  · cases e
  · cases e1; cases e2
    rw [vOf_strs e3] at p
    rwa [inV_strs] at p
  · cases e
theorem in_str2 {x a b : Str} {k : Bool → Prop} : dInB (.str x) (.tup [.str a, .str b]) k ↔ k (decide (x = a ∨ x = b)) := by
  have := in_strs (x := x) (ys := [a, b]) (k := k)
  simp only [List.map_cons, List.map_nil, List.mem_cons, List.not_mem_nil, or_false] at this
  exact this
theorem sg_inj {c d : Nat} (h : sg c = sg d) : c = d := by
  unfold sg at h
  simpa using h
/-- a sign in a text -/
theorem in_sg {c : Nat} {s : Str} {k : Bool → Prop} : dInB (.str (sg c)) (.str s) k ↔ k (decide (c ∈ s.cps.toList)) := by
  refine ⟨fun h => ?_, fun h => .inl ⟨c, s, rfl, rfl, h⟩⟩
  rcases h with ⟨d, t, e1, e2, p⟩ | ⟨v, zs, us, _, e2, _⟩ | ⟨zs, _, _, e, _⟩
  · cases e2
    have := sg_inj (D.str.inj e1)
    subst this
    exact p
  · cases e2
  · cases e
theorem dAll_map {α : Type} {xs : List α} {p : α → Bool} {R : PQ} (h : R (.bl (xs.all p))) : dAll [.lst (xs.map fun x => D.bl (p x))] R := ⟨xs.map p, by simp, by simpa [List.all_map] using h⟩
theorem dAny_map {α : Type} {xs : List α} {p : α → Bool} {R : PQ} (h : R (.bl (xs.any p))) : dAny [.lst (xs.map fun x => D.bl (p x))] R := ⟨xs.map p, by simp, by simpa [List.any_map] using h⟩

/-! ### == of what is built from texts and numbers -/
theorem pyAll_map {α : Type} {f : α → D} {g : α → PyData} (h : ∀ x, pyOf (f x) = some (g x)) : ∀ xs : List α, pyAll (xs.map f) = some (xs.map g)
  | [] => rfl
  | x :: xs => by rw [List.map_cons, pyAll, h, pyAll_map h xs]; rfl
def kP : Key → PyData
  | .inl i => .int i
  | .inr x => .str x
theorem py_k (k : Key) : pyOf (kD k) = some (kP k) := by cases k <;> rfl
def tupP (k : List Key) : PyData := .tuple (k.map kP)
theorem py_tupK (k : List Key) : pyOf (tupK k) = some (tupP k) := by
  unfold tupK pyOf
  rw [pyAll_map py_k]
  rfl
def rowsP (ks : List (List Key)) : PyData := .tuple (ks.map tupP)
theorem py_rows (ks : List (List Key)) : pyOf (.tup (ks.map tupK)) = some (rowsP ks) := by
  unfold pyOf
  rw [pyAll_map py_tupK]
  rfl
theorem eqv_k : ∀ a b : Key, PyData.eqv (kP a) (kP b) = decide (a = b)
  | .inl a, .inl b => by rw [Bool.eq_iff_iff]; simp [kP, PyData.eqv]
  | .inr a, .inr b => by rw [Bool.eq_iff_iff]; simp [kP, PyData.eqv]
  | .inl a, .inr b => by rw [Bool.eq_iff_iff]; simp [kP, PyData.eqv]
  | .inr a, .inl b => by rw [Bool.eq_iff_iff]; simp [kP, PyData.eqv]
theorem eqvAll_map {α : Type} [DecidableEq α] {g : α → PyData} (h : ∀ x y, PyData.eqv (g x) (g y) = decide (x = y)) : ∀ xs ys : List α, PyData.eqvAll (xs.map g) (ys.map g) = decide (xs = ys)
  | [], [] => by simp [PyData.eqvAll]
  | [], _ :: _ => by simp [PyData.eqvAll]
  | _ :: _, [] => by simp [PyData.eqvAll]
  | x :: xs, y :: ys => by
    rw [List.map_cons, List.map_cons, PyData.eqvAll, h, eqvAll_map h xs ys, Bool.eq_iff_iff]
    simp
theorem eqv_tup (a b : List Key) : PyData.eqv (tupP a) (tupP b) = decide (a = b) := eqvAll_map eqv_k a b
theorem eqv_rows (a b : List (List Key)) : PyData.eqv (rowsP a) (rowsP b) = decide (a = b) := eqvAll_map eqv_tup a b
def kOk : Key → Bool
  | .inl _ => true
  | .inr x => PySem.PyData.strOk x
theorem lay_k (k : Key) : (kP k).canLay0 = kOk k := by cases k <;> simp [kP, kOk, PyData.canLay0]
theorem layAll_map {α : Type} {g : α → PyData} {p : α → Bool} (h : ∀ x, (g x).canLay0 = p x) : ∀ xs : List α, PyData.canLayAll0 (xs.map g) = xs.all p
  | [] => by simp [PyData.canLayAll0]
  | x :: xs => by rw [List.map_cons, PyData.canLayAll0, h, layAll_map h xs, List.all_cons]
theorem lay_tup (k : List Key) : (tupP k).canLay0 = k.all kOk := by
  unfold tupP PyData.canLay0
  exact layAll_map lay_k k
theorem lay_rows (ks : List (List Key)) : (rowsP ks).canLay0 = ks.all fun k => k.all kOk := by
  unfold rowsP PyData.canLay0
  exact layAll_map lay_tup ks
theorem depthAll_map {α : Type} {g : α → PyData} {n : Nat} (h : ∀ x, (g x).depth ≤ n) : ∀ xs : List α, PyData.depthAll (xs.map g) ≤ n
  | [] => by simp [PyData.depthAll]
  | x :: xs => by
    rw [List.map_cons, PyData.depthAll]
    exact Nat.max_le.mpr ⟨h x, depthAll_map h xs⟩
theorem depth_tup (k : List Key) : (tupP k).depth ≤ 1 := by
  unfold tupP PyData.depth
  exact Nat.succ_le_succ (depthAll_map (fun x => by cases x <;> simp [kP, PyData.depth]) k)
theorem depth_rows (ks : List (List Key)) : (rowsP ks).depth ≤ 2 := by
  unfold rowsP PyData.depth
  exact Nat.succ_le_succ (depthAll_map depth_tup ks)
theorem shaped_tup {k : List Key} (h : k.all kOk = true) : SeqAt.shaped (tupP k) = true := by
  have := depth_tup k
  unfold SeqAt.shaped
  rw [lay_tup, h, Bool.true_and]
  exact decide_eq_true (by omega)
theorem shaped_rows {ks : List (List Key)} (h : (ks.all fun k => k.all kOk) = true) : SeqAt.shaped (rowsP ks) = true := by
  have := depth_rows ks
  unfold SeqAt.shaped
  rw [lay_rows, h, Bool.true_and]
  exact decide_eq_true (by omega)
theorem dEq_tup {a b : List Key} {P : PQ} (ha : a.all kOk = true) (hb : b.all kOk = true) (h : P (.bl (decide (a = b)))) : dEq (tupK a) (tupK b) P := dEq_py (py_tupK a) (py_tupK b) (shaped_tup ha) (shaped_tup hb) (by rwa [eqv_tup])
theorem dEq_rows {a b : List (List Key)} {P : PQ} (ha : (a.all fun k => k.all kOk) = true) (hb : (b.all fun k => k.all kOk) = true) (h : P (.bl (decide (a = b)))) : dEq (.tup (a.map tupK)) (.tup (b.map tupK)) P := dEq_py (py_rows a) (py_rows b) (shaped_rows ha) (shaped_rows hb) (by rwa [eqv_rows])
theorem dNe_rows {a b : List (List Key)} {P : PQ} (ha : (a.all fun k => k.all kOk) = true) (hb : (b.all fun k => k.all kOk) = true) (h : P (.bl (!decide (a = b)))) : dNe (.tup (a.map tupK)) (.tup (b.map tupK)) P := dEq_rows ha hb ⟨_, rfl, h⟩
/-- a tuple in a list of tuples -/
theorem in_tups {k : List Key} {ys : List (List Key)} {R : Bool → Prop} (hk : k.all kOk = true) (hy : (ys.all fun k => k.all kOk) = true) (h : R (ys.any fun y => decide (y = k))) : dInB (tupK k) (.lst (ys.map tupK)) R := by
  refine .inr (.inr ⟨_, _, _, rfl, py_tupK k, pyAll_map py_tupK ys, shaped_tup hk, ?_, ?_⟩)
  · have := shaped_rows hy
    unfold SeqAt.shaped rowsP PyData.canLay0 PyData.depth at this
    unfold SeqAt.shaped PyData.canLay0 PyData.depth
    exact this
  · have e : ((ys.map tupP).any fun z => PyData.eqv z (tupP k)) = ys.any fun y => decide (y = k) := by
      rw [List.any_map]
      congr 1
      funext y
      exact eqv_tup y k
    rwa [e]
/-- a text in a list of texts -/
theorem in_strsL {x : Str} {ys : List Str} {k : Bool → Prop} (h : k (decide (x ∈ ys))) : dInB (.str x) (.lst (ys.map D.str)) k := .inr (.inl ⟨_, _, ys.map V.str, rfl, rfl, by
  rw [List.map_map, List.map_map]
  exact List.map_congr_left fun _ _ => rfl, rfl, flat_strs ys, by rwa [inV_strs]⟩)

theorem atI_0 {α : Type} {xs : List α} : atI xs 0 = xs[0]? := by
  unfold atI ixN
  cases xs <;> simp
theorem atI_1 {α : Type} {xs : List α} : atI xs 1 = xs[1]? := by
  unfold atI ixN
  rw [if_pos (by decide)]
  by_cases h : (1 : Int) < xs.length
  · rw [if_pos h]; rfl
  · rw [if_neg h, List.getElem?_eq_none (by omega)]; rfl
theorem atI_2 {α : Type} {xs : List α} : atI xs 2 = xs[2]? := by
  unfold atI ixN
  rw [if_pos (by decide)]
  by_cases h : (2 : Int) < xs.length
  · rw [if_pos h]; rfl
  · rw [if_neg h, List.getElem?_eq_none (by omega)]; rfl
theorem atI_3 {α : Type} {xs : List α} : atI xs 3 = xs[3]? := by
  unfold atI ixN
  rw [if_pos (by decide)]
  by_cases h : (3 : Int) < xs.length
  · rw [if_pos h]; rfl
  · rw [if_neg h, List.getElem?_eq_none (by omega)]; rfl
theorem atI_nat {α : Type} {xs : List α} {n : Nat} : atI xs (n : Int) = xs[n]? := by
  unfold atI ixN
  rw [if_pos (by omega)]
  by_cases h : (n : Int) < xs.length
  · rw [if_pos h]; simp
  · rw [if_neg h, List.getElem?_eq_none (by omega)]; rfl
theorem atI_m1 {α : Type} {xs : List α} : atI xs (-1) = xs.getLast? := by
  unfold atI ixN
  rw [if_neg (by decide), List.getLast?_eq_getElem?]
  by_cases h : xs.length = 0
  · rw [if_neg (by omega), List.getElem?_eq_none (by omega)]; rfl
  · rw [if_pos (by omega)]
    show xs[_]? = _
    congr 1
    omega
theorem dEq_tupI {a b : List Key} {P : PQ} (ha : a.all kOk = true) (hb : b.all kOk = true) : dEq (tupK a) (tupK b) P ↔ P (.bl (decide (a = b))) := by
  refine ⟨fun h => ?_, dEq_tup ha hb⟩
  rcases h with ⟨v, u, e1, _⟩ | ⟨x, y, e1, e2, _, _, p⟩
  · cases e1
  · rw [py_tupK] at e1 e2
    cases e1; cases e2
    rwa [eqv_tup] at p
end DL

/-! The data layer, part 17: equations of readings. -/
namespace DL
open PySem PySem.Spec PyProof.Rows L2

theorem qIxL {xs : List D} {i : Int} {P : PQ} : dIx (.lst xs) (.int i) P = (∃ d, atI xs i = some d ∧ P d) := rfl
theorem qIxT {xs : List D} {i : Int} {P : PQ} : dIx (.tup xs) (.int i) P = (∃ d, atI xs i = some d ∧ P d) := rfl
theorem qIxS {s : Str} {i : Int} {P : PQ} : dIx (.str s) (.int i) P = (s.length ≤ sizeLine ∧ ∃ c, atI s.cps.toList i = some c ∧ P (.str (sg c))) := rfl
theorem qIxD {i : Int} {P : PQ} : dIx .die (.int i) P = ((i = 0 ∨ i = 1 ∨ i = 2) ∧ ∀ j : Int, P (.int j)) := rfl
theorem qLenS {x : Str} {P : PQ} : dLen [.str x] P = (x.length ≤ sizeLine ∧ P (.int x.length)) := rfl
theorem qLenT {xs : List D} {P : PQ} : dLen [.tup xs] P = (P (.int xs.length)) := rfl
theorem qLenL {xs : List D} {P : PQ} : dLen [.lst xs] P = (P (.int xs.length)) := rfl
theorem qCutL {xs : List D} {lo hi : Option Int} {P : PQ} : dCut (.lst xs) lo hi P = (P (.lst (cutD xs lo hi))) := rfl
theorem qCutT {xs : List D} {lo hi : Option Int} {P : PQ} : dCut (.tup xs) lo hi P = (P (.tup (cutD xs lo hi))) := rfl
theorem qCutS {s : Str} {lo hi : Option Int} {P : PQ} : dCut (.str s) lo hi P = (s.length ≤ sizeLine ∧ P (.str (cutS s lo hi))) := rfl
theorem qAddI {i j : Int} {P : PQ} : dAdd (.int i) (.int j) P = (P (.int (i + j))) := rfl
theorem qAddS {a b : Str} {P : PQ} : dAdd (.str a) (.str b) P = (a.length + b.length ≤ sizeLine ∧ P (.str (a ++ b))) := rfl
theorem qAddT {a b : List D} {P : PQ} : dAdd (.tup a) (.tup b) P = (a.length + b.length ≤ sizeLine ∧ P (.tup (a ++ b))) := rfl
theorem qAddL {a b : List D} {P : PQ} : dAdd (.lst a) (.lst b) P = (a.length + b.length ≤ sizeLine ∧ P (.lst (a ++ b))) := rfl
theorem qSub {i j : Int} {P : PQ} : dSub (.int i) (.int j) P = (P (.int (i - j))) := rfl
theorem qMulI {i j : Int} {P : PQ} : dMul (.int i) (.int j) P = ((CMul i j ∨ CMulW i j) ∧ P (.int (i * j))) := rfl
theorem qMulT {a : List D} {j : Int} {P : PQ} : dMul (.tup a) (.int j) P = (a ≠ [] ∧ 2 ≤ j ∧ j ≤ 1000 ∧ a.length ≤ 1000 ∧ P (.tup (List.replicate j.toNat a).flatten)) := rfl
theorem qMulL {a : List D} {j : Int} {P : PQ} : dMul (.lst a) (.int j) P = (-(2 ^ 63) ≤ j ∧ j < 2 ^ 63 ∧ a.length * j.toNat ≤ sizeLine ∧ P (.lst (List.replicate j.toNat a).flatten)) := rfl
theorem qMod {i j : Int} {P : PQ} : dMod (.int i) (.int j) P = (0 < j ∧ P (.int (i % j))) := rfl
theorem qFdiv {i j : Int} {P : PQ} : dFdiv (.int i) (.int j) P = (CDivW i j ∧ P (.int (i / j))) := rfl
theorem qLtI {i j : Int} {P : PQ} : dLt (.int i) (.int j) P = (P (.bl (decide (i < j)))) := rfl
theorem qLtS {a b : Str} {P : PQ} : dLt (.str a) (.str b) P = (P (.bl (ltS a b))) := rfl
theorem qLeI {i j : Int} {P : PQ} : dLe (.int i) (.int j) P = (P (.bl (decide (i ≤ j)))) := rfl
theorem qLeS {a b : Str} {P : PQ} : dLe (.str a) (.str b) P = (P (.bl (!ltS b a))) := rfl
theorem qGtI {i j : Int} {P : PQ} : dGt (.int i) (.int j) P = (P (.bl (decide (j < i)))) := rfl
theorem qGeI {i j : Int} {P : PQ} : dGe (.int i) (.int j) P = (P (.bl (decide (j ≤ i)))) := rfl
theorem qGtS {a b : Str} {P : PQ} : dGt (.str a) (.str b) P = (P (.bl (ltS b a))) := rfl
theorem qGeS {a b : Str} {P : PQ} : dGe (.str a) (.str b) P = (P (.bl (!ltS a b))) := rfl
theorem qIntI {i : Int} {P : PQ} : dInt [.int i] P = (P (.int i)) := rfl
theorem qIntB {b : Bool} {P : PQ} : dInt [.bl b] P = (P (.int (if b then 1 else 0))) := rfl
theorem qIntS {a : Str} {P : PQ} : dInt [.str a] P = (a.length ≤ 640 ∧ ∃ n, PySem.intText? a = some n ∧ P (.int n)) := rfl
theorem qLst1 {xs : List D} {P : PQ} : dToLst [.lst xs] P = (P (.lst xs)) := rfl
theorem qLst2 {xs : List D} {P : PQ} : dToLst [.tup xs] P = (P (.lst xs)) := rfl
theorem qTup1 {xs : List D} {P : PQ} : dToTup [.lst xs] P = (P (.tup xs)) := rfl
theorem qTup2 {xs : List D} {P : PQ} : dToTup [.tup xs] P = (P (.tup xs)) := rfl
theorem qStrI {i : Int} {P : PQ} : dStrc [.int i] P = (i.natAbs.log2 < 1920 ∧ P (.str (toString i))) := rfl
theorem qStrS {a : Str} {P : PQ} : dStrc [.str a] P = (P (.str a)) := rfl
theorem qIs1 {P : PQ} : dIsiB [.non, .raw (.ty "int")] P ↔ P (.bl false) := by unfold dIsiB; simp only [tyN, kb21, kitP]
theorem qIs2 {P : PQ} : dIsiB [.non, .raw (.ty "bool")] P ↔ P (.bl false) := by unfold dIsiB; simp only [tyN, kb22, kitP]
theorem qIs3 {P : PQ} : dIsiB [.non, .raw (.ty "str")] P ↔ P (.bl false) := by unfold dIsiB; simp only [tyN, kb23, kitP]
theorem qIs4 {P : PQ} : dIsiB [.non, .raw (.ty "tuple")] P ↔ P (.bl false) := by unfold dIsiB; simp only [tyN, kb24, kitP]
theorem qIs5 {P : PQ} : dIsiB [.non, .raw (.ty "list")] P ↔ P (.bl false) := by unfold dIsiB; simp only [tyN, kb25, kitP]
theorem qIs6 {b0 : Bool} {P : PQ} : dIsiB [.bl b0, .raw (.ty "int")] P ↔ P (.bl true) := by unfold dIsiB; simp only [tyN, kb26, kitP]
theorem qIs7 {b0 : Bool} {P : PQ} : dIsiB [.bl b0, .raw (.ty "bool")] P ↔ P (.bl true) := by unfold dIsiB; simp only [tyN, kb27, kitP]
theorem qIs8 {b0 : Bool} {P : PQ} : dIsiB [.bl b0, .raw (.ty "str")] P ↔ P (.bl false) := by unfold dIsiB; simp only [tyN, kb28, kitP]
theorem qIs9 {b0 : Bool} {P : PQ} : dIsiB [.bl b0, .raw (.ty "tuple")] P ↔ P (.bl false) := by unfold dIsiB; simp only [tyN, kb29, kitP]
theorem qIs10 {b0 : Bool} {P : PQ} : dIsiB [.bl b0, .raw (.ty "list")] P ↔ P (.bl false) := by unfold dIsiB; simp only [tyN, kb30, kitP]
theorem qIs11 {i0 : Int} {P : PQ} : dIsiB [.int i0, .raw (.ty "int")] P ↔ P (.bl true) := by unfold dIsiB; simp only [tyN, kb1, kitP]
theorem qIs12 {i0 : Int} {P : PQ} : dIsiB [.int i0, .raw (.ty "bool")] P ↔ P (.bl false) := by unfold dIsiB; simp only [tyN, kb2, kitP]
theorem qIs13 {i0 : Int} {P : PQ} : dIsiB [.int i0, .raw (.ty "str")] P ↔ P (.bl false) := by unfold dIsiB; simp only [tyN, kb3, kitP]
theorem qIs14 {i0 : Int} {P : PQ} : dIsiB [.int i0, .raw (.ty "tuple")] P ↔ P (.bl false) := by unfold dIsiB; simp only [tyN, kb4, kitP]
theorem qIs15 {i0 : Int} {P : PQ} : dIsiB [.int i0, .raw (.ty "list")] P ↔ P (.bl false) := by unfold dIsiB; simp only [tyN, kb5, kitP]
theorem qIs16 {s0 : Str} {P : PQ} : dIsiB [.str s0, .raw (.ty "int")] P ↔ P (.bl false) := by unfold dIsiB; simp only [tyN, kb6, kitP]
theorem qIs17 {s0 : Str} {P : PQ} : dIsiB [.str s0, .raw (.ty "bool")] P ↔ P (.bl false) := by unfold dIsiB; simp only [tyN, kb7, kitP]
theorem qIs18 {s0 : Str} {P : PQ} : dIsiB [.str s0, .raw (.ty "str")] P ↔ P (.bl true) := by unfold dIsiB; simp only [tyN, kb8, kitP]
theorem qIs19 {s0 : Str} {P : PQ} : dIsiB [.str s0, .raw (.ty "tuple")] P ↔ P (.bl false) := by unfold dIsiB; simp only [tyN, kb9, kitP]
theorem qIs20 {s0 : Str} {P : PQ} : dIsiB [.str s0, .raw (.ty "list")] P ↔ P (.bl false) := by unfold dIsiB; simp only [tyN, kb10, kitP]
theorem qIs21 {xs0 : List D} {P : PQ} : dIsiB [.tup xs0, .raw (.ty "int")] P ↔ P (.bl false) := by unfold dIsiB; simp only [tyN, kb11, kitP]
theorem qIs22 {xs0 : List D} {P : PQ} : dIsiB [.tup xs0, .raw (.ty "bool")] P ↔ P (.bl false) := by unfold dIsiB; simp only [tyN, kb12, kitP]
theorem qIs23 {xs0 : List D} {P : PQ} : dIsiB [.tup xs0, .raw (.ty "str")] P ↔ P (.bl false) := by unfold dIsiB; simp only [tyN, kb13, kitP]
theorem qIs24 {xs0 : List D} {P : PQ} : dIsiB [.tup xs0, .raw (.ty "tuple")] P ↔ P (.bl true) := by unfold dIsiB; simp only [tyN, kb14, kitP]
theorem qIs25 {xs0 : List D} {P : PQ} : dIsiB [.tup xs0, .raw (.ty "list")] P ↔ P (.bl false) := by unfold dIsiB; simp only [tyN, kb15, kitP]
theorem qIs26 {xs0 : List D} {P : PQ} : dIsiB [.lst xs0, .raw (.ty "int")] P ↔ P (.bl false) := by unfold dIsiB; simp only [tyN, kb16, kitP]
theorem qIs27 {xs0 : List D} {P : PQ} : dIsiB [.lst xs0, .raw (.ty "bool")] P ↔ P (.bl false) := by unfold dIsiB; simp only [tyN, kb17, kitP]
theorem qIs28 {xs0 : List D} {P : PQ} : dIsiB [.lst xs0, .raw (.ty "str")] P ↔ P (.bl false) := by unfold dIsiB; simp only [tyN, kb18, kitP]
theorem qIs29 {xs0 : List D} {P : PQ} : dIsiB [.lst xs0, .raw (.ty "tuple")] P ↔ P (.bl false) := by unfold dIsiB; simp only [tyN, kb19, kitP]
theorem qIs30 {xs0 : List D} {P : PQ} : dIsiB [.lst xs0, .raw (.ty "list")] P ↔ P (.bl true) := by unfold dIsiB; simp only [tyN, kb20, kitP]
theorem qIs31 {ks0 : List Key} {xs0 : List D} {P : PQ} : dIsiB [.dic ks0 xs0, .raw (.ty "int")] P ↔ P (.bl false) := by unfold dIsiB; simp only [tyN, kb31, kitP]
theorem qIs32 {ks0 : List Key} {xs0 : List D} {P : PQ} : dIsiB [.dic ks0 xs0, .raw (.ty "bool")] P ↔ P (.bl false) := by unfold dIsiB; simp only [tyN, kb32, kitP]
theorem qIs33 {ks0 : List Key} {xs0 : List D} {P : PQ} : dIsiB [.dic ks0 xs0, .raw (.ty "str")] P ↔ P (.bl false) := by unfold dIsiB; simp only [tyN, kb33, kitP]
theorem qIs34 {ks0 : List Key} {xs0 : List D} {P : PQ} : dIsiB [.dic ks0 xs0, .raw (.ty "tuple")] P ↔ P (.bl false) := by unfold dIsiB; simp only [tyN, kb34, kitP]
theorem qIs35 {ks0 : List Key} {xs0 : List D} {P : PQ} : dIsiB [.dic ks0 xs0, .raw (.ty "list")] P ↔ P (.bl false) := by unfold dIsiB; simp only [tyN, kb35, kitP]

theorem qKs {x : Str} : kD (.inr x) = .str x := rfl
theorem qKi {i : Int} : kD (.inl i) = .int i := rfl
theorem cut13 {x a b : D} {t : List D} : cutD (x :: a :: b :: t) (some 1) (some 3) = [a, b] := by
  have e1 : HT.sIx (x :: a :: b :: t).length 0 (some 1) = 1 := by
    refine (HT.sIx_nat _ _ 1).trans ?_
    simp only [List.length_cons]
    omega
  have e3 : HT.sIx (x :: a :: b :: t).length (x :: a :: b :: t).length (some 3) = 3 := by
    refine (HT.sIx_nat _ _ 3).trans ?_
    simp only [List.length_cons]
    omega
  unfold cutD
  rw [e1, e3]
  rfl
/-- all but the last -/
theorem cut_init {xs : List D} : cutD xs none (some (-1)) = xs.take (xs.length - 1) := by
  have e3 : HT.sIx xs.length xs.length (some (-1)) = xs.length - 1 := by
    unfold HT.sIx
    simp only [Int.reduceNeg, Int.reduceLT, if_true]
    omega
  unfold cutD
  rw [e3]
  rfl
end DL

/-! The data layer, part 18: list(text); more equations; steps whose outcome is open. -/
namespace DL
open PySem PySem.Spec PyProof.Rows L2

theorem qPowW {i j : Int} {P : PQ} : dPowW (.int i) (.int j) P = (CPowW i j ∧ P (.int (i ^ j.toNat))) := rfl
theorem qAbs {i : Int} {P : PQ} : dAbs [.int i] P = P (.int (if i < 0 then -i else i)) := rfl
theorem qMax2 {i j : Int} {P : PQ} : dMax2 [.int i, .int j] P = P (.int (if j > i then j else i)) := rfl
theorem qMin2 {i j : Int} {P : PQ} : dMin2 [.int i, .int j] P = P (.int (if j < i then j else i)) := rfl
theorem qMulS {a : Str} {n : Int} {P : PQ} : dMulS (.str a) (.int n) P = (2 ≤ n ∧ n ≤ 1000000 ∧ 1 ≤ a.length ∧ a.length ≤ 16 ∧ P (.str (repS a n.toNat))) := rfl
/-- each step gives one that is good -/
theorem lcD_any {Good : D → Prop} {step : D → (Option D → Prop) → Prop} {Kf : List D → Prop} (xs : List D) (hs : ∀ x ∈ xs, ∀ k, (∀ y, Good y → k (some y)) → step x k) (hl : xs.length ≤ sizeLine) (h : ∀ ys, ys.length = xs.length → (∀ y ∈ ys, Good y) → Kf ys) : lcD step xs [] Kf := by
  have : ∀ (xs acc : List D), (∀ x ∈ xs, ∀ k, (∀ y, Good y → k (some y)) → step x k) → acc.length + xs.length ≤ sizeLine → (∀ ys, ys.length = xs.length → (∀ y ∈ ys, Good y) → Kf (acc ++ ys)) → lcD step xs acc Kf := by
    intro xs
    induction xs with
    | nil => intro acc _ _ h; simpa [lcD] using h [] rfl (fun y hy => by cases hy)
    | cons x xs ih =>
      intro acc hs hl h
      rw [List.length_cons] at hl
      refine ⟨by omega, hs x List.mem_cons_self _ fun y hy => ?_⟩
      refine ih (acc ++ [y]) (fun z hz => hs z (List.mem_cons_of_mem _ hz)) (by rw [List.length_append, List.length_singleton]; omega) fun ys h1 h2 => ?_
      rw [List.append_assoc, List.singleton_append]
      exact h (y :: ys) (by rw [List.length_cons, List.length_cons, h1]) fun z hz => (List.mem_cons.mp hz).elim (fun e => by rw [e]; exact hy) (h2 z)
  exact this xs [] hs (by simpa using hl) (by simpa using h)
def sgs (x : Str) : List Str := x.cps.toList.map sg
theorem vals_at : ∀ (us : List Value) (xs : List V), us.length = xs.length → (∀ (j : Nat) (u : Value), us[j]? = some u → ∃ v, xs[j]? = some v ∧ RelV v u) → Vals xs us
  | [], [], _, _ => .nil
  | [], _ :: _, h, _ => by cases h
  | _ :: _, [], h, _ => by cases h
  | u :: us, x :: xs, h, k => by
    obtain ⟨v, h1, h2⟩ := k 0 u rfl
    cases h1
    exact .cons h2 (vals_at us xs (by simpa using h) fun j w e => by
      obtain ⟨v', h3, h4⟩ := k (j + 1) w (by simpa using e)
      exact ⟨v', by simpa using h3, h4⟩)
theorem call_list_S {X : Cx} (hc : X.calm = true) : CallR X (.type "list") (fun xs H Q => ∃ x, xs = [.str x] ∧ x.length ≤ sizeLine ∧ ∀ l, H l = none → Q (.ref l) (upd H l (.lst ((sgs x).map V.str)))) := by
  intro pins s σ H xs us Q I r h
  obtain ⟨x, rfl, hz, q⟩ := h
  obtain ⟨u, rfl, t, rfl⟩ := vals1 r
  refine PySem.call_list_str (I.ok.hd hc) x t (fun h' tk acc' c' kp e ha => ?_) hz
  have hl : acc'.toList.length = ((sgs x).map V.str).length := by
    rw [List.length_map, sgs, List.length_map, Array.length_toList, Array.length_toList]
    exact ha.1
  have hv : Vals ((sgs x).map V.str) acc'.toList := vals_at _ _ hl fun j v hv => by
    obtain ⟨c, t', h1, h2⟩ := ha.2 j v (by rw [← Array.getElem?_toList]; exact hv)
    refine ⟨.str (sg c), ?_, by rw [h2]; exact ⟨t', rfl⟩⟩
    rw [sgs, List.map_map, List.getElem?_map, Array.getElem?_toList, h1]
    rfl
  exact ⟨.ref s.heap.objs.size, upd H s.heap.objs.size (.lst ((sgs x).map V.str)), I.laid (t' := tk) kp (Nat.le_refl _)
    (show ObjOk X.prog X.w _ _ _ (.lst ((sgs x).map V.str)) from ⟨by rw [← hl, Array.length_toList, ha.1]; exact hz, acc'.toList, c', hv, by rw [Array.toArray_toList]; exact e⟩), rfl, q _ (I.hok.fresh (Nat.le_refl _))⟩
def rLstU (K : PySem.W.Frag) : List V → Hp → VK → Prop := fun xs H Q => (∃ p ys, xs = [.ref p] ∧ (SqL K H p ys ∨ SqT K H p ys) ∧ ∀ l, H l = none → Q (.ref l) (upd H l (.lst ys))) ∨ ∃ x, xs = [.str x] ∧ x.length ≤ sizeLine ∧ ∀ l, H l = none → Q (.ref l) (upd H l (.lst ((sgs x).map V.str)))
theorem call_listU {X : Cx} (hc : X.calm = true) : CallR X (.type "list") (rLstU X.K) := call_list_of.or (call_list_S hc)
def dToLstU : List D → PQ → Prop
  | [.str x], P => x.length ≤ sizeLine ∧ P (.lst ((sgs x).map D.str))
  | ds, P => dToLst ds P
theorem qLstS {x : Str} {P : PQ} : dToLstU [.str x] P = (x.length ≤ sizeLine ∧ P (.lst ((sgs x).map D.str))) := rfl
theorem qLstUL {xs : List D} {P : PQ} : dToLstU [.lst xs] P = P (.lst xs) := rfl
theorem qLstUT {xs : List D} {P : PQ} : dToLstU [.tup xs] P = P (.lst xs) := rfl
theorem cd_listU {K : PySem.W.Frag} : CallD K (rLstU K) dToLstU := by
  intro z H vs ds P Q ok r h kq
  unfold dToLstU at h
  split at h
  · rename_i x
    cases r with
    | cons a b =>
      cases b
      cases a
      exact .inr ⟨x, rfl, h.1, fun l hl => kq _ _ _ h.2 (.new hl) (.lst upd_same (ok.new hl) (RpAll.strs _))⟩
  · exact .inl (cd_list z H vs ds P Q ok r h kq)
end DL

/-! The data layer, part 19: slices. -/
namespace DL
open PySem PySem.Spec PyProof.Rows L2
theorem sIx_int {n d : Nat} {i : Int} (h : 0 ≤ i) : HT.sIx n d (some i) = min i.toNat n := by
  show (if i < 0 then (i + (n : Int)).toNat else min i.toNat n) = min i.toNat n
  rw [if_neg (by omega)]
theorem drop_min {α : Type} (xs : List α) (a : Nat) : xs.drop (min a xs.length) = xs.drop a := by
  by_cases h : a ≤ xs.length
  · rw [Nat.min_eq_left h]
  · rw [Nat.min_eq_right (by omega), List.drop_length, List.drop_eq_nil_of_le (by omega)]
theorem cut_parts {α : Type} (xs : List α) (a b : Nat) : (xs.drop (min a xs.length)).take (min b xs.length - min a xs.length) = (xs.drop a).take (b - a) := by
  rw [drop_min]
  by_cases h : a ≤ xs.length
  · rw [Nat.min_eq_left h]
    by_cases h2 : b ≤ xs.length
    · rw [Nat.min_eq_left h2]
    · rw [Nat.min_eq_right (by omega), List.take_of_length_le (by rw [List.length_drop]; exact Nat.le_refl _), List.take_of_length_le (by rw [List.length_drop]; omega)]
  · rw [List.drop_eq_nil_of_le (by omega), List.take_nil, List.take_nil]
theorem cut_ge {xs : List D} {i : Int} (h : 0 ≤ i) : cutD xs (some i) none = xs.drop i.toNat := by
  unfold cutD
  rw [sIx_int h]
  show (xs.drop (min i.toNat xs.length)).take (xs.length - min i.toNat xs.length) = _
  rw [List.take_of_length_le (by rw [List.length_drop]; exact Nat.le_refl _), drop_min]
theorem cut_to {xs : List D} {i : Int} (h : 0 ≤ i) : cutD xs none (some i) = xs.take i.toNat := by
  unfold cutD
  rw [sIx_int h]
  show (xs.drop 0).take (min i.toNat xs.length - 0) = _
  rw [Nat.sub_zero, List.drop_zero]
  by_cases h : i.toNat ≤ xs.length
  · rw [Nat.min_eq_left h]
  · rw [Nat.min_eq_right (by omega), List.take_of_length_le (Nat.le_refl _), List.take_of_length_le (by omega)]
theorem cut_mid {xs : List D} {i j : Int} (h : 0 ≤ i) (h2 : 0 ≤ j) : cutD xs (some i) (some j) = (xs.drop i.toNat).take (j.toNat - i.toNat) := by
  unfold cutD
  rw [sIx_int h, sIx_int h2, cut_parts]
end DL

/-! The data layer, part 20: == of lists of texts. -/
namespace DL
open PySem PySem.Spec PyProof.Rows L2
theorem py_lstS (xs : List Str) : pyOf (.lst (xs.map D.str)) = some (.list (xs.map PyData.str)) := by
  unfold pyOf
  rw [pyAll_map (g := PyData.str) (fun _ => rfl)]
  rfl
theorem eqv_lstS (a b : List Str) : PyData.eqv (.list (a.map PyData.str)) (.list (b.map PyData.str)) = decide (a = b) := eqvAll_map (fun x y => by rw [Bool.eq_iff_iff]; simp [PyData.eqv]) a b
theorem shaped_lstS {xs : List Str} (h : ∀ x ∈ xs, PySem.PyData.strOk x = true) : SeqAt.shaped (.list (xs.map PyData.str)) = true := by
  unfold SeqAt.shaped PyData.canLay0 PyData.depth
  rw [layAll_map (p := PySem.PyData.strOk) (fun x => by simp [PyData.canLay0]), List.all_eq_true.mpr h, Bool.true_and]
  have := depthAll_map (g := PyData.str) (n := 0) (fun x => by simp [PyData.depth]) xs
  exact decide_eq_true (by omega)
/-- == of lists of texts -/
theorem dEq_lstS {a b : List Str} {P : PQ} (ha : ∀ x ∈ a, PySem.PyData.strOk x = true) (hb : ∀ x ∈ b, PySem.PyData.strOk x = true) (h : P (.bl (decide (a = b)))) : dEq (.lst (a.map D.str)) (.lst (b.map D.str)) P :=
  dEq_py (py_lstS a) (py_lstS b) (shaped_lstS ha) (shaped_lstS hb) (by rwa [eqv_lstS])
theorem dNe_lstS {a b : List Str} {P : PQ} (ha : ∀ x ∈ a, PySem.PyData.strOk x = true) (hb : ∀ x ∈ b, PySem.PyData.strOk x = true) (h : P (.bl (!decide (a = b)))) : dNe (.lst (a.map D.str)) (.lst (b.map D.str)) P := dEq_lstS ha hb ⟨_, rfl, h⟩
/-- .. to the empty list -/
theorem dEq_lst0 {a : List Str} {P : PQ} (ha : ∀ x ∈ a, PySem.PyData.strOk x = true) (h : P (.bl (decide (a = [])))) : dEq (.lst (a.map D.str)) (.lst []) P := dEq_lstS (b := []) ha (fun _ h => (by cases h)) h
theorem dNe_lst0 {a : List Str} {P : PQ} (ha : ∀ x ∈ a, PySem.PyData.strOk x = true) (h : P (.bl (!decide (a = [])))) : dNe (.lst (a.map D.str)) (.lst []) P := dNe_lstS (b := []) ha (fun _ h => (by cases h)) h
theorem ltS_sg (c d : Nat) : ltS (sg c) (sg d) = decide (c < d) := by
  unfold ltS sg
  rw [Bool.eq_iff_iff, decide_eq_true_eq, decide_eq_true_eq]
  show [c] < [d] ↔ c < d
  refine ⟨fun h => ?_, fun h => List.Lex.rel h⟩
  cases h with
  | rel h => exact h
  | cons h => cases h
/-- all but the first and the last -/
theorem cut_1m1 {xs : List D} : cutD xs (some 1) (some (-1)) = (xs.drop 1).take (xs.length - 2) := by
  have e3 : HT.sIx xs.length xs.length (some (-1)) = xs.length - 1 := by
    unfold HT.sIx
    simp only [Int.reduceNeg, Int.reduceLT, if_true]
    omega
  unfold cutD
  rw [e3, sIx_int (by decide)]
  show (xs.drop (min 1 xs.length)).take (xs.length - 1 - min 1 xs.length) = _
  rw [drop_min]
  by_cases h : 1 ≤ xs.length
  · rw [Nat.min_eq_left h, Nat.sub_sub]
  · rw [List.drop_eq_nil_of_le (by omega), List.take_nil, List.take_nil]
end DL

/-! The data layer, part 21: methods that raise nothing; a def whose code object is known; the script. -/
namespace DL
open PySem PySem.Spec PyProof.Rows L2
theorem qLenR {ns : List Int} {P : PQ} : dLen [.scr ns] P = P (.int ns.length) := rfl
theorem qIxR {ns : List Int} {i : Int} {P : PQ} : dIx (.scr ns) (.int i) P = (∃ j, atI ns i = some j ∧ P (.int j)) := rfl
section
variable {P : Program} {w : World} {K : PySem.W.Frag} {mg : Str → Option Value} {base : Heap} {x : Str} {st : Stmt} {N ps : List Str} {k : Nat}
theorem MetG.calm {f : Addr} {g : List D → DW} (c : MetG P w K mg base (L2.CX P w) k f ps g) : MetG P w K mg base CX0 k f ps (fun ds R _ => g ds R (fun _ => False)) := by
  obtain ⟨fd, F, r⟩ := c
  refine ⟨fd, fnOk_cx F fun vs H Q E ⟨z, ds, R, Ex, ok, rp, h, kq, kx⟩ => ⟨fun _ _ _ => False, ⟨z, ds, R, fun _ => False, ok, rp, h, kq, fun _ _ _ _ q => q.elim⟩, fun outer s e s' c => ?_⟩, r⟩
  obtain ⟨a, B, H', cls, d, _, _, _, _, _, _, _, he⟩ := c
  exact he
theorem MetG.zc {f : Addr} {g : List D → DW} (c : MetG P w K mg base (L2N.CX P w) k f ps g) : MetG P w K mg base (L2.CX P w) k f ps g := by
  obtain ⟨fd, F, r⟩ := c
  exact ⟨fd, fnOk_cx F fun vs H Q E q => ⟨E, q, fun _ _ _ _ c => cx_zc c⟩, r⟩
/-- a def of the module that makes lambdas: where its code object lies -/
def FDL (K : PySem.W.Frag) (mg : Str → Option Value) (x : Str) (st : Stmt) (ps : List Str) : Prop := ∃ f fd, Fun K x x st f fd ∧ mg x = some (.ref f) ∧ Binds K fd ps [] ∧ fd.code = .ref (He.cT K (x, none)).1
theorem cal_ofL {g0 : List D → PQ → Prop} (F : FDL K mg x st ps) (S : FnScope N ps (defScope st)) (len : ∀ ds P, g0 ds P → ds.length = ps.length)
    (body : ∀ (f : Addr) (A : Around) (outer : List Env) (s : Shared) (H : Hp) (E : XK), Room k (A.deeper (envOfC x (defScope st) s.heap.objs.size f (.ref (He.cT K (x, none)).1))) →
      ∃ fb, PSs (cxOf CX0 P w K mg base N x (defScope st) f (.ref (He.cT K (x, none)).1) A outer s H E).nox (defBody st) (upS K W0 fb) ∧ ∀ ds R, g0 ds R → fb (startM N.length ds) { nx := fun _ => R .non, rt := R } (fun _ _ => False)) :
    Cal P w K mg base (k + 1) x ps g0 := by
  obtain ⟨f, fd, hF, hm, hb, hc⟩ := F
  have kp := hF.kp
  obtain ⟨oc, od, kV, doc, pm, an, cdv, ct, osl, e, lk, hcd⟩ := hF.ex
  subst e
  have hc : cdv = .ref (He.cT K (x, none)).1 := hc
  subst hc
  refine ⟨f, _, fn_of lk hcd S (fun vs H Q E ⟨z, ds, R, Ex, _, r, h, _⟩ => r.len.trans (len ds R h)) (fun A outer s H vs Q E hr h => ?_), hm, kp, hb⟩
  obtain ⟨fb, hd, hp⟩ := body f A outer s H E hr
  obtain ⟨z, ds, R, Ex, ok, r, h, kq, kx⟩ := h
  exact ⟨_, hd.nox, start_up (Ex := fun _ => False) (E := fun _ _ _ => False) ok r kq (fun _ _ _ _ q => q.elim) (fun _ _ _ _ q => q) (hp ds R h)⟩
end
end DL

/-! plain texts: split and join at one sign -/
namespace K82
open PySem PySem.Spec PyProof.Rows L2 DL
open TL
/-- l cut at each c -/
def spc (c : Nat) : List Nat → List (List Nat)
  | [] => [[]]
  | d :: r => if d = c then [] :: spc c r else match spc c r with
    | p :: ps => (d :: p) :: ps
    | [] => [[d]]
theorem spc_ne (c : Nat) (l : List Nat) : spc c l ≠ [] := by
  cases l with
  | nil => simp [spc]
  | cons d r =>
    unfold spc
    split
    · simp
    · split <;> simp
theorem spc_nil {c : Nat} : spc c [] = [[]] := rfl
theorem spc_hit {c : Nat} {r : List Nat} : spc c (c :: r) = [] :: spc c r := by
  rw [spc, if_pos rfl]
theorem spc_miss {c d : Nat} {r p : List Nat} {ps : List (List Nat)} (h : d ≠ c) (e : spc c r = p :: ps) : spc c (d :: r) = (d :: p) :: ps := by
  rw [spc, if_neg h, e]
theorem spl_spc {c : Nat} : ∀ (l acc p : List Nat) (ps : List (List Nat)), spc c l = p :: ps → spl [c] 0 acc l = (acc ++ p) :: ps
  | [], acc, p, ps, h => by
    cases h
    rw [spl_nil, List.append_nil]
  | d :: r, acc, p, ps, h => by
    by_cases e : d = c
    · subst e
      rw [spc_hit] at h
      cases h
      rw [spl_hit (by unfold pre; simp)]
      cases q : spc d r with
      | nil => exact absurd q (spc_ne d r)
      | cons a as =>
        show acc :: spl [d] 0 [] r = _
        rw [spl_spc r [] a as q, List.nil_append, List.append_nil]
    · cases q : spc c r with
      | nil => exact absurd q (spc_ne c r)
      | cons a as =>
        rw [spc_miss e q] at h
        cases h
        rw [spl_miss (by unfold pre; simpa using e), spl_spc r _ a ps q, List.append_assoc, List.singleton_append]
theorem split_spc {x y : Str} {c : Nat} (hy : tl y = [c]) (hk : y.cps.all (· < 256) = true) : (Txt.split x y).map tl = spc c (tl x) := by
  rw [split_spl x y (by rw [hy]; simp) (kind_ok hk), hy]
  cases q : spc c (tl x) with
  | nil => exact absurd q (spc_ne c _)
  | cons a as => rw [spl_spc _ [] a as q, List.nil_append]
theorem spc_sub {c : Nat} : ∀ {l p : List Nat}, p ∈ spc c l → p.length ≤ l.length ∧ c ∉ p ∧ ∀ x ∈ p, x ∈ l
  | [], p, h => by
    rw [spc_nil] at h
    cases List.mem_singleton.mp h
    simp
  | d :: r, p, h => by
    by_cases e : d = c
    · subst e
      rw [spc_hit] at h
      rcases List.mem_cons.mp h with rfl | h
      · simp
      · obtain ⟨h1, h2, h3⟩ := spc_sub h
        exact ⟨by rw [List.length_cons]; omega, h2, fun x hx => List.mem_cons_of_mem _ (h3 x hx)⟩
    · cases q : spc c r with
      | nil => exact absurd q (spc_ne c r)
      | cons a as =>
        rw [spc_miss e q] at h
        rcases List.mem_cons.mp h with rfl | h
        · obtain ⟨h1, h2, h3⟩ := spc_sub (c := c) (l := r) (p := a) (by rw [q]; exact List.mem_cons_self)
          refine ⟨by rw [List.length_cons, List.length_cons]; omega, fun w => ?_, fun x hx => ?_⟩
          · rcases List.mem_cons.mp w with w | w
            · exact e w.symm
            · exact h2 w
          · rcases List.mem_cons.mp hx with w | w
            · exact List.mem_cons.mpr (.inl w)
            · exact List.mem_cons_of_mem _ (h3 x w)
        · obtain ⟨h1, h2, h3⟩ := spc_sub (c := c) (l := r) (p := p) (by rw [q]; exact List.mem_cons_of_mem _ h)
          exact ⟨by rw [List.length_cons]; omega, h2, fun x hx => List.mem_cons_of_mem _ (h3 x hx)⟩
theorem spc_length {c : Nat} : ∀ l : List Nat, (spc c l).length ≤ l.length + 1
  | [] => by simp [spc]
  | d :: r => by
    have := spc_length (c := c) r
    by_cases e : d = c
    · subst e
      rw [spc_hit, List.length_cons, List.length_cons]
      omega
    · cases q : spc c r with
      | nil => exact absurd q (spc_ne c r)
      | cons a as =>
        rw [spc_miss e q]
        rw [q] at this
        simp only [List.length_cons] at this ⊢
        omega
theorem join_spc {c : Nat} : ∀ l : List Nat, joinL [c] (spc c l) = l
  | [] => rfl
  | d :: r => by
    have ih := join_spc (c := c) r
    by_cases e : d = c
    · subst e
      rw [spc_hit]
      cases q : spc d r with
      | nil => exact absurd q (spc_ne d r)
      | cons a as =>
        rw [q] at ih
        show [] ++ ([d] ++ joinL [d] (a :: as)) = d :: r
        rw [ih]
        rfl
    · cases q : spc c r with
      | nil => exact absurd q (spc_ne c r)
      | cons a as =>
        rw [q] at ih
        rw [spc_miss e q]
        cases as with
        | nil =>
          show d :: a = d :: r
          rw [← ih]
          rfl
        | cons b bs =>
          show (d :: a) ++ ([c] ++ joinL [c] (b :: bs)) = d :: r
          rw [← ih]
          rfl
theorem split_mem {x y p : Str} {c : Nat} (hy : tl y = [c]) (hk : y.cps.all (· < 256) = true) (h : p ∈ Txt.split x y) : p.length ≤ x.length ∧ c ∉ tl p ∧ ∀ d ∈ tl p, d ∈ tl x := by
  have := spc_sub (c := c) (l := tl x) (p := tl p) (by rw [← split_spc hy hk]; exact List.mem_map.mpr ⟨p, h, rfl⟩)
  rw [len_tl, len_tl]
  exact this
theorem split_length {x y : Str} {c : Nat} (hy : tl y = [c]) (hk : y.cps.all (· < 256) = true) : (Txt.split x y).length ≤ x.length + 1 := by
  have := spc_length (c := c) (tl x)
  rw [← split_spc hy hk, List.length_map, ← len_tl] at this
  exact this
theorem split_ne {x y : Str} {c : Nat} (hy : tl y = [c]) (hk : y.cps.all (· < 256) = true) : Txt.split x y ≠ [] := fun e => by
  have := split_spc (x := x) hy hk
  rw [e] at this
  exact spc_ne c _ this.symm
theorem join_split {x y : Str} {c : Nat} (hy : tl y = [c]) (hk : y.cps.all (· < 256) = true) : Txt.join y (Txt.split x y) = x := by
  refine ext_tl ?_
  rw [join_eq, tl_join, hy, split_spc hy hk, join_spc]
def okS (x : Str) : Prop := PySem.PyData.strOk x = true
theorem okS_iff {x : Str} : okS x ↔ ∀ c ∈ tl x, c < 0x110000 := by
  unfold okS PySem.PyData.strOk
  rw [← Array.all_toList, List.all_eq_true]
  simp only [decide_eq_true_eq]
theorem okS_sub {x p : Str} (h : okS x) (q : ∀ d ∈ tl p, d ∈ tl x) : okS p := okS_iff.mpr fun c hc => okS_iff.mp h c (q c hc)
theorem nl_tl : tl ("\n" : Str) = [10] := by decide +kernel
theorem nl_k : ("\n" : Str).cps.all (· < 256) = true := by decide +kernel
theorem bl_tl : tl (" " : Str) = [32] := by decide +kernel
theorem bl_k : (" " : Str).cps.all (· < 256) = true := by decide +kernel
end K82

namespace K82
open PySem PySem.Spec PyProof.Rows L2 DL
abbrev prg : Program := PySem.Challenge.pw_asunmoved_k82_texts_of_readers
def top (i : Nat) : Stmt := prg.main.body.getD i (.Pass ⟨0, 0, 0, 0⟩)

abbrev ca (K : PySem.W.Frag) (x : Str) : Addr := He.ga K x
abbrev mt (K : PySem.W.Frag) (x m : Str) : Addr := He.ma K (He.ga K x) m
structure RdF (K : PySem.W.Frag) : Prop where
  cls : Cls K (ca K "Reader")
  nat : NoAttr K (ca K "Reader") "own_lines"
  mkr : Mk K (ca K "Reader") (mt K "Reader" "__init__")
  rd : ClX.CRead K (ca K "Reader") (.type "type")
  of : ClX.CMet K (ca K "Reader") (.type "type") "of" (mt K "Reader" "of") (He5.wf K (ca K "Reader") "classmethod" "of")
  lines : PropOf K (ca K "Reader") "lines" (mt K "Reader" "lines") (He5.wf K (ca K "Reader") "property" "lines")
  tested : PropOf K (ca K "Reader") "tested" (mt K "Reader" "tested") (He5.wf K (ca K "Reader") "property" "tested")
  ne : PySem.W.findIn K (.ref (ca K "Reader")) "__ne__" = some (some (.builtin "object.__ne__"))
  strN : PySem.W.kitOne K (.ref (ca K "Reader")) (.type "str") = some false
  sub : PySem.W.subIn K (.ref (ca K "Reader")) (.type "object") = some true
  eqm : PySem.W.findIn K (.ref (ca K "Reader")) "__eq__" = some (some (.ref (mt K "Reader" "__eq__")))
  eqf : PySem.W.isFn K (.ref (mt K "Reader" "__eq__")) = true
structure Txt (K : PySem.W.Frag) (mg : Str → Option Value) : Prop where
  n_isinstance : mg "isinstance" = none
  n_len : mg "len" = none
  n_all : mg "all" = none
  n_int : mg "int" = none
  n_bool : mg "bool" = none
  n_str : mg "str" = none
  n_tuple : mg "tuple" = none
  n_list : mg "list" = none
  n_sorted : mg "sorted" = none
  n_set : mg "set" = none
  n_range : mg "range" = none
  n_abs : mg "abs" = none
  n_max : mg "max" = none
  n_min : mg "min" = none
  c_LETTERS : ∃ u, mg "LETTERS" = some u ∧ RelV (.str "abcdefghijklmnopqrstuvwxyz") u
  c_MAX_LETTERS : ∃ u, mg "MAX_LETTERS" = some u ∧ RelV (.int 8) u
  c_MAX_LINES : ∃ u, mg "MAX_LINES" = some u ∧ RelV (.int 16) u
  c_MAX_TESTED : ∃ u, mg "MAX_TESTED" = some u ∧ RelV (.int 6) u
  c_IF_readers : ∃ u, mg "IF_readers" = some u ∧ RelV (.str "if") u
  c_GO_readers : ∃ u, mg "GO_readers" = some u ∧ RelV (.str "go") u
  c_FIGURES : ∃ u, mg "FIGURES" = some u ∧ RelV (.str "0123456789") u
  c_MAX_FIGURES : ∃ u, mg "MAX_FIGURES" = some u ∧ RelV (.int 40) u
  c_BLANK : ∃ u, mg "BLANK" = some u ∧ RelV (.str " ") u
  c_NEWLINE : ∃ u, mg "NEWLINE" = some u ∧ RelV (.str "\n") u
  c_IF_formats : ∃ u, mg "IF_formats" = some u ∧ RelV (.str "if") u
  c_GO_formats : ∃ u, mg "GO_formats" = some u ∧ RelV (.str "go") u
  g_InvalidMover : mg "InvalidMover" = some (.ref (ca K "InvalidMover"))
  kp_InvalidMover : PySem.W.keepIn K (.ref (ca K "InvalidMover")) = true
  g_InvalidReader : mg "InvalidReader" = some (.ref (ca K "InvalidReader"))
  kp_InvalidReader : PySem.W.keepIn K (.ref (ca K "InvalidReader")) = true
  g_InvalidStore : mg "InvalidStore" = some (.ref (ca K "InvalidStore"))
  kp_InvalidStore : PySem.W.keepIn K (.ref (ca K "InvalidStore")) = true
  g_InvalidOperation : mg "InvalidOperation" = some (.ref (ca K "InvalidOperation"))
  kp_InvalidOperation : PySem.W.keepIn K (.ref (ca K "InvalidOperation")) = true
  g_ParseError : mg "ParseError" = some (.ref (ca K "ParseError"))
  kp_ParseError : PySem.W.keepIn K (.ref (ca K "ParseError")) = true
  g_MoveError : mg "MoveError" = some (.ref (ca K "MoveError"))
  kp_MoveError : PySem.W.keepIn K (.ref (ca K "MoveError")) = true
  g_Reader : mg "Reader" = some (.ref (ca K "Reader"))
  kp_Reader : PySem.W.keepIn K (.ref (ca K "Reader")) = true
  x_InvalidReader : PySem.W.excIn K (ca K "InvalidReader") He.veBase "ValueError.__new__" = true
  s_InvalidReader : PySem.W.subIn K (.ref (ca K "InvalidReader")) (.type "BaseException") = some true
  t_InvalidReader : PySem.W.typeIn K (.ref (ca K "InvalidReader")) = some (.type "type")
  x_ParseError : PySem.W.excIn K (ca K "ParseError") He.veBase "ValueError.__new__" = true
  s_ParseError : PySem.W.subIn K (.ref (ca K "ParseError")) (.type "BaseException") = some true
  t_ParseError : PySem.W.typeIn K (.ref (ca K "ParseError")) = some (.type "type")
  e_InvalidReader : PySem.W.exmOne K (.ref (ca K "InvalidReader")) (.ref (ca K "InvalidReader")) = some true
  em_InvalidReader : PySem.W.exmOne K (.ref (ca K "InvalidReader")) (.ref (ca K "MoveError")) = some true
  e_ParseError : PySem.W.exmOne K (.ref (ca K "ParseError")) (.ref (ca K "ParseError")) = some true
  em_ParseError : PySem.W.exmOne K (.ref (ca K "ParseError")) (.ref (ca K "MoveError")) = some true
  xc_InvalidReader : ExcC K (ca K "InvalidReader")
  ki_InvalidReader_InvalidMover : PySem.W.kitOne K (.ref (ca K "InvalidReader")) (.ref (ca K "InvalidMover")) = some false
  ki_InvalidReader_InvalidReader : PySem.W.kitOne K (.ref (ca K "InvalidReader")) (.ref (ca K "InvalidReader")) = some true
  ki_InvalidReader_InvalidStore : PySem.W.kitOne K (.ref (ca K "InvalidReader")) (.ref (ca K "InvalidStore")) = some false
  ki_InvalidReader_InvalidOperation : PySem.W.kitOne K (.ref (ca K "InvalidReader")) (.ref (ca K "InvalidOperation")) = some false
  ki_InvalidReader_ParseError : PySem.W.kitOne K (.ref (ca K "InvalidReader")) (.ref (ca K "ParseError")) = some false
  xc_ParseError : ExcC K (ca K "ParseError")
  ki_ParseError_InvalidMover : PySem.W.kitOne K (.ref (ca K "ParseError")) (.ref (ca K "InvalidMover")) = some false
  ki_ParseError_InvalidReader : PySem.W.kitOne K (.ref (ca K "ParseError")) (.ref (ca K "InvalidReader")) = some false
  ki_ParseError_InvalidStore : PySem.W.kitOne K (.ref (ca K "ParseError")) (.ref (ca K "InvalidStore")) = some false
  ki_ParseError_InvalidOperation : PySem.W.kitOne K (.ref (ca K "ParseError")) (.ref (ca K "InvalidOperation")) = some false
  ki_ParseError_ParseError : PySem.W.kitOne K (.ref (ca K "ParseError")) (.ref (ca K "ParseError")) = some true
  kit_Reader : KitC K (ca K "Reader")
  R : RdF K
section
variable {K : PySem.W.Frag} {mg : Str → Option Value}
theorem Txt.k_InvalidMover (T : Txt K mg) : ∃ u, mg "InvalidMover" = some u ∧ RelV (.ref (ca K "InvalidMover")) u := ⟨_, T.g_InvalidMover, rfl⟩
theorem Txt.k_InvalidReader (T : Txt K mg) : ∃ u, mg "InvalidReader" = some u ∧ RelV (.ref (ca K "InvalidReader")) u := ⟨_, T.g_InvalidReader, rfl⟩
theorem Txt.k_InvalidStore (T : Txt K mg) : ∃ u, mg "InvalidStore" = some u ∧ RelV (.ref (ca K "InvalidStore")) u := ⟨_, T.g_InvalidStore, rfl⟩
theorem Txt.k_InvalidOperation (T : Txt K mg) : ∃ u, mg "InvalidOperation" = some u ∧ RelV (.ref (ca K "InvalidOperation")) u := ⟨_, T.g_InvalidOperation, rfl⟩
theorem Txt.k_ParseError (T : Txt K mg) : ∃ u, mg "ParseError" = some u ∧ RelV (.ref (ca K "ParseError")) u := ⟨_, T.g_ParseError, rfl⟩
theorem Txt.k_MoveError (T : Txt K mg) : ∃ u, mg "MoveError" = some u ∧ RelV (.ref (ca K "MoveError")) u := ⟨_, T.g_MoveError, rfl⟩
theorem Txt.k_Reader (T : Txt K mg) : ∃ u, mg "Reader" = some u ∧ RelV (.ref (ca K "Reader")) u := ⟨_, T.g_Reader, rfl⟩
theorem Txt.r_InvalidReader (T : Txt K mg) {X : Cx} (e : X.K = K) : Raises X (.ref (ca K "InvalidReader")) := raises_own (by rw [e]; exact T.s_InvalidReader) (by rw [e]; exact T.t_InvalidReader)
theorem Txt.r_ParseError (T : Txt K mg) {X : Cx} (e : X.K = K) : Raises X (.ref (ca K "ParseError")) := raises_own (by rw [e]; exact T.s_ParseError) (by rw [e]; exact T.t_ParseError)
end

local macro_rules
  | `(tactic| walk_at "dl") => `(tactic| simp [dRet, dRetN, dAnd, dOr, dNot, dIf, dCB, dChain, dBin, dC, dVar, dCons, dNil, dStar, dTup, dLst, dSl, dPart, dNoPart, qIxL, qIxT, qIxS, qIxD, qLenS, qLenT, qLenL, qCutL, qCutT, qCutS, qAddI, qAddS, qAddT, qAddL, qSub, qMulI, qMulT, qMulL, qMod, qFdiv, qLtI, qLtS, qLeI, qLeS, qGtI, qGeI, qGtS, qGeS, qIntI, qIntB, qIntS, qLst1, qLst2, qTup1, qTup2, qStrI, qStrS, qIs1, qIs2, qIs3, qIs4, qIs5, qIs6, qIs7, qIs8, qIs9, qIs10, qIs11, qIs12, qIs13, qIs14, qIs15, qIs16, qIs17, qIs18, qIs19, qIs20, qIs21, qIs22, qIs23, qIs24, qIs25, qIs26, qIs27, qIs28, qIs29, qIs30, qIs31, qIs32, qIs33, qIs34, qIs35, qPowW, qAbs, qMax2, qMin2, qMulS, qLstS, qLstUL, qLstUT, atI_0, atI_1, atI_2, atI_3, atI_m1, dIsN, dNotN, DL.isNon, dNotT, dAndT, dOrT, dBoolT, dCmpT, dIfS, dSeq, dDrop, dAsg, dAsgS, mName, dNext, dBreak, dCont, dPar, dMatch, dCase, dCasesNil, dCall, dLstI, dTupI, dStrI, dRng1, dRng2, dFor, dM1, isStrD, isLstD, startM, shw, hid, SD.shw, SD.hid, dLc, stepD, wipeD, dName, dTrue, signsD, qKs, qKi, eq_strI, eq_intI, ne_strI, ne_intI, in_str2, in_sg, dIn, dNotIn, dNegI, dRaise, seqOf])

abbrev s_is_integer : Stmt := top 12
abbrev N_is_integer : List Str := ["value"]
theorem sc_is_integer : FnScope N_is_integer ["value"] (defScope s_is_integer) := ⟨rfl, rfl, rfl, by decide +kernel, rfl, by decide +kernel, by decide +kernel⟩

abbrev s_is_name : Stmt := top 13
abbrev N_is_name : List Str := ["value", "sign"]
theorem sc_is_name : FnScope N_is_name ["value"] (defScope s_is_name) := ⟨rfl, rfl, rfl, by decide +kernel, rfl, by decide +kernel, by decide +kernel⟩

abbrev s_is_target : Stmt := top 19
abbrev N_is_target : List Str := ["value", "size"]
theorem sc_is_target : FnScope N_is_target ["value", "size"] (defScope s_is_target) := ⟨rfl, rfl, rfl, by decide +kernel, rfl, by decide +kernel, by decide +kernel⟩

abbrev s_is_line : Stmt := top 20
abbrev N_is_line : List Str := ["value", "size"]
theorem sc_is_line : FnScope N_is_line ["value", "size"] (defScope s_is_line) := ⟨rfl, rfl, rfl, by decide +kernel, rfl, by decide +kernel, by decide +kernel⟩


def signs : Str := "abcdefghijklmnopqrstuvwxyz"
def isNm (s : Str) : Bool := decide (1 ≤ s.length) && decide (s.length ≤ 8) && s.cps.toList.all fun c => decide (c ∈ signs.cps.toList)
def p_is_integer (ds : List D) (P : PQ) : Prop := (∃ i, ds = [.int i] ∧ P (.bl true)) ∨ ∃ s, ds = [.str s] ∧ P (.bl false)
theorem p_is_integer_len {ds P} (h : p_is_integer ds P) : ds.length = 1 := by rcases h with ⟨_, rfl, _⟩ | ⟨_, rfl, _⟩ <;> rfl
def p_is_name (ds : List D) (P : PQ) : Prop := ∃ s : Str, ds = [.str s] ∧ s.length ≤ sizeLine ∧ P (.bl (isNm s))
theorem p_is_name_len {ds P} (h : p_is_name ds P) : ds.length = 1 := by obtain ⟨_, rfl, _⟩ := h; rfl
def p_is_target (ds : List D) (P : PQ) : Prop := ∃ n : Int, (∃ i : Int, ds = [.int i, .int n] ∧ P (.bl (decide (0 ≤ i) && decide (i ≤ n)))) ∨ ∃ s, ds = [.str s, .int n] ∧ P (.bl false)
theorem p_is_target_len {ds P} (h : p_is_target ds P) : ds.length = 2 := by rcases h with ⟨_, ⟨_, rfl, _⟩ | ⟨_, rfl, _⟩⟩ <;> rfl

section
variable {P : Program} {w : World} {K : PySem.W.Frag} {mg : Str → Option Value} {base : Heap}

theorem ok_is_integer (T : Txt K mg) (F : FD K mg "is_integer" s_is_integer ["value"]) : Cal P w K mg base 4 "is_integer" ["value"] p_is_integer := by
  refine cal_of F sc_is_integer (fun ds R h => p_is_integer_len h) (fun f cdv A outer s H E hr => ?_)
  refine ⟨_, (pds_one (pds_ret (pd_and (pd_callB cd_isiB call_isi rfl T.n_isinstance bb_isinstance (pda_cons (pd_var (pv 0)) (pda_cons (pd_c (fun _ _ => .raw _) (pe_bltn (v := .ty "int") rfl T.n_int bb_int rfl)) pda_nil))) (pd_one (pd_not (pd_callB cd_isiB call_isi rfl T.n_isinstance bb_isinstance (pda_cons (pd_var (pv 0)) (pda_cons (pd_c (fun _ _ => .raw _) (pe_bltn (v := .ty "bool") rfl T.n_bool bb_bool rfl)) pda_nil)))))))), ?_⟩
  rintro ds R (⟨i, rfl, h⟩ | ⟨s, rfl, h⟩)
  · walk_at "dl"
    exact h
  · walk_at "dl"
    exact h

theorem ok_is_name (T : Txt K mg) (F : FD K mg "is_name" s_is_name ["value"]) : Cal P w K mg base 4 "is_name" ["value"] p_is_name := by
  refine cal_of F sc_is_name (fun ds R h => p_is_name_len h) (fun f cdv A outer s H E hr => ?_)
  refine ⟨_, (pds_one (pds_ret (pd_and (pd_callB cd_isiB call_isi rfl T.n_isinstance bb_isinstance (pda_cons (pd_var (pv 0)) (pda_cons (pd_c (fun _ _ => .raw _) (pe_bltn (v := .ty "str") rfl T.n_str bb_str rfl)) pda_nil))) (pd_and (pd_chain op_leU opd_le op_leU opd_le pd_int (pd_callB cd_len call_len rfl T.n_len bb_len (pda_cons (pd_var (pv 0)) pda_nil)) (pd_glob rfl T.c_MAX_LETTERS (fun _ _ => .int _))) (pd_one (pd_callB cd_all (cr_all rfl) rfl T.n_all bb_all (pda_cons (pd_lc (own := [("sign", 1)]) (g := (gName 1)) (gd := (dName 1)) rfl sc_is_name.nd (pdi_str (pd_var (pv 0))) (blkOk_by (N := N_is_name) (sc := (defScope s_is_name)) (own := [("sign", 1)]) (by decide +kernel)) (fun _ _ _ _ _ => (pg_name (i := 1) sc_is_name.nd rfl (Or.inl rfl))) tgw_name (fun _ _ _ _ _ => pdts_nil) (fun _ _ _ _ _ => (pd_cmp (op_inU hr (by decide)) opd_in (pd_var (pv 1)) (pd_glob rfl T.c_LETTERS (fun _ _ => .str _)) rfl))) pda_nil))))))), ?_⟩
  rintro ds R ⟨s, rfl, hs, h⟩
  walk_at "dl"
  refine ⟨hs, ?_⟩
  unfold isNm at h
  by_cases h1 : 1 ≤ s.length
  · by_cases h2 : s.length ≤ 8
    · refine Or.inr ⟨by omega, Or.inr ⟨by omega, ?_⟩⟩
      refine lcD_mapL (f := fun c => D.bl (decide (c ∈ signs.cps.toList))) s.cps.toList (fun c _ k hk => ?_) hs (dAll_map ?_)
      · walk_at "dl"
        exact (by simpa [signs] using hk)
      · rwa [decide_eq_true h1, decide_eq_true h2, Bool.true_and, Bool.true_and] at h
    · rw [decide_eq_false h2, Bool.and_false, Bool.false_and] at h
      exact Or.inr ⟨by omega, Or.inl ⟨by omega, h⟩⟩
  · rw [decide_eq_false h1, Bool.false_and, Bool.false_and] at h
    exact Or.inl ⟨by omega, h⟩

theorem ok_is_target (T : Txt K mg) (F : FD K mg "is_target" s_is_target ["value", "size"]) (c_is_integer : Cal P w K mg base 4 "is_integer" ["value"] p_is_integer) : Cal P w K mg base 5 "is_target" ["value", "size"] p_is_target := by
  refine cal_of F sc_is_target (fun ds R h => p_is_target_len h) (fun f cdv A outer s H E hr => ?_)
  refine ⟨_, (pds_one (pds_ret (pd_and (pd_cal c_is_integer (hr.mono (by decide)) (pda_cons (pd_var (pv 0)) pda_nil)) (pd_one (pd_chain op_leU opd_le op_leU opd_le pd_int (pd_var (pv 0)) (pd_var (pv 1))))))), ?_⟩
  rintro ds R ⟨n, ⟨i, rfl, h⟩ | ⟨s, rfl, h⟩⟩
  · walk_at "dl"
    refine Or.inl ⟨_, rfl, ?_⟩
    by_cases q : 0 ≤ i
    · rw [decide_eq_true q, Bool.true_and] at h
      exact (by simpa [q] using Or.inr h)
    · rw [decide_eq_false q, Bool.false_and] at h
      have q2 : i < 0 := by omega
      exact (by simpa [q, q2] using h)
  · walk_at "dl"
    exact Or.inr ⟨_, rfl, by simpa using h⟩

end

/-- a line: its words, and the number at its end, if any -/
structure Ln where
  ws : List Str
  num : Option Int
  deriving DecidableEq
def Ln.keys (l : Ln) : List Key := l.ws.map Sum.inr ++ (l.num.map Sum.inl).toList
def Ln.d (l : Ln) : D := tupK l.keys
def okL (n : Int) : Ln → Bool
  | ⟨[g], some i⟩ => decide (g = "go") && (decide (0 ≤ i) && decide (i ≤ n))
  | ⟨[g, a, b], some i⟩ => decide (g = "if") && (isNm a && (isNm b && (decide (0 ≤ i) && decide (i ≤ n))))
  | ⟨[g, a, b], none⟩ => (decide (g = "read") || decide (g = "look")) && (isNm a && isNm b)
  | _ => false
structure Ln.Wf (l : Ln) : Prop where
  ne : l.ws ≠ []
  num : l.num.isSome = true → l.ws.head? = some "if" ∨ l.ws.head? = some "go"
  len : ∀ x ∈ l.ws, x.length ≤ sizeLine
  ok : ∀ x ∈ l.ws, PySem.PyData.strOk x = true
theorem Ln.Wf.kok {l : Ln} (h : l.Wf) : l.keys.all kOk = true := by
  rw [List.all_eq_true]
  intro x hx
  unfold Ln.keys at hx
  rcases List.mem_append.mp hx with q | q
  · obtain ⟨y, hy, rfl⟩ := List.mem_map.mp q
    exact h.ok y hy
  · cases e : l.num with
    | none => rw [e] at q; cases q
    | some i =>
      rw [e] at q
      cases List.mem_singleton.mp q
      rfl
def p_is_line (ds : List D) (P : PQ) : Prop := ∃ (l : Ln) (n : Int), ds = [l.d, .int n] ∧ l.Wf ∧ P (.bl (okL n l))
theorem p_is_line_len {ds P} (h : p_is_line ds P) : ds.length = 2 := by obtain ⟨_, _, rfl, _⟩ := h; rfl
theorem dEq_tup0 {k : List Key} {P : PQ} (h : k.all kOk = true) (p : P (.bl (decide (k = [])))) : dEq (tupK k) (.tup []) P := dEq_tup (b := []) h rfl p
theorem nmI {a : Str} (ha : a.length ≤ sizeLine) {A B : Prop} (h : isNm a = false → A) (h2 : isNm a = true → B) : p_is_name [.str a] (fun d => d = .bl false ∧ A ∨ d = .bl true ∧ B) := ⟨a, rfl, ha, by
  cases e : isNm a
  · exact .inl ⟨rfl, h e⟩
  · exact .inr ⟨rfl, h2 e⟩⟩
section
variable {P : Program} {w : World} {K : PySem.W.Frag} {mg : Str → Option Value} {base : Heap}

theorem ok_is_line (T : Txt K mg) (F : FD K mg "is_line" s_is_line ["value", "size"]) (c_is_target : Cal P w K mg base 5 "is_target" ["value", "size"] p_is_target) (c_is_name : Cal P w K mg base 4 "is_name" ["value"] p_is_name) : Cal P w K mg base 6 "is_line" ["value", "size"] p_is_line := by
  refine cal_of F sc_is_line (fun ds R h => p_is_line_len h) (fun f cdv A outer s H E hr => ?_)
  refine ⟨_, (pds_cons (pds_if (PW.pt (pdw_or (pdt_not (pdt_val (pd_callB cd_isiB call_isi rfl T.n_isinstance bb_isinstance (pda_cons (pd_var (pv 0)) (pda_cons (pd_c (fun _ _ => .raw _) (pe_bltn (v := .ty "tuple") rfl T.n_tuple bb_tuple rfl)) pda_nil))))) (pdw_or (pdt_cmp (op_eqU hr) opd_eq (pd_var (pv 0)) (pd_tup pda_nil) (nomark _)) (pdw_or1 (pdt_not (pdt_val (pd_callB cd_isiB call_isi rfl T.n_isinstance bb_isinstance (pda_cons (pd_ix (pd_var (pv 0)) pd_int) (pda_cons (pd_c (fun _ _ => .raw _) (pe_bltn (v := .ty "str") rfl T.n_str bb_str rfl)) pda_nil))))))))) (pds_one (pds_ret pd_bl)) pds_nil)
    (pds_cons (pds_match (pd_ix (pd_var (pv 0)) pd_int) (pdc_cons pp_str (pds_one (pds_ret (pd_and (pd_cmp (op_eqU hr) opd_eq (pd_callB cd_len call_len rfl T.n_len bb_len (pda_cons (pd_var (pv 0)) pda_nil)) pd_int (nomark _)) (pd_one (pd_cal c_is_target (hr.mono (by decide)) (pda_cons (pd_ix (pd_var (pv 0)) pd_int) (pda_cons (pd_var (pv 1)) pda_nil)))))))
    (pdc_cons pp_str (pds_one (pds_ret (pd_and (pd_cmp (op_eqU hr) opd_eq (pd_callB cd_len call_len rfl T.n_len bb_len (pda_cons (pd_var (pv 0)) pda_nil)) pd_int (nomark _)) (pd_and (pd_cal c_is_name (hr.mono (by decide)) (pda_cons (pd_ix (pd_var (pv 0)) pd_int) pda_nil)) (pd_and (pd_cal c_is_name (hr.mono (by decide)) (pda_cons (pd_ix (pd_var (pv 0)) pd_int) pda_nil)) (pd_one (pd_cal c_is_target (hr.mono (by decide)) (pda_cons (pd_ix (pd_var (pv 0)) pd_int) (pda_cons (pd_var (pv 1)) pda_nil)))))))))
    (pdc_cons (pp_or (pf_cons pp_str (pf_cons pp_str pf_nil))) (pds_one (pds_ret (pd_and (pd_cmp (op_eqU hr) opd_eq (pd_callB cd_len call_len rfl T.n_len bb_len (pda_cons (pd_var (pv 0)) pda_nil)) pd_int (nomark _)) (pd_and (pd_cal c_is_name (hr.mono (by decide)) (pda_cons (pd_ix (pd_var (pv 0)) pd_int) pda_nil)) (pd_one (pd_cal c_is_name (hr.mono (by decide)) (pda_cons (pd_ix (pd_var (pv 0)) pd_int) pda_nil)))))))
    pdc_nil))))
    (pds_one (pds_ret pd_bl)))), ?_⟩
  rintro ds R ⟨⟨ws, num⟩, n, rfl, W, h⟩
  have e0 : ∀ P, dEq (Ln.d ⟨ws, num⟩) (.tup []) P ↔ P (.bl false) := fun P => (dEq_tupI (b := []) W.kok rfl).trans (by
    have : (Ln.keys ⟨ws, num⟩) ≠ [] := by
      intro e
      unfold Ln.keys at e
      exact W.ne (List.map_eq_nil_iff.mp (List.append_eq_nil_iff.mp e).1)
    rw [decide_eq_false this])
  have len := W.len
  match ws, num, W, h, e0, len with
  | [], _, W, _, _, _ => exact absurd rfl W.ne
  | [g], none, W, h, e0, len =>
    simp only [Ln.d, Ln.keys, tupK, List.map_cons, List.map_nil, List.append_nil, List.cons_append, List.nil_append, Option.map, Option.toList, kD] at e0 ⊢
    walk_at "dl"
    simp [e0]
    exact h
  | [g], some i, W, h, e0, len =>
    simp only [Ln.d, Ln.keys, tupK, List.map_cons, List.map_nil, List.append_nil, List.cons_append, List.nil_append, Option.map, Option.toList, kD] at e0 ⊢
    walk_at "dl"
    simp [e0]
    split
    · exact ⟨n, Or.inl ⟨i, rfl, by simpa [okL, *] using h⟩⟩
    · exact (by simpa [okL, *] using h)
  | [g, a], none, W, h, e0, len =>
    simp only [Ln.d, Ln.keys, tupK, List.map_cons, List.map_nil, List.append_nil, List.cons_append, List.nil_append, Option.map, Option.toList, kD] at e0 ⊢
    walk_at "dl"
    simp [e0]
    split
    · exact ⟨n, Or.inr ⟨a, rfl, h⟩⟩
    · exact h
  | [g, a], some i, W, h, e0, len =>
    simp only [Ln.d, Ln.keys, tupK, List.map_cons, List.map_nil, List.append_nil, List.cons_append, List.nil_append, Option.map, Option.toList, kD] at e0 ⊢
    walk_at "dl"
    simp [e0]
    rcases W.num rfl with q | q <;> cases q
    · exact (by simpa [okL] using h)
    · exact (by simpa [okL] using h)
  | [g, a, b], none, W, h, e0, len =>
    simp only [Ln.d, Ln.keys, tupK, List.map_cons, List.map_nil, List.append_nil, List.cons_append, List.nil_append, Option.map, Option.toList, kD] at e0 ⊢
    walk_at "dl"
    simp [e0]
    have la := len a (by simp)
    have lb := len b (by simp)
    split
    · subst_vars; exact h
    split
    · subst_vars; exact h
    split
    · refine nmI la (fun e => ?_) (fun e => ⟨b, rfl, lb, ?_⟩)
      · exact (by simpa [okL, e] using h)
      · rename_i q3
        rcases q3 with rfl | rfl
        · exact (by simpa [okL, e] using h)
        · exact (by simpa [okL, e] using h)
    · simp only [not_or] at *
      exact (by simpa [okL, *] using h)
  | [g, a, b], some i, W, h, e0, len =>
    simp only [Ln.d, Ln.keys, tupK, List.map_cons, List.map_nil, List.append_nil, List.cons_append, List.nil_append, Option.map, Option.toList, kD] at e0 ⊢
    walk_at "dl"
    simp [e0]
    have la := len a (by simp)
    have lb := len b (by simp)
    rcases W.num rfl with q | q <;> cases q
    · simp only [okL] at h
      simp
      refine nmI la (fun e => ?_) (fun e => nmI lb (fun e2 => ?_) (fun e2 => ⟨n, Or.inl ⟨i, rfl, ?_⟩⟩))
      · exact (by simpa [e] using h)
      · exact (by simpa [e, e2] using h)
      · exact (by simpa [e, e2] using h)
    · simp only [okL] at h
      rw [decide_eq_false (by decide)] at h
      exact (by simpa using h)
  | [g, a, b, c], none, W, h, e0, len =>
    simp only [Ln.d, Ln.keys, tupK, List.map_cons, List.map_nil, List.append_nil, List.cons_append, List.nil_append, Option.map, Option.toList, kD] at e0 ⊢
    walk_at "dl"
    simp [e0]
    have la := len a (by simp)
    have lb := len b (by simp)
    have h' : R (.bl false) := h
    split
    · exact h'
    split
    · exact nmI la (fun e => h') (fun e => nmI lb (fun e2 => h') (fun e2 => ⟨n, Or.inr ⟨c, rfl, h'⟩⟩))
    · exact h'
  | [g, a, b, c], some i, W, h, e0, len =>
    simp only [Ln.d, Ln.keys, tupK, List.map_cons, List.map_nil, List.append_nil, List.cons_append, List.nil_append, Option.map, Option.toList, kD] at e0 ⊢
    walk_at "dl"
    simp [e0]
    exact h
  | g :: a :: b :: c :: d :: r, nu, W, h, e0, len =>
    simp only [Ln.d, Ln.keys, tupK, List.map_cons, List.cons_append, kD] at e0 ⊢
    have h' : R (.bl false) := by cases nu <;> exact h
    generalize List.map kD (List.map Sum.inr r ++ (Option.map Sum.inl nu).toList) = t at e0 ⊢
    have n2 : ¬ ((t.length : Int) + 1 + 1 + 1 + 1 + 1 = 2) := by omega
    have n3 : ¬ ((t.length : Int) + 1 + 1 + 1 + 1 + 1 = 3) := by omega
    have n4 : ¬ ((t.length : Int) + 1 + 1 + 1 + 1 + 1 = 4) := by omega
    walk_at "dl"
    simp [e0, n2, n3, n4]
    exact (h')

end
end K82

namespace K82
open PySem PySem.Spec PyProof.Rows L2 DL

local macro_rules
  | `(tactic| walk_at "dl") => `(tactic| simp [dRet, dRetN, dAnd, dOr, dNot, dIf, dCB, dChain, dBin, dC, dVar, dCons, dNil, dStar, dTup, dLst, dSl, dPart, dNoPart, qIxL, qIxT, qIxS, qIxD, qLenS, qLenT, qLenL, qCutL, qCutT, qCutS, qAddI, qAddS, qAddT, qAddL, qSub, qMulI, qMulT, qMulL, qMod, qFdiv, qLtI, qLtS, qLeI, qLeS, qGtI, qGeI, qGtS, qGeS, qIntI, qIntB, qIntS, qLst1, qLst2, qTup1, qTup2, qStrI, qStrS, qIs1, qIs2, qIs3, qIs4, qIs5, qIs6, qIs7, qIs8, qIs9, qIs10, qIs11, qIs12, qIs13, qIs14, qIs15, qIs16, qIs17, qIs18, qIs19, qIs20, qIs21, qIs22, qIs23, qIs24, qIs25, qIs26, qIs27, qIs28, qIs29, qIs30, qIs31, qIs32, qIs33, qIs34, qIs35, qPowW, qAbs, qMax2, qMin2, qMulS, qLstS, qLstUL, qLstUT, atI_0, atI_1, atI_2, atI_3, atI_m1, dIsN, dNotN, DL.isNon, dNotT, dAndT, dOrT, dBoolT, dCmpT, dIfS, dSeq, dDrop, dAsg, dAsgS, mName, dNext, dBreak, dCont, dPar, dMatch, dCase, dCasesNil, dCall, dLstI, dTupI, dStrI, dRng1, dRng2, dFor, dM1, isStrD, isLstD, startM, shw, hid, SD.shw, SD.hid, dLc, stepD, wipeD, dName, dTrue, signsD, qKs, qKi, eq_strI, eq_intI, ne_strI, ne_intI, in_str2, in_sg, dIn, dNotIn, dNegI, dRaise, seqOf])

abbrev s_tested_in : Stmt := top 21
abbrev N_tested_in : List Str := ["lines", "line"]
theorem sc_tested_in : FnScope N_tested_in ["lines"] (defScope s_tested_in) := ⟨rfl, rfl, rfl, by decide +kernel, rfl, by decide +kernel, by decide +kernel⟩

abbrev s_require_lines : Stmt := top 23
abbrev N_require_lines : List Str := ["lines", "line"]
theorem sc_require_lines : FnScope N_require_lines ["lines"] (defScope s_require_lines) := ⟨rfl, rfl, rfl, by decide +kernel, rfl, by decide +kernel, by decide +kernel⟩


/-- the tested pair of a line -/
def prOf : Ln → Option (List Key)
  | ⟨[g, a, b], some _⟩ => some [Sum.inr a, Sum.inr b]
  | _ => none
def prs (ls : List Ln) : List (List Key) := ls.filterMap prOf
def dd : List (List Key) → List (List Key)
  | [] => []
  | k :: ks => if (dd ks).any (fun y => decide (y = k)) then dd ks else k :: dd ks
theorem any_eq {k : List Key} {ks : List (List Key)} : (ks.any fun y => decide (y = k)) = true ↔ k ∈ ks := by
  rw [List.any_eq_true]
  exact ⟨fun ⟨y, hy, e⟩ => by rw [← of_decide_eq_true e]; exact hy, fun h => ⟨k, h, decide_eq_true rfl⟩⟩
theorem dd_mem {x : List Key} : ∀ {ks : List (List Key)}, x ∈ dd ks ↔ x ∈ ks
  | [] => Iff.rfl
  | k :: ks => by
    unfold dd
    split
    · rename_i h
      have h := any_eq.mp h
      rw [List.mem_cons, dd_mem]
      exact ⟨.inr, fun q => q.elim (fun e => by rw [e]; exact dd_mem.mp h) id⟩
    · rw [List.mem_cons, List.mem_cons, dd_mem]
theorem dd_nodup : ∀ {ks : List (List Key)}, (dd ks).Nodup
  | [] => List.nodup_nil
  | k :: ks => by
    unfold dd
    split
    · exact dd_nodup
    · rename_i h
      exact List.nodup_cons.mpr ⟨fun q => h (any_eq.mpr q), dd_nodup⟩
theorem dd_len {ks ys : List (List Key)} (nd : ys.Nodup) (h : ∀ k, k ∈ ys ↔ k ∈ ks) : ys.length = (dd ks).length :=
  ((List.perm_ext_iff_of_nodup nd dd_nodup).mpr fun k => (h k).trans dd_mem.symm).length_eq
def nTested (ls : List Ln) : Nat := (dd (prs ls)).length
def lnsD (ls : List Ln) : D := .tup (ls.map Ln.d)
theorem okL_shape {n : Int} : ∀ {l : Ln}, okL n l = true → (∃ i, l = ⟨["go"], some i⟩ ∧ 0 ≤ i ∧ i ≤ n) ∨ (∃ a b i, l = ⟨["if", a, b], some i⟩ ∧ isNm a = true ∧ isNm b = true ∧ 0 ≤ i ∧ i ≤ n) ∨ ∃ g a b, l = ⟨[g, a, b], none⟩ ∧ (g = "read" ∨ g = "look") ∧ isNm a = true ∧ isNm b = true
  | ⟨[g], some i⟩, h => by
    simp only [okL, Bool.and_eq_true, decide_eq_true_eq] at h
    obtain ⟨rfl, h1, h2⟩ := h
    exact .inl ⟨i, rfl, h1, h2⟩
  | ⟨[g, a, b], some i⟩, h => by
    simp only [okL, Bool.and_eq_true, decide_eq_true_eq] at h
    obtain ⟨rfl, h1, h2, h3, h4⟩ := h
    exact .inr (.inl ⟨a, b, i, rfl, h1, h2, h3, h4⟩)
  | ⟨[g, a, b], none⟩, h => by
    simp only [okL, Bool.and_eq_true, Bool.or_eq_true, decide_eq_true_eq] at h
    exact .inr (.inr ⟨g, a, b, rfl, h.1, h.2.1, h.2.2⟩)
def p_tested_in (ds : List D) (P : PQ) : Prop := ∃ (ls : List Ln) (n : Int), ds = [lnsD ls] ∧ ls.length < 64 ∧ (∀ l ∈ ls, l.Wf ∧ okL n l = true) ∧ ∀ ys : List (List Key), ys.length = nTested ls → P (.tup (ys.map tupK))
theorem p_tested_in_len {ds P} (h : p_tested_in ds P) : ds.length = 1 := by obtain ⟨_, _, rfl, _⟩ := h; rfl
def validR (ls : List Ln) : Bool := decide (ls.length ≤ 16) && (ls.all (okL ls.length) && decide (nTested ls ≤ 6))
def p_require_lines (K : PySem.W.Frag) (ds : List D) (P : PQ) (E : XQ) : Prop := ∃ ls : List Ln, ds = [lnsD ls] ∧ (∀ l ∈ ls, l.Wf) ∧ ((validR ls = true → P .non) ∧ (validR ls = false → E (.own (ca K "InvalidReader"))))
theorem p_require_lines_len {K ds P E} (h : p_require_lines K ds P E) : ds.length = 1 := by obtain ⟨_, rfl, _⟩ := h; rfl
section

variable {P : Program} {w : World} {K : PySem.W.Frag} {mg : Str → Option Value} {base : Heap}

theorem ok_tested_in (T : Txt K mg) (F : FD K mg "tested_in" s_tested_in ["lines"]) : Cal P w K mg base 4 "tested_in" ["lines"] p_tested_in := by
  refine cal_of F sc_tested_in (fun ds R h => p_tested_in_len h) (fun f cdv A outer s H E hr => ?_)
  refine ⟨_, (pds_one (pds_ret (pd_callTy cd_tuple call_tuple_of rfl T.n_tuple bb_tuple (pda_cons (pd_sset rfl (Nat.lt_of_succ_lt (units65 hr (by decide))) rfl T.n_sorted rfl T.n_set (pd_lc (own := [("line", 1)]) (g := (gName 1)) (gd := (dName 1)) rfl sc_tested_in.nd (pdi_tup (pd_var (pv 0))) (blkOk_by (N := N_tested_in) (sc := (defScope s_tested_in)) (own := [("line", 1)]) (by decide +kernel)) (fun _ _ _ _ _ => (pg_name (i := 1) sc_tested_in.nd rfl (Or.inl rfl))) tgw_name (fun _ _ _ _ _ => (pdts_one (pdt_cmp (op_eqU hr) opd_eq (pd_ix (pd_var (pv 1)) pd_int) (pd_glob rfl T.c_IF_readers (fun _ _ => .str _)) (nomark _)))) (fun _ _ _ _ _ => (pd_slice (pd_var (pv 1)) (pdo_some pd_int) (pdo_some pd_int))))) pda_nil)))), ?_⟩
  rintro ds R ⟨ls, n, rfl, hl, hw, h⟩
  unfold lnsD
  walk_at "dl"
  unfold dSset
  walk_at "dl"
  refine lcD_filL (f := fun l => (prOf l).map tupK) ls (fun l hlm k hk => ?_) (Nat.le_trans (Nat.le_of_lt hl) (by decide)) ?_
  · obtain ⟨_, ok⟩ := hw l hlm
    rcases okL_shape ok with ⟨i, rfl, _⟩ | ⟨a, b, i, rfl, _⟩ | ⟨g, a, b, rfl, hg, _⟩
    · unfold Ln.d Ln.keys tupK
      walk_at "dl"
      exact Or.inl ⟨by decide, hk⟩
    · unfold Ln.d Ln.keys tupK
      walk_at "dl"
      rw [cut13]
      exact hk
    · unfold Ln.d Ln.keys tupK
      rcases hg with rfl | rfl
      · walk_at "dl"
        exact Or.inl ⟨by decide, hk⟩
      · walk_at "dl"
        exact Or.inl ⟨by decide, hk⟩
  · refine ⟨prs ls, by unfold prs; rw [List.map_filterMap], Nat.lt_of_le_of_lt (List.length_filterMap_le _ _) hl, ⟨fun _ => true, fun k hk => ?_⟩, fun ys nd hm _ => h ys (dd_len nd hm)⟩
    obtain ⟨l, hlm, e⟩ := List.mem_filterMap.mp hk
    obtain ⟨_, ok⟩ := hw l hlm
    rcases okL_shape ok with ⟨i, rfl, _⟩ | ⟨a, b, i, rfl, _⟩ | ⟨g, a, b, rfl, hg, _⟩
    · cases e
    · cases e
      exact ⟨⟨rfl, rfl, trivial⟩, by simp⟩
    · cases e

theorem ok_require_lines (T : Txt K mg) (F : FD K mg "require_lines" s_require_lines ["lines"]) (c_tested_in : Cal P w K mg base 4 "tested_in" ["lines"] p_tested_in) (c_is_line : Cal P w K mg base 6 "is_line" ["value", "size"] p_is_line) : CalG P w K mg base (L2N.CX P w) 7 "require_lines" ["lines"] (p_require_lines K) := by
  refine cal_ofC F sc_require_lines (fun ds R E h => p_require_lines_len h) (fun f cdv A outer s H E hr => ?_)
  have tk := L2N.takes_of (X := cxOf (L2N.CX P w) P w K mg base N_require_lines "require_lines" (defScope s_require_lines) f cdv A outer s H E) rfl rfl rfl rfl
  refine ⟨_, (pds_cons (pds_if (PW.pt (pdw_or (pdt_not (pdt_val (pd_callB cd_isiB call_isi rfl T.n_isinstance bb_isinstance (pda_cons (pd_var (pv 0)) (pda_cons (pd_c (fun _ _ => .raw _) (pe_bltn (v := .ty "tuple") rfl T.n_tuple bb_tuple rfl)) pda_nil))))) (pdw_or1 (pdt_cmp op_gtU opd_gt (pd_callB cd_len call_len rfl T.n_len bb_len (pda_cons (pd_var (pv 0)) pda_nil)) (pd_glob rfl T.c_MAX_LINES (fun _ _ => .int _)) (nomark _))))) (pds_one (pds_raise (L2N.ps_raise rfl tk (L2N.pmk_own PySem.F.excBase_ValueError T.x_InvalidReader T.g_InvalidReader T.kp_InvalidReader (T.r_InvalidReader rfl) rfl)))) pds_nil)
    (pds_cons (pds_if (pdt_not (pdt_val (pd_callB cd_all (cr_all rfl) rfl T.n_all bb_all (pda_cons (pd_lc (own := [("line", 1)]) (g := (gName 1)) (gd := (dName 1)) rfl sc_require_lines.nd (pdi_tup (pd_var (pv 0))) (blkOk_by (N := N_require_lines) (sc := (defScope s_require_lines)) (own := [("line", 1)]) (by decide +kernel)) (fun _ _ _ _ _ => (pg_name (i := 1) sc_require_lines.nd rfl (Or.inl rfl))) tgw_name (fun _ _ _ _ _ => pdts_nil) (fun _ _ _ _ _ => (pd_cal c_is_line (hr.mono (by decide)) (pda_cons (pd_var (pv 1)) (pda_cons (pd_callB cd_len call_len rfl T.n_len bb_len (pda_cons (pd_var (pv 0)) pda_nil)) pda_nil))))) pda_nil)))) (pds_one (pds_raise (L2N.ps_raise rfl tk (L2N.pmk_own PySem.F.excBase_ValueError T.x_InvalidReader T.g_InvalidReader T.kp_InvalidReader (T.r_InvalidReader rfl) rfl)))) pds_nil)
    (pds_one (pds_if (pdt_cmp op_gtU opd_gt (pd_callB cd_len call_len rfl T.n_len bb_len (pda_cons (pd_cal c_tested_in (hr.mono (by decide)) (pda_cons (pd_var (pv 0)) pda_nil)) pda_nil)) (pd_glob rfl T.c_MAX_TESTED (fun _ _ => .int _)) (nomark _)) (pds_one (pds_raise (L2N.ps_raise rfl tk (L2N.pmk_own PySem.F.excBase_ValueError T.x_InvalidReader T.g_InvalidReader T.kp_InvalidReader (T.r_InvalidReader rfl) rfl)))) pds_nil)))), ?_⟩
  rintro ds R Ex ⟨ls, rfl, hw, h1, h2⟩
  unfold lnsD
  walk_at "dl"
  unfold validR at h1 h2
  by_cases q1 : ls.length ≤ 16
  · rw [decide_eq_true q1, Bool.true_and] at h1 h2
    refine Or.inl ⟨by omega, lcD_mapL (f := fun l => D.bl (okL ls.length l)) ls (fun l hlm k hk => ?_) (Nat.le_trans q1 (by decide)) (dAll_map ?_)⟩
    · walk_at "dl"
      exact ⟨l, ls.length, rfl, hw l hlm, hk⟩
    · cases q2 : ls.all (okL ls.length) with
      | false =>
        rw [q2] at h2
        exact Or.inl ⟨rfl, h2 rfl⟩
      | true =>
        rw [q2, Bool.true_and] at h1 h2
        refine Or.inr ⟨rfl, ls, ls.length, rfl, by omega, fun l hlm => ⟨hw l hlm, List.all_eq_true.mp q2 l hlm⟩, fun ys hy => ?_⟩
        walk_at "dl"
        rw [hy]
        by_cases q3 : nTested ls ≤ 6
        · exact Or.inl ⟨by omega, h1 (decide_eq_true q3)⟩
        · exact Or.inr ⟨by omega, h2 (decide_eq_false q3)⟩
  · rw [decide_eq_false q1, Bool.false_and] at h2
    exact Or.inr ⟨by omega, h2 rfl⟩

end
end K82

namespace K82
open PySem PySem.Spec PyProof.Rows L2 DL
open TL

local macro_rules
  | `(tactic| walk_at "dl") => `(tactic| simp [dRet, dRetN, dAnd, dOr, dNot, dIf, dCB, dChain, dBin, dC, dVar, dCons, dNil, dStar, dTup, dLst, dSl, dPart, dNoPart, qIxL, qIxT, qIxS, qIxD, qLenS, qLenT, qLenL, qCutL, qCutT, qCutS, qAddI, qAddS, qAddT, qAddL, qSub, qMulI, qMulT, qMulL, qMod, qFdiv, qLtI, qLtS, qLeI, qLeS, qGtI, qGeI, qGtS, qGeS, qIntI, qIntB, qIntS, qLst1, qLst2, qTup1, qTup2, qStrI, qStrS, qIs1, qIs2, qIs3, qIs4, qIs5, qIs6, qIs7, qIs8, qIs9, qIs10, qIs11, qIs12, qIs13, qIs14, qIs15, qIs16, qIs17, qIs18, qIs19, qIs20, qIs21, qIs22, qIs23, qIs24, qIs25, qIs26, qIs27, qIs28, qIs29, qIs30, qIs31, qIs32, qIs33, qIs34, qIs35, qPowW, qAbs, qMax2, qMin2, qMulS, qLstS, qLstUL, qLstUT, atI_0, atI_1, atI_2, atI_3, atI_m1, dIsN, dNotN, DL.isNon, dNotT, dAndT, dOrT, dBoolT, dCmpT, dIfS, dSeq, dDrop, dAsg, dAsgS, mName, dNext, dBreak, dCont, dPar, dMatch, dCase, dCasesNil, dCall, dLstI, dTupI, dStrI, dRng1, dRng2, dFor, dM1, isStrD, isLstD, startM, shw, hid, SD.shw, SD.hid, dLc, stepD, wipeD, dName, dTrue, signsD, qKs, qKi, eq_strI, eq_intI, ne_strI, ne_intI, in_str2, in_sg, dIn, dNotIn, dNegI, dRaise, seqOf])

abbrev s_require_text : Stmt := top 35
abbrev N_require_text : List Str := ["text"]
theorem sc_require_text : FnScope N_require_text ["text"] (defScope s_require_text) := ⟨rfl, rfl, rfl, by decide +kernel, rfl, by decide +kernel, by decide +kernel⟩

abbrev s_require_equal_text : Stmt := top 36
abbrev N_require_equal_text : List Str := ["one", "other"]
theorem sc_require_equal_text : FnScope N_require_equal_text ["one", "other"] (defScope s_require_equal_text) := ⟨rfl, rfl, rfl, by decide +kernel, rfl, by decide +kernel, by decide +kernel⟩

abbrev s_integer_in : Stmt := top 37
abbrev N_integer_in : List Str := ["word", "sign"]
theorem sc_integer_in : FnScope N_integer_in ["word"] (defScope s_integer_in) := ⟨rfl, rfl, rfl, by decide +kernel, rfl, by decide +kernel, by decide +kernel⟩

abbrev s_words_of_lines : Stmt := top 38
abbrev N_words_of_lines : List Str := ["text", "line"]
theorem sc_words_of_lines : FnScope N_words_of_lines ["text"] (defScope s_words_of_lines) := ⟨rfl, rfl, rfl, by decide +kernel, rfl, by decide +kernel, by decide +kernel⟩

abbrev s_line_text : Stmt := top 39
abbrev N_line_text : List Str := ["line", "word"]
theorem sc_line_text : FnScope N_line_text ["line"] (defScope s_line_text) := ⟨rfl, rfl, rfl, by decide +kernel, rfl, by decide +kernel, by decide +kernel⟩

abbrev s_line_of : Stmt := top 40
abbrev N_line_of : List Str := ["words"]
theorem sc_line_of : FnScope N_line_of ["words"] (defScope s_line_of) := ⟨rfl, rfl, rfl, by decide +kernel, rfl, by decide +kernel, by decide +kernel⟩


abbrev xd (K : PySem.W.Frag) (c : Str) : XD := .own (ca K c)
def p_require_text (K : PySem.W.Frag) (ds : List D) (P : PQ) (E : XQ) : Prop := (∃ t, ds = [.str t] ∧ P .non) ∨ ∃ x a, ds = [x] ∧ tyN x = some a ∧ a ≠ "str" ∧ E (xd K "ParseError")
theorem p_require_text_len {K ds P E} (h : p_require_text K ds P E) : ds.length = 1 := by rcases h with ⟨_, rfl, _⟩ | ⟨_, _, rfl, _⟩ <;> rfl
def p_require_equal_text (K : PySem.W.Frag) (ds : List D) (P : PQ) (E : XQ) : Prop := ∃ a b, ds = [.str a, .str b] ∧ (a = b → P .non) ∧ (a ≠ b → E (xd K "ParseError"))
theorem p_require_equal_text_len {K ds P E} (h : p_require_equal_text K ds P E) : ds.length = 2 := by obtain ⟨_, _, rfl, _⟩ := h; rfl
def figs : Str := "0123456789"
def isNum (s : Str) : Bool := decide (1 ≤ s.length) && (decide (s.length ≤ 40) && s.cps.toList.all fun c => decide (c ∈ figs.cps.toList))
def numV (s : Str) : Int := (NumText.digitsVal (tl s) : Nat)
theorem figs_mem {c : Nat} : c ∈ figs.cps.toList ↔ 48 ≤ c ∧ c ≤ 57 := by
  have e : figs.cps.toList = [48, 49, 50, 51, 52, 53, 54, 55, 56, 57] := by decide +kernel
  rw [e]
  simp only [List.mem_cons, List.not_mem_nil, or_false]
  omega
theorem isNum_iff {s : Str} : isNum s = true ↔ 1 ≤ s.length ∧ s.length ≤ 40 ∧ NumText.AllDigits (tl s) := by
  unfold isNum NumText.AllDigits
  simp only [Bool.and_eq_true, decide_eq_true_eq, List.all_eq_true, figs_mem]
theorem isNum_int {s : Str} (h : isNum s = true) : PySem.intText? s = some (numV s) := by
  obtain ⟨h1, h2, h3⟩ := isNum_iff.mp h
  refine PySem.intText_digits h3 (fun e => ?_) (by omega)
  have e' : tl s = [] := e
  rw [len_tl, e'] at h1
  exact absurd h1 (by decide)
def p_integer_in (K : PySem.W.Frag) (ds : List D) (P : PQ) (E : XQ) : Prop := ∃ s, ds = [.str s] ∧ s.length ≤ sizeLine ∧ (isNum s = true → P (.int (numV s))) ∧ (isNum s = false → E (xd K "ParseError"))
theorem p_integer_in_len {K ds P E} (h : p_integer_in K ds P E) : ds.length = 1 := by obtain ⟨_, rfl, _⟩ := h; rfl
def wordsOf (t : Str) : List (List Str) := if t = "" then [] else (Txt.split t "\n").map fun l => Txt.split l " "
def wordsD (ws : List Str) : D := .lst (ws.map D.str)
def p_words_of_lines (ds : List D) (P : PQ) : Prop := ∃ t, ds = [.str t] ∧ t.length + 2 ≤ sizeLine ∧ P (.lst ((wordsOf t).map wordsD))
theorem p_words_of_lines_len {ds P} (h : p_words_of_lines ds P) : ds.length = 1 := by obtain ⟨_, rfl, _⟩ := h; rfl
def strI (i : Int) : Str := toString i
def lineT (l : Ln) : Str := Txt.join " " (l.ws ++ (l.num.map strI).toList)
def p_line_text (ds : List D) (P : PQ) : Prop := ∃ (l : Ln) (n : Int), ds = [l.d] ∧ okL n l = true ∧ n ≤ 16 ∧ P (.str (lineT l))
theorem p_line_text_len {ds P} (h : p_line_text ds P) : ds.length = 1 := by obtain ⟨_, _, rfl, _⟩ := h; rfl
def isJump (s : Str) : Bool := decide (s = "if" ∨ s = "go")
def lineOf (ws : List Str) : Option Ln := match ws with
  | [] => none
  | w :: r => if isJump w = true then (if isNum ((w :: r).getLast (by simp)) = true then some ⟨(w :: r).dropLast, some (numV ((w :: r).getLast (by simp)))⟩ else none) else some ⟨w :: r, none⟩
theorem lineOf_cons (w : Str) (r : List Str) : lineOf (w :: r) = if isJump w = true then (if isNum ((w :: r).getLast (by simp)) = true then some ⟨(w :: r).dropLast, some (numV ((w :: r).getLast (by simp)))⟩ else none) else some ⟨w :: r, none⟩ := rfl
def p_line_of (K : PySem.W.Frag) (ds : List D) (P : PQ) (E : XQ) : Prop := ∃ ws, ds = [wordsD ws] ∧ ws ≠ [] ∧ ws.length ≤ sizeLine ∧ (∀ w ∈ ws, w.length ≤ sizeLine) ∧ (∀ l, lineOf ws = some l → P l.d) ∧ (lineOf ws = none → E (xd K "ParseError"))
theorem p_line_of_len {K ds P E} (h : p_line_of K ds P E) : ds.length = 1 := by obtain ⟨_, rfl, _⟩ := h; rfl
section

variable {P : Program} {w : World} {K : PySem.W.Frag} {mg : Str → Option Value} {base : Heap}

theorem ok_require_text (T : Txt K mg) (F : FD K mg "require_text" s_require_text ["text"]) : CalG P w K mg base (L2.CX P w) 4 "require_text" ["text"] (p_require_text K) := by
  refine cal_ofC F sc_require_text (fun ds R E h => p_require_text_len h) (fun f cdv A outer s H E hr => ?_)
  have tk := L2.takes_of (X := cxOf (L2.CX P w) P w K mg base N_require_text "require_text" (defScope s_require_text) f cdv A outer s H E) rfl rfl rfl rfl
  refine ⟨_, (pds_one (pds_if (pdt_not (pdt_val (pd_callB cd_isiB call_isi rfl T.n_isinstance bb_isinstance (pda_cons (pd_var (pv 0)) (pda_cons (pd_c (fun _ _ => .raw _) (pe_bltn (v := .ty "str") rfl T.n_str bb_str rfl)) pda_nil))))) (pds_one (pds_raise (L2.ps_raise rfl tk (L2.pmk_own PySem.F.excBase_ValueError T.x_ParseError T.g_ParseError T.kp_ParseError (T.r_ParseError rfl) rfl)))) pds_nil)), ?_⟩
  rintro ds R Ex (⟨t, rfl, h⟩ | ⟨x, a, rfl, h1, h2, h3⟩)
  · walk_at "dl"
    exact h
  · cases x <;> cases h1
    · walk_at "dl"
      exact h3
    · walk_at "dl"
      exact h3
    · walk_at "dl"
      exact h3
    · exact absurd rfl h2
    · walk_at "dl"
      exact h3
    · walk_at "dl"
      exact h3
    · walk_at "dl"
      exact h3

theorem ok_require_equal_text (T : Txt K mg) (F : FD K mg "require_equal_text" s_require_equal_text ["one", "other"]) : CalG P w K mg base (L2.CX P w) 4 "require_equal_text" ["one", "other"] (p_require_equal_text K) := by
  refine cal_ofC F sc_require_equal_text (fun ds R E h => p_require_equal_text_len h) (fun f cdv A outer s H E hr => ?_)
  have tk := L2.takes_of (X := cxOf (L2.CX P w) P w K mg base N_require_equal_text "require_equal_text" (defScope s_require_equal_text) f cdv A outer s H E) rfl rfl rfl rfl
  refine ⟨_, (pds_one (pds_if (pdt_cmp (op_neU hr) opd_ne (pd_var (pv 0)) (pd_var (pv 1)) (nomark _)) (pds_one (pds_raise (L2.ps_raise rfl tk (L2.pmk_own PySem.F.excBase_ValueError T.x_ParseError T.g_ParseError T.kp_ParseError (T.r_ParseError rfl) rfl)))) pds_nil)), ?_⟩
  rintro ds R Ex ⟨a, b, rfl, h1, h2⟩
  walk_at "dl"
  by_cases q : a = b
  · exact Or.inl ⟨q, h1 q⟩
  · exact Or.inr ⟨q, h2 q⟩

theorem ok_integer_in (T : Txt K mg) (F : FD K mg "integer_in" s_integer_in ["word"]) : CalG P w K mg base (L2.CX P w) 4 "integer_in" ["word"] (p_integer_in K) := by
  refine cal_ofC F sc_integer_in (fun ds R E h => p_integer_in_len h) (fun f cdv A outer s H E hr => ?_)
  have tk := L2.takes_of (X := cxOf (L2.CX P w) P w K mg base N_integer_in "integer_in" (defScope s_integer_in) f cdv A outer s H E) rfl rfl rfl rfl
  refine ⟨_, (pds_cons (pds_if (PW.pt (pdw_or (pdt_not (pdt_chain op_leU opd_le op_leU opd_le pd_int (pd_callB cd_len call_len rfl T.n_len bb_len (pda_cons (pd_var (pv 0)) pda_nil)) (pd_glob rfl T.c_MAX_FIGURES (fun _ _ => .int _)))) (pdw_or1 (pdt_not (pdt_val (pd_callB cd_all (cr_all rfl) rfl T.n_all bb_all (pda_cons (pd_lc (own := [("sign", 1)]) (g := (gName 1)) (gd := (dName 1)) rfl sc_integer_in.nd (pdi_str (pd_var (pv 0))) (blkOk_by (N := N_integer_in) (sc := (defScope s_integer_in)) (own := [("sign", 1)]) (by decide +kernel)) (fun _ _ _ _ _ => (pg_name (i := 1) sc_integer_in.nd rfl (Or.inl rfl))) tgw_name (fun _ _ _ _ _ => pdts_nil) (fun _ _ _ _ _ => (pd_cmp (op_inU hr (by decide)) opd_in (pd_var (pv 1)) (pd_glob rfl T.c_FIGURES (fun _ _ => .str _)) rfl))) pda_nil))))))) (pds_one (pds_raise (L2.ps_raise rfl tk (L2.pmk_own PySem.F.excBase_ValueError T.x_ParseError T.g_ParseError T.kp_ParseError (T.r_ParseError rfl) rfl)))) pds_nil)
    (pds_one (pds_ret (pd_callTy cd_int call_intU rfl T.n_int bb_int (pda_cons (pd_var (pv 0)) pda_nil))))), ?_⟩
  rintro ds R Ex ⟨s, rfl, hs, h1, h2⟩
  walk_at "dl"
  refine ⟨hs, ?_⟩
  by_cases q1 : 1 ≤ s.length
  · refine Or.inr ⟨by omega, ?_⟩
    by_cases q2 : s.length ≤ 40
    · refine Or.inr ⟨by omega, ?_⟩
      refine lcD_mapL (f := fun c => D.bl (decide (c ∈ figs.cps.toList))) s.cps.toList (fun c _ k hk => ?_) hs (dAll_map ?_)
      · walk_at "dl"
        exact (by simpa [figs] using hk)
      · cases q3 : s.cps.toList.all fun c => decide (c ∈ figs.cps.toList) with
        | false => exact Or.inl ⟨rfl, h2 (by unfold isNum; rw [q3, Bool.and_false, Bool.and_false])⟩
        | true =>
          have q : isNum s = true := by unfold isNum; rw [q3, decide_eq_true q1, decide_eq_true q2]; rfl
          exact Or.inr ⟨rfl, by omega, _, isNum_int q, h1 q⟩
    · exact Or.inl ⟨by omega, h2 (by unfold isNum; rw [decide_eq_false q2, Bool.false_and, Bool.and_false])⟩
  · exact Or.inl ⟨by omega, h2 (by unfold isNum; rw [decide_eq_false q1, Bool.false_and])⟩

theorem ok_words_of_lines (T : Txt K mg) (F : FD K mg "words_of_lines" s_words_of_lines ["text"]) : Cal P w K mg base 4 "words_of_lines" ["text"] p_words_of_lines := by
  refine cal_of F sc_words_of_lines (fun ds R h => p_words_of_lines_len h) (fun f cdv A outer s H E hr => ?_)
  refine ⟨_, (pds_one (pds_ret (pd_if (pdt_cmp (op_neU hr) opd_ne (pd_var (pv 0)) pd_str (nomark _)) (pd_lc (own := [("line", 1)]) (g := (gName 1)) (gd := (dName 1)) rfl sc_words_of_lines.nd (pdi_list (pd_m1 md_split (pe_split (pd_var (pv 0)) (pd_glob rfl T.c_NEWLINE (fun _ _ => .str _))))) (blkOk_by (N := N_words_of_lines) (sc := (defScope s_words_of_lines)) (own := [("line", 1)]) (by decide +kernel)) (fun _ _ _ _ _ => (pg_name (i := 1) sc_words_of_lines.nd rfl (Or.inl rfl))) tgw_name (fun _ _ _ _ _ => pdts_nil) (fun _ _ _ _ _ => (pd_m1 md_split (pe_split (pd_var (pv 1)) (pd_glob rfl T.c_BLANK (fun _ _ => .str _)))))) (pd_lst pda_nil)))), ?_⟩
  rintro ds R ⟨t, rfl, ht, h⟩
  walk_at "dl"
  unfold wordsOf at h
  by_cases q : t = ""
  · rw [if_pos q] at h
    exact Or.inl ⟨q, h⟩
  · rw [if_neg q] at h
    refine Or.inr ⟨q, ⟨by decide, ht, _, rfl, ?_⟩⟩
    refine lcD_mapL (f := fun l => wordsD (Txt.split l " ")) _ (fun l hl k hk => ?_) (Nat.le_trans (split_length nl_tl nl_k) (by omega)) ?_
    · walk_at "dl"
      exact ⟨by decide, by have := (split_mem nl_tl nl_k hl).1; omega, hk⟩
    · rwa [List.map_map] at h

theorem ok_line_text (T : Txt K mg) (F : FD K mg "line_text" s_line_text ["line"]) : Cal P w K mg base 4 "line_text" ["line"] p_line_text := by
  refine cal_of F sc_line_text (fun ds R h => p_line_text_len h) (fun f cdv A outer s H E hr => ?_)
  refine ⟨_, (pds_one (pds_ret (pd_m1 md_join (pe_join (pd_glob rfl T.c_BLANK (fun _ _ => .str _)) (pd_lc (own := [("word", 1)]) (g := (gName 1)) (gd := (dName 1)) rfl sc_line_text.nd (pdi_tup (pd_var (pv 0))) (blkOk_by (N := N_line_text) (sc := (defScope s_line_text)) (own := [("word", 1)]) (by decide +kernel)) (fun _ _ _ _ _ => (pg_name (i := 1) sc_line_text.nd rfl (Or.inl rfl))) tgw_name (fun _ _ _ _ _ => pdts_nil) (fun _ _ _ _ _ => (pd_callTy cd_strc call_strU rfl T.n_str bb_str (pda_cons (pd_var (pv 1)) pda_nil)))))))), ?_⟩
  rintro ds R ⟨l, n, rfl, ok, hn, h⟩
  walk_at "dl"
  have ii : ∀ i : Int, 0 ≤ i → i ≤ 16 → i.natAbs.log2 < 1920 := fun i h0 h1 => Nat.lt_of_le_of_lt (Nat.log2_le_self _) (by omega)
  have il : ∀ i : Int, 0 ≤ i → i ≤ 16 → (strI i).length ≤ 2 := fun i h0 h1 => PyProof.Rows.toString_length_le h0 (by decide) (by omega)
  have nl : ∀ a, isNm a = true → a.length ≤ 8 := fun a ha => by
    unfold isNm at ha
    simp only [Bool.and_eq_true, decide_eq_true_eq] at ha
    exact ha.1.2
  have l1 : (" " : Str).length = 1 := by decide +kernel
  have l2 : ("go" : Str).length = 2 := by decide +kernel
  have l3 : ("if" : Str).length = 2 := by decide +kernel
  have l4 : ("read" : Str).length = 4 := by decide +kernel
  have l5 : ("look" : Str).length = 4 := by decide +kernel
  refine ⟨_, rfl, ?_⟩
  have fin : ∀ ys : List Str, ys.length ≤ 4 → (∀ y ∈ ys, y.length ≤ 8) → R (.str (Txt.join " " ys)) → dJoin (.str " ") [.lst (ys.map D.str)] R := fun ys h1 h2 h3 => by
    refine ⟨_, ys, rfl, Or.inl rfl, ?_, h3⟩
    rw [l1]
    match ys, h1, h2 with
    | [], _, _ => simp
    | [a], _, h2 => have := h2 a (by simp); simp; omega
    | [a, b], _, h2 => have := h2 a (by simp); have := h2 b (by simp); simp; omega
    | [a, b, c], _, h2 => have := h2 a (by simp); have := h2 b (by simp); have := h2 c (by simp); simp; omega
    | [a, b, c, d], _, h2 => have := h2 a (by simp); have := h2 b (by simp); have := h2 c (by simp); have := h2 d (by simp); simp; omega
  rcases okL_shape ok with ⟨i, rfl, i0, i1⟩ | ⟨a, b, i, rfl, na, nb, i0, i1⟩ | ⟨g, a, b, rfl, hg, na, nb⟩
  · have e : (Ln.keys ⟨["go"], some i⟩).map kD = [D.str "go", D.int i] := rfl
    rw [e]
    have h0 := fin ["go", strI i] (by simp) (by simp [l2]; have := il i i0 (by omega); omega) h
    have := ii i i0 (by omega)
    simp only [lcD]
    walk_at "dl"
    exact ⟨by decide, by decide, this, h0⟩
  · have e : (Ln.keys ⟨["if", a, b], some i⟩).map kD = [D.str "if", D.str a, D.str b, D.int i] := rfl
    rw [e]
    have h0 := fin ["if", a, b, strI i] (by simp) (by simp [l3]; have := il i i0 (by omega); have := nl a na; have := nl b nb; omega) h
    have := ii i i0 (by omega)
    simp only [lcD]
    walk_at "dl"
    exact ⟨by decide, by decide, by decide, by decide, this, h0⟩
  · have e : (Ln.keys ⟨[g, a, b], none⟩).map kD = [D.str g, D.str a, D.str b] := rfl
    rw [e]
    have gl : g.length ≤ 8 := by rcases hg with rfl | rfl <;> omega
    have h0 := fin [g, a, b] (by simp) (by simp; have := nl a na; have := nl b nb; omega) h
    simp only [lcD]
    walk_at "dl"
    exact ⟨by decide, by decide, by decide, h0⟩

theorem ok_line_of (T : Txt K mg) (F : FD K mg "line_of" s_line_of ["words"]) (c_integer_in : CalG P w K mg base (L2.CX P w) 4 "integer_in" ["word"] (p_integer_in K)) : CalG P w K mg base (L2.CX P w) 5 "line_of" ["words"] (p_line_of K) := by
  refine cal_ofC F sc_line_of (fun ds R E h => p_line_of_len h) (fun f cdv A outer s H E hr => ?_)
  have tk := L2.takes_of (X := cxOf (L2.CX P w) P w K mg base N_line_of "line_of" (defScope s_line_of) f cdv A outer s H E) rfl rfl rfl rfl
  have hx : ∀ σ, PassesAt (L2.CX P w) (cxOf (L2.CX P w) P w K mg base N_line_of "line_of" (defScope s_line_of) f cdv A outer s H E) σ (WE (fun c d _ H => E c d H) σ) := fun σ => passAt tk σ
  refine ⟨_, (pds_cons (pds_if (pdt_cmp (op_inU hr (by decide)) opd_in (pd_ix (pd_var (pv 0)) pd_int) (pd_tup (pda_cons (pd_glob rfl T.c_IF_formats (fun _ _ => .str _)) (pda_cons (pd_glob rfl T.c_GO_formats (fun _ _ => .str _)) pda_nil))) rfl) (pds_one (pds_ret (pd_tup (pda_star (pd_slice (pd_var (pv 0)) pdo_none (pdo_some (pd_neg pd_int))) (pda_cons (pd_calP c_integer_in hx (hr.mono (by decide)) (pda_cons (pd_ix (pd_var (pv 0)) (pd_neg pd_int)) pda_nil)) pda_nil))))) pds_nil)
    (pds_one (pds_ret (pd_callTy cd_tuple call_tuple_of rfl T.n_tuple bb_tuple (pda_cons (pd_var (pv 0)) pda_nil))))), ?_⟩
  rintro ds R Ex ⟨ws, rfl, hne, hl, hs, h1, h2⟩
  unfold wordsD
  walk_at "dl"
  match ws, hne with
  | w :: r, _ =>
    refine ⟨_, ⟨w, rfl, rfl⟩, by decide, ?_⟩
    rw [in_str2]
    rw [lineOf_cons] at h1 h2
    by_cases q : w = "if" ∨ w = "go"
    · have j : isJump w = true := decide_eq_true q
      rw [if_pos j] at h1 h2
      rw [decide_eq_true q, if_pos rfl]
      have hm : (w :: r).getLast (by simp) ∈ w :: r := List.getLast_mem _
      refine ⟨_, ⟨_, List.getLast?_eq_some_getLast (by simp), rfl⟩, _, rfl, hs _ hm, fun e => ?_, fun e => ?_⟩
      · rw [if_pos e] at h1
        have h3 := h1 _ rfl
        rw [cut_init, List.length_map, ← List.map_take, ← List.dropLast_eq_take]
        unfold Ln.d Ln.keys tupK at h3
        refine ⟨?_, ?_⟩
        · rw [List.length_map, List.length_dropLast]
          simp only [List.length_cons] at hl ⊢
          omega
        · simpa [List.map_map, Function.comp_def, kD] using h3
      · rw [e] at h2
        exact h2 rfl
    · have j : isJump w = false := decide_eq_false q
      rw [j] at h1 h2
      rw [decide_eq_false q]
      have h3 := h1 _ rfl
      unfold Ln.d Ln.keys tupK at h3
      simpa [List.map_map, Function.comp_def, kD] using h3

end
end K82

namespace K82
open PySem PySem.Spec PyProof.Rows L2 DL
open TL

local macro_rules
  | `(tactic| walk_at "dl") => `(tactic| simp [dRet, dRetN, dAnd, dOr, dNot, dIf, dCB, dChain, dBin, dC, dVar, dCons, dNil, dStar, dTup, dLst, dSl, dPart, dNoPart, qIxL, qIxT, qIxS, qIxD, qLenS, qLenT, qLenL, qCutL, qCutT, qCutS, qAddI, qAddS, qAddT, qAddL, qSub, qMulI, qMulT, qMulL, qMod, qFdiv, qLtI, qLtS, qLeI, qLeS, qGtI, qGeI, qGtS, qGeS, qIntI, qIntB, qIntS, qLst1, qLst2, qTup1, qTup2, qStrI, qStrS, qIs1, qIs2, qIs3, qIs4, qIs5, qIs6, qIs7, qIs8, qIs9, qIs10, qIs11, qIs12, qIs13, qIs14, qIs15, qIs16, qIs17, qIs18, qIs19, qIs20, qIs21, qIs22, qIs23, qIs24, qIs25, qIs26, qIs27, qIs28, qIs29, qIs30, qIs31, qIs32, qIs33, qIs34, qIs35, qPowW, qAbs, qMax2, qMin2, qMulS, qLstS, qLstUL, qLstUT, atI_0, atI_1, atI_2, atI_3, atI_m1, dIsN, dNotN, DL.isNon, dNotT, dAndT, dOrT, dBoolT, dCmpT, dIfS, dSeq, dDrop, dAsg, dAsgS, mName, dNext, dBreak, dCont, dPar, dMatch, dCase, dCasesNil, dCall, dLstI, dTupI, dStrI, dRng1, dRng2, dFor, dM1, isStrD, isLstD, startM, shw, hid, SD.shw, SD.hid, dLc, stepD, wipeD, dName, dTrue, signsD, qKs, qKi, eq_strI, eq_intI, ne_strI, ne_intI, in_str2, in_sg, dIn, dNotIn, dNegI, dRaise, seqOf])

abbrev s_Reader_init : Stmt := inClass (top 27) 0
abbrev N_Reader_init : List Str := ["self", "lines"]
theorem sc_Reader_init : FnScope N_Reader_init ["self", "lines"] (defScope s_Reader_init) := ⟨rfl, rfl, rfl, by decide +kernel, rfl, by decide +kernel, by decide +kernel⟩

abbrev s_Reader_of : Stmt := inClass (top 27) 1
abbrev N_Reader_of : List Str := ["cls", "lines"]
theorem sc_Reader_of : FnScope N_Reader_of ["cls", "lines"] (defScope s_Reader_of) := ⟨rfl, rfl, rfl, by decide +kernel, rfl, by decide +kernel, by decide +kernel⟩

abbrev s_Reader_lines : Stmt := inClass (top 27) 3
abbrev N_Reader_lines : List Str := ["self"]
theorem sc_Reader_lines : FnScope N_Reader_lines ["self"] (defScope s_Reader_lines) := ⟨rfl, rfl, rfl, by decide +kernel, rfl, by decide +kernel, by decide +kernel⟩

abbrev s_Reader_tested : Stmt := inClass (top 27) 4
abbrev N_Reader_tested : List Str := ["self"]
theorem sc_Reader_tested : FnScope N_Reader_tested ["self"] (defScope s_Reader_tested) := ⟨rfl, rfl, rfl, by decide +kernel, rfl, by decide +kernel, by decide +kernel⟩

abbrev s_Reader_eq : Stmt := inClass (top 27) 19
abbrev N_Reader_eq : List Str := ["self", "other"]
theorem sc_Reader_eq : FnScope N_Reader_eq ["self", "other"] (defScope s_Reader_eq) := ⟨rfl, rfl, rfl, by decide +kernel, rfl, by decide +kernel, by decide +kernel⟩


def rdD (K : PySem.W.Frag) (ls : List Ln) : D := .ins (ca K "Reader") ["own_lines"] [lnsD ls]
def g_init (ds fs : List D) : Prop := ∃ ls : List Ln, ds = ls.map Ln.d ∧ (∀ l ∈ ls, l.Wf) ∧ validR ls = true ∧ fs = [lnsD ls]
def p_of (K : PySem.W.Frag) (ds : List D) (P : PQ) (E : XQ) : Prop := ∃ ls : List Ln, ds = [.raw (.ref (ca K "Reader")), lnsD ls] ∧ (∀ l ∈ ls, l.Wf) ∧ (validR ls = true → P (rdD K ls)) ∧ (validR ls = false → E (xd K "InvalidReader"))
def p_lines (K : PySem.W.Frag) (ds : List D) (P : PQ) : Prop := ∃ ls : List Ln, ds = [rdD K ls] ∧ P (lnsD ls)
def p_tested (K : PySem.W.Frag) (ds : List D) (P : PQ) : Prop := ∃ ls : List Ln, ds = [rdD K ls] ∧ (∀ l ∈ ls, l.Wf) ∧ validR ls = true ∧ ∀ ys : List (List Key), ys.length = nTested ls → P (.tup (ys.map tupK))
theorem keys_inj {l m : Ln} (h : l.keys = m.keys) : l = m := by
  have e1 : ∀ l : Ln, l.keys.filterMap (fun k : Key => match k with | .inr x => some x | .inl _ => none) = l.ws := fun l => by
    unfold Ln.keys
    rw [List.filterMap_append, List.filterMap_map]
    have : (List.filterMap (fun k : Key => match k with | .inr x => some x | .inl _ => none) ((l.num.map Sum.inl).toList)) = [] := by cases l.num <;> rfl
    rw [this, List.append_nil]
    exact List.filterMap_some
  have e2 : ∀ l : Ln, (l.keys.filterMap (fun k : Key => match k with | .inr _ => none | .inl i => some i)).head? = l.num := fun l => by
    unfold Ln.keys
    rw [List.filterMap_append, List.filterMap_map]
    have : (List.filterMap ((fun k : Key => match k with | .inr _ => none | .inl i => some i) ∘ Sum.inr) l.ws) = [] := by
      generalize l.ws = xs
      induction xs with
      | nil => rfl
      | cons x xs ih => rw [List.filterMap_cons]; exact ih
    rw [this, List.nil_append]
    cases l.num <;> rfl
  have h1 := (e1 l).symm.trans ((congrArg _ h).trans (e1 m))
  have h2 := (e2 l).symm.trans ((congrArg (fun k : List Key => (k.filterMap (fun k : Key => match k with | .inr _ => none | .inl i => some i)).head?) h).trans (e2 m))
  cases l; cases m
  cases h1; cases h2
  rfl
theorem keysL_inj : ∀ {ls ms : List Ln}, ls.map Ln.keys = ms.map Ln.keys → ls = ms
  | [], [], _ => rfl
  | [], _ :: _, h => by cases h
  | _ :: _, [], h => by cases h
  | l :: ls, m :: ms, h => by
    simp only [List.map_cons, List.cons.injEq] at h
    rw [keys_inj h.1, keysL_inj h.2]
theorem lnsD_keys (ls : List Ln) : lnsD ls = .tup ((ls.map Ln.keys).map tupK) := by
  unfold lnsD
  rw [List.map_map]
  rfl
theorem lns_ok {ls : List Ln} (h : ∀ l ∈ ls, l.Wf) : ((ls.map Ln.keys).all fun k => k.all kOk) = true := by
  rw [List.all_eq_true]
  intro k hk
  obtain ⟨l, hl, rfl⟩ := List.mem_map.mp hk
  exact (h l hl).kok
theorem dEq_lns {ls ms : List Ln} {P : PQ} (h1 : ∀ l ∈ ls, l.Wf) (h2 : ∀ l ∈ ms, l.Wf) (p : P (.bl (decide (ls = ms)))) : dEq (lnsD ls) (lnsD ms) P := by
  rw [lnsD_keys, lnsD_keys]
  refine dEq_rows (lns_ok h1) (lns_ok h2) ?_
  have e : decide (ls.map Ln.keys = ms.map Ln.keys) = decide (ls = ms) := by
    rw [Bool.eq_iff_iff, decide_eq_true_eq, decide_eq_true_eq]
    exact ⟨keysL_inj, fun h => by rw [h]⟩
  rwa [e]
def p_eq (K : PySem.W.Frag) (ds : List D) (P : PQ) : Prop := ∃ ls ms : List Ln, ds = [rdD K ls, rdD K ms] ∧ (∀ l ∈ ls, l.Wf) ∧ (∀ l ∈ ms, l.Wf) ∧ P (.bl (decide (ls = ms)))
section

variable {P : Program} {w : World} {K : PySem.W.Frag} {mg : Str → Option Value} {base : Heap}

theorem rd_init (T : Txt K mg) {f : Addr} {fd : FuncData} (F : Fun K "__init__" "Reader.__init__" s_Reader_init f fd) (c_require_lines : Cal P w K mg base 7 "require_lines" ["lines"] (fun ds R => p_require_lines K ds R (fun _ => False))) : FnR P w K mg base CX0 8 f (SpMk K (ca K "Reader") ["own_lines"] g_init) := by
  refine init_star (k := 7) F sc_Reader_init (by decide) (fun ds fs ⟨ls, e, _, hv, _⟩ => ?_) (fun kV doc pm cdv ct an us rest h => ?_) (fun cdv A outer s H E hr => ?_)
  · subst e
    unfold validR at hv
    simp only [Bool.and_eq_true, decide_eq_true_eq] at hv
    rw [List.length_map]
    exact Nat.le_trans hv.1 (by decide)
  · match us, h with
    | [a], _ => exact StX.bind_star1 (B := fun vs => bindArgs (PySem.W.fnOf "__init__" "Reader.__init__" (defArgs s_Reader_init) (defBody s_Reader_init) (defScope s_Reader_init) .none kV doc pm an cdv ct) ⟨vs, []⟩) (p1 := "self") (pv := "lines") (fun a => rfl) (fun a r rs => rfl) [a] rest rfl
  · refine ⟨_, (pds_cons (pds_expr (pd_cal c_require_lines (hr.mono (by decide)) (pda_cons (pd_var (pv 1)) pda_nil)))
    (pds_one (pds_put (pv 0) (pd_var (pv 1))))), ?_⟩
    rintro ds fs ⟨ls, rfl, hw, hv, rfl⟩
    walk_at "dl"
    refine ⟨ls, rfl, hw, ?_⟩
    simp only [hv]
    unfold dPut
    walk_at "dl"
    exact ⟨_, [], [], ⟨rfl, rfl, rfl⟩, T.R.cls, T.R.nat, by simp, by decide, rfl⟩

theorem rd_of (T : Txt K mg) {f : Addr} {fd : FuncData} (F : Fun K "of" "Reader.of" s_Reader_of f fd) (hb : Binds K fd ["cls", "lines"] []) (c_require_lines : CalG P w K mg base (L2N.CX P w) 7 "require_lines" ["lines"] (p_require_lines K)) (hI : FnR P w K mg base CX0 8 (mt K "Reader" "__init__") (SpMk K (ca K "Reader") ["own_lines"] g_init)) : MetG P w K mg base (L2N.CX P w) 10 f ["cls", "lines"] (p_of K) := by
  refine met_of (k := 9) F hb sc_Reader_of (fun ds R E ⟨ls, e, _⟩ => by rw [e]; rfl) (fun cdv A outer s H E hr => ?_)
  have tk := L2N.takes_of (X := cxOf (L2N.CX P w) P w K mg base N_Reader_of "Reader.of" (defScope s_Reader_of) f cdv A outer s H E) rfl rfl rfl rfl
  have hx : ∀ σ, PassesAt (L2N.CX P w) (cxOf (L2N.CX P w) P w K mg base N_Reader_of "Reader.of" (defScope s_Reader_of) f cdv A outer s H E) σ (WE (fun c d _ H => E c d H) σ) := fun σ => passAtN (CX := CX0) tk σ
  refine ⟨_, (pds_cons (pds_expr (pd_calP c_require_lines hx (hr.mono (by decide)) (pda_cons (pd_var (pv 1)) pda_nil)))
    (pds_one (pds_ret (pd_makeS (k := 8) (g := g_init) (ks := ["own_lines"]) T.R.mkr hI (hr.mono (by decide)) (pv 0) (pd_var (pv 1)))))), ?_⟩
  rintro ds R Ex ⟨ls, rfl, hw, h1, h2⟩
  walk_at "dl"
  exact ⟨ls, rfl, hw, fun hv => ⟨rfl, ls.map Ln.d, [lnsD ls], rfl, ⟨ls, rfl, hw, hv, rfl⟩, h1 hv⟩, h2⟩

theorem rd_lines (T : Txt K mg) {f : Addr} {fd : FuncData} (F : Fun K "lines" "Reader.lines" s_Reader_lines f fd) (hb : Binds K fd ["self"] []) : MetG P w K mg base CX0 4 f ["self"] (fun ds R _ => p_lines K ds R) := by
  refine met_of (k := 3) F hb sc_Reader_lines (fun ds R E ⟨_, h⟩ => by obtain ⟨rfl, _⟩ := h; rfl) (fun cdv A outer s H E hr => ?_)
  refine ⟨_, (pds_one (pds_ret (pd_fld (pd_var (pv 0))))), ?_⟩
  rintro ds R Ex h
  obtain ⟨ls, rfl, h⟩ := h
  unfold dFld
  walk_at "dl"
  exact ⟨_, _, _, rfl, T.R.cls, T.R.nat, _, rfl, h⟩

theorem rd_tested (T : Txt K mg) {f : Addr} {fd : FuncData} (F : Fun K "tested" "Reader.tested" s_Reader_tested f fd) (hb : Binds K fd ["self"] []) (c_tested_in : Cal P w K mg base 4 "tested_in" ["lines"] p_tested_in) : MetG P w K mg base CX0 5 f ["self"] (fun ds R _ => p_tested K ds R) := by
  refine met_of (k := 4) F hb sc_Reader_tested (fun ds R E ⟨_, h⟩ => by obtain ⟨rfl, _⟩ := h; rfl) (fun cdv A outer s H E hr => ?_)
  refine ⟨_, (pds_one (pds_ret (pd_cal c_tested_in (hr.mono (by decide)) (pda_cons (pd_fld (pd_var (pv 0))) pda_nil)))), ?_⟩
  rintro ds R Ex h
  obtain ⟨ls, rfl, hw, hv, h⟩ := h
  unfold dFld
  walk_at "dl"
  unfold validR at hv
  simp only [Bool.and_eq_true, decide_eq_true_eq] at hv
  exact ⟨_, _, _, rfl, T.R.cls, T.R.nat, _, rfl, ls, ls.length, rfl, by omega, fun l hl => ⟨hw l hl, List.all_eq_true.mp hv.2.1 l hl⟩, h⟩

theorem rd_eq (T : Txt K mg) {f : Addr} {fd : FuncData} (F : Fun K "__eq__" "Reader.__eq__" s_Reader_eq f fd) (hb : Binds K fd ["self", "other"] []) : MetG P w K mg base CX0 4 f ["self", "other"] (fun ds R _ => p_eq K ds R) := by
  refine met_of (k := 3) F hb sc_Reader_eq (fun ds R E ⟨_, h⟩ => by obtain ⟨_, rfl, _⟩ := h; rfl) (fun cdv A outer s H E hr => ?_)
  refine ⟨_, (pds_one (pds_ret (pd_and (pd_callB (cd_isiC T.kit_Reader) call_isi rfl T.n_isinstance bb_isinstance (pda_cons (pd_var (pv 1)) (pda_cons (pd_glob rfl T.k_Reader (fun _ _ => .raw _)) pda_nil))) (pd_one (pd_cmp (op_eqU hr) opd_eq (pd_fld (pd_var (pv 0))) (pd_fld (pd_var (pv 1))) (nomark _)))))), ?_⟩
  rintro ds R Ex h
  obtain ⟨ls, ms, rfl, hw, hm, h⟩ := h
  unfold dFld
  walk_at "dl"
  exact ⟨rfl, rfl, Or.inr ⟨rfl, _, _, _, rfl, T.R.cls, T.R.nat, _, rfl, _, _, _, rfl, T.R.cls, T.R.nat, _, rfl, dEq_lns hw hm h⟩⟩

end
end K82

namespace K82
open PySem PySem.Spec PyProof.Rows L2 DL
open TL

local macro_rules
  | `(tactic| walk_at "dl") => `(tactic| simp [dRet, dRetN, dAnd, dOr, dNot, dIf, dCB, dChain, dBin, dC, dVar, dCons, dNil, dStar, dTup, dLst, dSl, dPart, dNoPart, qIxL, qIxT, qIxS, qIxD, qLenS, qLenT, qLenL, qCutL, qCutT, qCutS, qAddI, qAddS, qAddT, qAddL, qSub, qMulI, qMulT, qMulL, qMod, qFdiv, qLtI, qLtS, qLeI, qLeS, qGtI, qGeI, qGtS, qGeS, qIntI, qIntB, qIntS, qLst1, qLst2, qTup1, qTup2, qStrI, qStrS, qIs1, qIs2, qIs3, qIs4, qIs5, qIs6, qIs7, qIs8, qIs9, qIs10, qIs11, qIs12, qIs13, qIs14, qIs15, qIs16, qIs17, qIs18, qIs19, qIs20, qIs21, qIs22, qIs23, qIs24, qIs25, qIs26, qIs27, qIs28, qIs29, qIs30, qIs31, qIs32, qIs33, qIs34, qIs35, qPowW, qAbs, qMax2, qMin2, qMulS, qLstS, qLstUL, qLstUT, atI_0, atI_1, atI_2, atI_3, atI_m1, dIsN, dNotN, DL.isNon, dNotT, dAndT, dOrT, dBoolT, dCmpT, dIfS, dSeq, dDrop, dAsg, dAsgS, mName, dNext, dBreak, dCont, dPar, dMatch, dCase, dCasesNil, dCall, dLstI, dTupI, dStrI, dRng1, dRng2, dFor, dM1, isStrD, isLstD, startM, shw, hid, SD.shw, SD.hid, dLc, stepD, wipeD, dName, dTrue, signsD, qKs, qKi, eq_strI, eq_intI, ne_strI, ne_intI, in_str2, in_sg, dIn, dNotIn, dNegI, dRaise, seqOf])

abbrev s_reader_text : Stmt := top 41
abbrev N_reader_text : List Str := ["reader", "line"]
theorem sc_reader_text : FnScope N_reader_text ["reader"] (defScope s_reader_text) := ⟨rfl, rfl, rfl, by decide +kernel, rfl, by decide +kernel, by decide +kernel⟩

abbrev s_read_reader : Stmt := top 42
abbrev N_read_reader : List Str := ["text", "lines", "reader", "words"]
theorem sc_read_reader : FnScope N_read_reader ["text"] (defScope s_read_reader) := ⟨rfl, rfl, rfl, by decide +kernel, rfl, by decide +kernel, by decide +kernel⟩


def textR (ls : List Ln) : Str := Txt.join "\n" (ls.map lineT)
def p_reader_text (K : PySem.W.Frag) (ds : List D) (P : PQ) (E : XQ) : Prop := (∃ ls : List Ln, ds = [rdD K ls] ∧ (∀ l ∈ ls, l.Wf) ∧ validR ls = true ∧ P (.str (textR ls))) ∨ ∃ x a, ds = [x] ∧ tyN x = some a ∧ E (xd K "InvalidReader")
theorem p_reader_text_len {K ds P E} (h : p_reader_text K ds P E) : ds.length = 1 := by rcases h with ⟨_, rfl, _⟩ | ⟨_, _, rfl, _⟩ <;> rfl
theorem sum_le : ∀ xs : List Str, (∀ x ∈ xs, x.length ≤ 64) → (xs.map (·.length)).sum ≤ 64 * xs.length
  | [], _ => by simp
  | x :: xs, h => by
    have h1 := h x List.mem_cons_self
    have h2 := sum_le xs fun y hy => h y (List.mem_cons_of_mem _ hy)
    rw [List.map_cons, List.sum_cons, List.length_cons]
    omega
theorem strI_len {i : Int} (h0 : 0 ≤ i) (h1 : i ≤ 16) : (strI i).length ≤ 2 := PyProof.Rows.toString_length_le h0 (by decide) (by omega)
theorem isNm_len {a : Str} (ha : isNm a = true) : a.length ≤ 8 := by
  unfold isNm at ha
  simp only [Bool.and_eq_true, decide_eq_true_eq] at ha
  exact ha.1.2
theorem tl_lineT (l : Ln) : tl (lineT l) = joinL [32] ((l.ws ++ (l.num.map strI).toList).map tl) := by
  unfold lineT
  rw [join_eq, tl_join, bl_tl]
theorem lineT_len {l : Ln} {n : Int} (h : okL n l = true) (hn : n ≤ 16) : (lineT l).length ≤ 64 := by
  have l2 : (tl ("go" : Str)).length = 2 := by decide +kernel
  have l3 : (tl ("if" : Str)).length = 2 := by decide +kernel
  have l4 : (tl ("read" : Str)).length = 4 := by decide +kernel
  have l5 : (tl ("look" : Str)).length = 4 := by decide +kernel
  rw [len_tl, tl_lineT]
  rcases okL_shape h with ⟨i, rfl, i0, i1⟩ | ⟨a, b, i, rfl, na, nb, i0, i1⟩ | ⟨g, a, b, rfl, hg, na, nb⟩
  · have := strI_len i0 (by omega)
    rw [len_tl] at this
    show (tl "go" ++ ([32] ++ tl (strI i))).length ≤ 64
    simp only [List.length_append, List.length_cons, List.length_nil]
    omega
  · have := strI_len i0 (by omega)
    have := isNm_len na
    have := isNm_len nb
    rw [len_tl] at *
    show (tl "if" ++ ([32] ++ (tl a ++ ([32] ++ (tl b ++ ([32] ++ tl (strI i))))))).length ≤ 64
    simp only [List.length_append, List.length_cons, List.length_nil]
    omega
  · have := isNm_len na
    have := isNm_len nb
    rw [len_tl] at *
    show (tl g ++ ([32] ++ (tl a ++ ([32] ++ tl b)))).length ≤ 64
    have gl : (tl g).length = 4 := by rcases hg with rfl | rfl <;> assumption
    simp only [List.length_append, List.length_cons, List.length_nil]
    omega
/-- the program's reader of texts -/
def rd (t : Str) : Option (List Ln) := match (wordsOf t).mapM lineOf with
  | none => none
  | some ls => if (validR ls && decide (textR ls = t)) = true then some ls else none
theorem mapM_mapD {α β γ : Type} {f : α → Option β} {g : β → γ} : ∀ xs : List α, (xs.mapM fun x => (f x).map g) = (xs.mapM f).map (List.map g)
  | [] => rfl
  | x :: xs => by
    rw [List.mapM_cons, List.mapM_cons, mapM_mapD xs]
    cases f x with
    | none => rfl
    | some y => cases xs.mapM f <;> rfl
structure WordsOk (t : Str) (ws : List Str) : Prop where
  ne : ws ≠ []
  few : ws.length ≤ t.length + 1
  len : ∀ x ∈ ws, x.length ≤ t.length
  ok : okS t → ∀ x ∈ ws, okS x
  free : ∀ x ∈ ws, 32 ∉ tl x ∧ 10 ∉ tl x
theorem wordsOf_mem {t : Str} {ws : List Str} (h : ws ∈ wordsOf t) : WordsOk t ws := by
  unfold wordsOf at h
  split at h
  · cases h
  · obtain ⟨l, hl, rfl⟩ := List.mem_map.mp h
    obtain ⟨a1, a2, a3⟩ := split_mem nl_tl nl_k hl
    refine ⟨split_ne bl_tl bl_k, Nat.le_trans (split_length bl_tl bl_k) (by omega), fun x hx => ?_, fun ok x hx => ?_, fun x hx => ?_⟩
    · exact Nat.le_trans (split_mem bl_tl bl_k hx).1 a1
    · exact okS_sub ok fun d hd => a3 d ((split_mem bl_tl bl_k hx).2.2 d hd)
    · obtain ⟨b1, b2, b3⟩ := split_mem bl_tl bl_k hx
      exact ⟨b2, fun q => a2 (b3 _ q)⟩
theorem wordsOf_len (t : Str) : (wordsOf t).length ≤ t.length + 1 := by
  unfold wordsOf
  split
  · simp
  · rw [List.length_map]
    exact split_length nl_tl nl_k
theorem lineOf_wf {ws : List Str} {l : Ln} (h : lineOf ws = some l) (hl : ∀ x ∈ ws, x.length ≤ sizeLine) (ho : ∀ x ∈ ws, okS x) : l.Wf := by
  match ws, h with
  | w :: r, h =>
    rw [lineOf_cons] at h
    split at h
    · rename_i j
      have j : w = "if" ∨ w = "go" := of_decide_eq_true j
      split at h
      · rename_i e
        cases h
        match r, e, hl, ho with
        | [], e, _, _ =>
          exfalso
          rcases j with rfl | rfl <;> exact absurd e (by decide +kernel)
        | a :: r, e, hl, ho =>
          refine ⟨by simp, fun _ => ?_, fun x hx => hl x (List.dropLast_subset _ hx), fun x hx => ho x (List.dropLast_subset _ hx)⟩
          show some w = _ ∨ some w = _
          rcases j with rfl | rfl
          · exact Or.inl rfl
          · exact Or.inr rfl
      · cases h
    · cases h
      exact ⟨by simp, fun q => (by cases q), hl, ho⟩
theorem mapM_mem {α β : Type} {f : α → Option β} : ∀ {xs : List α} {ys : List β}, xs.mapM f = some ys → ∀ y ∈ ys, ∃ x ∈ xs, f x = some y
  | [], ys, h, y, hy => by
    cases h
    cases hy
  | x :: xs, ys, h, y, hy => by
    rw [List.mapM_cons] at h
    cases e : f x with
    | none => rw [e] at h; cases h
    | some z =>
      rw [e] at h
      cases e2 : xs.mapM f with
      | none => rw [e2] at h; cases h
      | some zs =>
        rw [e2] at h
        cases h
        rcases List.mem_cons.mp hy with rfl | q
        · exact ⟨x, List.mem_cons_self, e⟩
        · obtain ⟨x', h1, h2⟩ := mapM_mem e2 y q
          exact ⟨x', List.mem_cons_of_mem _ h1, h2⟩
def p_read_reader (K : PySem.W.Frag) (ds : List D) (P : PQ) (E : XQ) : Prop := (∃ t, ds = [.str t] ∧ t.length + 2 ≤ sizeLine ∧ okS t ∧ (∀ ls, rd t = some ls → P (rdD K ls)) ∧ (rd t = none → E (xd K "ParseError"))) ∨ ∃ x a, ds = [x] ∧ tyN x = some a ∧ a ≠ "str" ∧ E (xd K "ParseError")
theorem p_read_reader_len {K ds P E} (h : p_read_reader K ds P E) : ds.length = 1 := by rcases h with ⟨_, rfl, _⟩ | ⟨_, _, rfl, _⟩ <;> rfl
section

variable {P : Program} {w : World} {K : PySem.W.Frag} {mg : Str → Option Value} {base : Heap}

theorem ok_reader_text (T : Txt K mg) (F : FD K mg "reader_text" s_reader_text ["reader"]) (c_line_text : Cal P w K mg base 4 "line_text" ["line"] p_line_text) : CalG P w K mg base (L2.CX P w) 5 "reader_text" ["reader"] (p_reader_text K) := by
  refine cal_ofC F sc_reader_text (fun ds R E h => p_reader_text_len h) (fun f cdv A outer s H E hr => ?_)
  have tk := L2.takes_of (X := cxOf (L2.CX P w) P w K mg base N_reader_text "reader_text" (defScope s_reader_text) f cdv A outer s H E) rfl rfl rfl rfl
  refine ⟨_, (pds_cons (pds_if (pdt_not (pdt_val (pd_callB (cd_isiC T.kit_Reader) call_isi rfl T.n_isinstance bb_isinstance (pda_cons (pd_var (pv 0)) (pda_cons (pd_glob rfl T.k_Reader (fun _ _ => .raw _)) pda_nil))))) (pds_one (pds_raise (L2.ps_raise rfl tk (L2.pmk_own PySem.F.excBase_ValueError T.x_InvalidReader T.g_InvalidReader T.kp_InvalidReader (T.r_InvalidReader rfl) rfl)))) pds_nil)
    (pds_one (pds_ret (pd_m1 md_join (pe_join (pd_glob rfl T.c_NEWLINE (fun _ _ => .str _)) (pd_lc (own := [("line", 1)]) (g := (gName 1)) (gd := (dName 1)) rfl sc_reader_text.nd (pdi_tup (pd_fld (pd_var (pv 0)))) (blkOk_by (N := N_reader_text) (sc := (defScope s_reader_text)) (own := [("line", 1)]) (by decide +kernel)) (fun _ _ _ _ _ => (pg_name (i := 1) sc_reader_text.nd rfl (Or.inl rfl))) tgw_name (fun _ _ _ _ _ => pdts_nil) (fun _ _ _ _ _ => (pd_cal c_line_text (hr.mono (by decide)) (pda_cons (pd_var (pv 1)) pda_nil))))))))), ?_⟩
  rintro ds R Ex (⟨ls, rfl, hw, hv, h⟩ | ⟨x, a, rfl, hx, h⟩)
  · unfold dFld
    walk_at "dl"
    unfold validR at hv
    simp only [Bool.and_eq_true, decide_eq_true_eq] at hv
    obtain ⟨hv1, hv2, hv3⟩ := hv
    have okl : ∀ l ∈ ls, okL ls.length l = true := fun l hl => List.all_eq_true.mp hv2 l hl
    refine ⟨rfl, rfl, Or.inr ⟨rfl, _, _, _, rfl, T.R.cls, T.R.nat, _, rfl, _, rfl, ?_⟩⟩
    refine lcD_mapL (f := fun l => D.str (lineT l)) ls (fun l hl k hk => ?_) (Nat.le_trans hv1 (by decide)) ?_
    · walk_at "dl"
      exact ⟨l, ls.length, rfl, okl l hl, by omega, hk⟩
    · refine ⟨_, ls.map lineT, rfl, Or.inl (by rw [List.map_map]; rfl), ?_, h⟩
      have l1 : ("\n" : Str).length = 1 := by decide +kernel
      rw [l1, List.length_map]
      have := sum_le (ls.map lineT) fun x hx => by
        obtain ⟨l, hl, rfl⟩ := List.mem_map.mp hx
        exact lineT_len (okl l hl) (by omega)
      rw [List.length_map] at this
      omega
  · walk_at "dl"
    cases x <;> cases hx <;> exact ⟨rfl, rfl, Or.inl ⟨rfl, h⟩⟩

theorem ok_read_reader (T : Txt K mg) (F : FD K mg "read_reader" s_read_reader ["text"]) (c_require_text : CalG P w K mg base (L2.CX P w) 4 "require_text" ["text"] (p_require_text K)) (c_require_equal_text : CalG P w K mg base (L2.CX P w) 4 "require_equal_text" ["one", "other"] (p_require_equal_text K)) (c_reader_text : CalG P w K mg base (L2.CX P w) 5 "reader_text" ["reader"] (p_reader_text K)) (c_line_of : CalG P w K mg base (L2.CX P w) 5 "line_of" ["words"] (p_line_of K)) (c_words_of_lines : Cal P w K mg base 4 "words_of_lines" ["text"] p_words_of_lines) (m_of : MetG P w K mg base (L2N.CX P w) 10 (He5.wf K (ca K "Reader") "classmethod" "of") ["cls", "lines"] (p_of K)) : CalG P w K mg base (L2.CX P w) 11 "read_reader" ["text"] (p_read_reader K) := by
  refine cal_ofC F sc_read_reader (fun ds R E h => p_read_reader_len h) (fun f cdv A outer s H E hr => ?_)
  have tk := L2.takes_of (X := cxOf (L2.CX P w) P w K mg base N_read_reader "read_reader" (defScope s_read_reader) f cdv A outer s H E) rfl rfl rfl rfl
  have hx : ∀ σ, PassesAt (L2.CX P w) (cxOf (L2.CX P w) P w K mg base N_read_reader "read_reader" (defScope s_read_reader) f cdv A outer s H E) σ (WE (fun c d _ H => E c d H) σ) := fun σ => passAt tk σ
  have hpa : ∀ hd : Option Value, PassesOwnAt (model P w) (Around.mark (cxOf (L2.CX P w) P w K mg base N_read_reader "read_reader" (defScope s_read_reader) f cdv A outer s H E).A hd) (cxOf (L2.CX P w) P w K mg base N_read_reader "read_reader" (defScope s_read_reader) f cdv A outer s H E).A (cxOf (L2.CX P w) P w K mg base N_read_reader "read_reader" (defScope s_read_reader) f cdv A outer s H E).env (cxOf (L2.CX P w) P w K mg base N_read_reader "read_reader" (defScope s_read_reader) f cdv A outer s H E).xe := L2H.passesAt_of rfl
  refine ⟨_, (pds_cons (pds_expr (pd_calP c_require_text hx (hr.mono (by decide)) (pda_cons (pd_var (pv 0)) pda_nil)))
    (pds_cons (pds_set (i := 1) sc_read_reader.nd rfl (Or.inl rfl) (pd_callTy cd_tuple call_tuple_of rfl T.n_tuple bb_tuple (pda_cons (pd_lcX (own := [("words", 3)]) (g := (gName 3)) (gd := (dName 3)) rfl rfl tk rfl sc_read_reader.nd (pdi_list (pd_cal c_words_of_lines (hr.mono (by decide)) (pda_cons (pd_var (pv 0)) pda_nil))) (blkOk_by (N := N_read_reader) (sc := (defScope s_read_reader)) (own := [("words", 3)]) (by decide +kernel)) (fun _ _ _ _ _ => (pg_name (i := 3) sc_read_reader.nd rfl (Or.inl rfl))) tgw_name (fun _ _ _ _ _ => pdts_nil) (fun _ _ _ _ _ _ hp => (pd_calP c_line_of hp (hr.mono (by decide)) (pda_cons (pd_var (pv 3)) pda_nil)))) pda_nil)))
    (pds_cons (pds_tryX rfl rfl (c := .ref (ca K "InvalidReader")) ⟨rfl, rfl, Or.inl T.g_InvalidReader⟩ hpa tk (fun W' pn xe tk' _ => (pds_one (pds_set (i := 2) sc_read_reader.nd rfl (Or.inl rfl) (pd_cmet rfl T.g_Reader T.R.rd T.R.of m_of (hr.mono (by decide)) (fun σ => passAtN (CX := CX0) tk' σ) (pda_cons (pd_var (pv 1)) pda_nil))))) (fun a oe cls d pn _ _ tk' hc => (pds_one (pds_raise (L2H.ps_raiseHN hc tk' (pmk5_lit PySem.F.excBase_ValueError T.x_ParseError T.g_ParseError T.kp_ParseError (T.r_ParseError rfl) rfl))))))
    (pds_cons (pds_expr (pd_calP c_require_equal_text hx (hr.mono (by decide)) (pda_cons (pd_calP c_reader_text hx (hr.mono (by decide)) (pda_cons (pd_var (pv 2)) pda_nil)) (pda_cons (pd_var (pv 0)) pda_nil))))
    (pds_one (pds_ret (pd_var (pv 2)))))))), ?_⟩
  rintro ds R Ex (⟨t, rfl, ht, ok, h1, h2⟩ | ⟨x, a, rfl, hx, hn, h⟩)
  · unfold dLcX stepDX dTryX dCMet
    walk_at "dl"
    refine Or.inl ⟨t, rfl, t, rfl, ht, _, rfl, ?_⟩
    have wl := wordsOf_len t
    refine lcD_orL (f := fun ws => (lineOf ws).map Ln.d) (R := Ex (xd K "ParseError")) (wordsOf t) (fun ws hws k hk => ?_) (by omega) ?_
    · have wo := wordsOf_mem hws
      refine ⟨ws, rfl, wo.ne, by have := wo.few; omega, fun x hx => by have := wo.len x hx; omega, fun l e => ?_, fun e => ?_⟩
      · rw [e] at hk
        exact hk
      · rw [e] at hk
        exact hk
    · rw [mapM_mapD]
      unfold rd at h1 h2
      cases e : (wordsOf t).mapM lineOf with
      | none =>
        rw [e] at h2
        exact h2 rfl
      | some ls =>
        rw [e] at h1 h2
        have hw : ∀ l ∈ ls, l.Wf := fun l hl => by
          obtain ⟨ws, h3, h4⟩ := mapM_mem e l hl
          have wo := wordsOf_mem h3
          exact lineOf_wf h4 (fun x hx => by have := wo.len x hx; omega) (wo.ok ok)
        refine ⟨ls, rfl, hw, fun hv => Or.inl ⟨ls, rfl, hw, hv, _, _, rfl, fun q => h1 ls ?_, fun q => h2 ?_⟩, fun hv => Or.inr ⟨T.e_InvalidReader, h2 ?_⟩⟩
        · show (if (validR ls && decide (textR ls = t)) = true then some ls else none) = some ls
          rw [hv, decide_eq_true q]
          rfl
        · show (if (validR ls && decide (textR ls = t)) = true then some ls else none) = none
          rw [decide_eq_false q, Bool.and_false]
          rfl
        · show (if (validR ls && decide (textR ls = t)) = true then some ls else none) = none
          rw [hv]
          rfl
  · walk_at "dl"
    exact Or.inr ⟨x, a, rfl, hx, hn, h⟩

end
end K82

namespace K82
open PySem PySem.Spec PyProof.Rows L2 DL
open TL

local macro_rules
  | `(tactic| walk_at "dl") => `(tactic| simp [dRet, dRetN, dAnd, dOr, dNot, dIf, dCB, dChain, dBin, dC, dVar, dCons, dNil, dStar, dTup, dLst, dSl, dPart, dNoPart, qIxL, qIxT, qIxS, qIxD, qLenS, qLenT, qLenL, qCutL, qCutT, qCutS, qAddI, qAddS, qAddT, qAddL, qSub, qMulI, qMulT, qMulL, qMod, qFdiv, qLtI, qLtS, qLeI, qLeS, qGtI, qGeI, qGtS, qGeS, qIntI, qIntB, qIntS, qLst1, qLst2, qTup1, qTup2, qStrI, qStrS, qIs1, qIs2, qIs3, qIs4, qIs5, qIs6, qIs7, qIs8, qIs9, qIs10, qIs11, qIs12, qIs13, qIs14, qIs15, qIs16, qIs17, qIs18, qIs19, qIs20, qIs21, qIs22, qIs23, qIs24, qIs25, qIs26, qIs27, qIs28, qIs29, qIs30, qIs31, qIs32, qIs33, qIs34, qIs35, qPowW, qAbs, qMax2, qMin2, qMulS, qLstS, qLstUL, qLstUT, atI_0, atI_1, atI_2, atI_3, atI_m1, dIsN, dNotN, DL.isNon, dNotT, dAndT, dOrT, dBoolT, dCmpT, dIfS, dSeq, dDrop, dAsg, dAsgS, mName, dNext, dBreak, dCont, dPar, dMatch, dCase, dCasesNil, dCall, dLstI, dTupI, dStrI, dRng1, dRng2, dFor, dM1, isStrD, isLstD, startM, shw, hid, SD.shw, SD.hid, dLc, stepD, wipeD, dName, dTrue, signsD, qKs, qKi, eq_strI, eq_intI, ne_strI, ne_intI, in_str2, in_sg, dIn, dNotIn, dNegI, dRaise, seqOf])

abbrev s_law_roll : Stmt := top 45
abbrev N_law_roll : List Str := ["_law_dice_here", "_law_total", "_law_found", "_law_one", "_law_two"]
theorem sc_law_roll : FnScope N_law_roll ["_law_dice_here", "_law_total"] (defScope s_law_roll) := ⟨rfl, rfl, rfl, by decide +kernel, rfl, by decide +kernel, by decide +kernel⟩

abbrev s_law_one_of : Stmt := top 46
abbrev N_law_one_of : List Str := ["_law_dice_here", "_law_items"]
theorem sc_law_one_of : FnScope N_law_one_of ["_law_dice_here", "_law_items"] (defScope s_law_one_of) := ⟨rfl, rfl, rfl, by decide +kernel, rfl, by decide +kernel, by decide +kernel⟩

abbrev s_law_name : Stmt := top 48
abbrev N_law_name : List Str := ["_law_dice_here", "_law_size", "_law_turn"]
theorem sc_law_name : FnScope N_law_name ["_law_dice_here"] (defScope s_law_name) := ⟨rfl, rfl, rfl, by decide +kernel, rfl, by decide +kernel, by decide +kernel⟩

abbrev s_law_names : Stmt := top 49
abbrev N_law_names : List Str := ["_law_dice_here", "_law_many", "_law_found", "_law_turn", "_law_word", "_law_fresh", "_law_one"]
theorem sc_law_names : FnScope N_law_names ["_law_dice_here", "_law_many"] (defScope s_law_names) := ⟨rfl, rfl, rfl, by decide +kernel, rfl, by decide +kernel, by decide +kernel⟩

abbrev s_law_line : Stmt := top 50
abbrev N_law_line : List Str := ["_law_dice_here", "_law_size", "_law_words", "_law_way", "_law_word", "_law_pair"]
theorem sc_law_line : FnScope N_law_line ["_law_dice_here", "_law_size", "_law_words"] (defScope s_law_line) := ⟨rfl, rfl, rfl, by decide +kernel, rfl, by decide +kernel, by decide +kernel⟩

abbrev s_law_lines : Stmt := top 51
abbrev N_law_lines : List Str := ["_law_dice_here", "_law_size", "_law_words", "_law_found", "_law_tested", "_law_turn", "_law_line_here"]
theorem sc_law_lines : FnScope N_law_lines ["_law_dice_here"] (defScope s_law_lines) := ⟨rfl, rfl, rfl, by decide +kernel, rfl, by decide +kernel, by decide +kernel⟩

abbrev s_law_lines_text : Stmt := top 52
abbrev N_law_lines_text : List Str := ["_law_lines_here", "_law_line_here", "_law_word"]
theorem sc_law_lines_text : FnScope N_law_lines_text ["_law_lines_here"] (defScope s_law_lines_text) := ⟨rfl, rfl, rfl, by decide +kernel, rfl, by decide +kernel, by decide +kernel⟩


/-- a throw of the dice: any number below the total -/
def p_law_roll (ds : List D) (P : PQ) : Prop := ∃ t : Int, ds = [.die, .int t] ∧ 0 < t ∧ t ≤ 2 ^ 62 ∧ ∀ r : Int, 0 ≤ r → r < t → P (.int r)
theorem p_law_roll_len {ds P} (h : p_law_roll ds P) : ds.length = 2 := by obtain ⟨_, rfl, _⟩ := h; rfl
def p_law_one_of (ds : List D) (P : PQ) : Prop := ∃ xs : List D, ds = [.die, .lst xs] ∧ xs ≠ [] ∧ xs.length ≤ 2 ^ 62 ∧ ∀ x ∈ xs, P x
theorem p_law_one_of_len {ds P} (h : p_law_one_of ds P) : ds.length = 2 := by obtain ⟨_, rfl, _⟩ := h; rfl
def p_law_name (ds : List D) (P : PQ) : Prop := ds = [.die] ∧ ∀ s : Str, isNm s = true → P (.str s)
theorem p_law_name_len {ds P} (h : p_law_name ds P) : ds.length = 1 := by obtain ⟨rfl, _⟩ := h; rfl
theorem rangeD_len (i : Int) (n : Nat) : (rangeD i n).length = n := by simp [rangeD]
theorem goodSigns : ∀ ys : List D, (∀ y ∈ ys, ∃ c, y = D.str (sg c) ∧ c ∈ signs.cps.toList) → ∃ cs : List Nat, ys = cs.map (fun c => D.str (sg c)) ∧ ∀ c ∈ cs, c ∈ signs.cps.toList
  | [], _ => ⟨[], rfl, fun _ h => (by cases h)⟩
  | y :: ys, h => by
    obtain ⟨c, rfl, hc⟩ := h y List.mem_cons_self
    obtain ⟨cs, rfl, hs⟩ := goodSigns ys fun z hz => h z (List.mem_cons_of_mem _ hz)
    exact ⟨c :: cs, rfl, fun d hd => (List.mem_cons.mp hd).elim (fun e => by rw [e]; exact hc) (hs d)⟩
theorem tl_join0 (cs : List Nat) : tl (Txt.join "" (cs.map sg)) = cs := by
  rw [join_eq, tl_join]
  have e : tl ("" : Str) = [] := by decide +kernel
  rw [e]
  induction cs with
  | nil => rfl
  | cons c cs ih =>
    cases cs with
    | nil => rfl
    | cons d ds =>
      show [c] ++ ([] ++ joinL [] ((sg d :: ds.map sg).map tl)) = _
      rw [List.nil_append]
      have ih' : joinL [] ((sg d :: ds.map sg).map tl) = d :: ds := ih
      rw [ih']
      rfl
theorem nameSigns {cs : List Nat} (h : ∀ c ∈ cs, c ∈ signs.cps.toList) (h1 : 1 ≤ cs.length) (h2 : cs.length ≤ 8) : isNm (Txt.join "" (cs.map sg)) = true := by
  unfold isNm
  have e : (Txt.join "" (cs.map sg)).cps.toList = cs := tl_join0 cs
  rw [len_tl, tl_join0, e]
  simp only [Bool.and_eq_true, decide_eq_true_eq, List.all_eq_true]
  exact ⟨⟨h1, h2⟩, h⟩
section

variable {P : Program} {w : World} {K : PySem.W.Frag} {mg : Str → Option Value} {base : Heap}

theorem ok_law_roll (T : Txt K mg) (F : FD K mg "_law_roll" s_law_roll ["_law_dice_here", "_law_total"]) : Cal P w K mg base 4 "_law_roll" ["_law_dice_here", "_law_total"] p_law_roll := by
  refine cal_of F sc_law_roll (fun ds R h => p_law_roll_len h) (fun f cdv A outer s H E hr => ?_)
  refine ⟨_, (pds_cons (pds_if (pdt_cmp op_gtU opd_gt (pd_ix (pd_var (pv 0)) pd_int) pd_int (nomark _)) (pds_cons (pds_set (i := 2) sc_law_roll.nd rfl (Or.inl rfl) (pd_op op_mod opd_mod (pd_callTy cd_int call_intU rfl T.n_int bb_int (pda_cons (pd_ix (pd_var (pv 0)) pd_int) pda_nil)) (pd_var (pv 1))))
    (pds_cons (pds_die (pv 0) (pd_op op_fdivW opd_fdiv (pd_ix (pd_var (pv 0)) pd_int) (pd_var (pv 1))))
    (pds_one (pds_ret (pd_var (pv 2)))))) pds_nil)
    (pds_cons (pds_die (pv 0) (pd_op op_addU opd_add (pd_ix (pd_var (pv 0)) pd_int) pd_int))
    (pds_cons (pds_set (i := 3) sc_law_roll.nd rfl (Or.inl rfl) (pd_op op_mod opd_mod (pd_callTy cd_int call_intU rfl T.n_int bb_int (pda_cons (pd_op op_addU opd_add (pd_ix (pd_var (pv 0)) pd_int) (pd_op op_mulU opd_mul pd_int (pd_ix (pd_var (pv 0)) pd_int))) pda_nil)) pd_int))
    (pds_cons (pds_set (i := 4) sc_law_roll.nd rfl (Or.inl rfl) (pd_op op_addU opd_add (pd_op op_mulU opd_mul (pd_op op_mod opd_mod (pd_callTy cd_int call_intU rfl T.n_int bb_int (pda_cons (pd_op op_mulU opd_mul (pd_var (pv 3)) (pd_var (pv 3))) pda_nil)) pd_int) (pd_var (pv 3))) (pd_op op_mulU opd_mul pd_int (pd_ix (pd_var (pv 0)) pd_int))))
    (pds_cons (pds_set (i := 4) sc_law_roll.nd rfl (Or.inl rfl) (pd_op op_mod opd_mod (pd_callTy cd_int call_intU rfl T.n_int bb_int (pda_cons (pd_var (pv 4)) pda_nil)) pd_int))
    (pds_one (pds_ret (pd_op op_mod opd_mod (pd_callTy cd_int call_intU rfl T.n_int bb_int (pda_cons (pd_op op_fdivW opd_fdiv (pd_var (pv 4)) pd_int) pda_nil)) (pd_var (pv 1)))))))))), ?_⟩
  rintro ds R ⟨t, rfl, h0, h1, h⟩
  unfold dDie
  walk_at "dl"
  have hm : ∀ a m : Int, 0 < m → m ≤ 2 ^ 62 → -(2 ^ 64) < a % m ∧ a % m < 2 ^ 64 := fun a m q0 q1 => by
    have := Int.emod_nonneg a (Int.ne_of_gt q0)
    have := Int.emod_lt_of_pos a q0
    omega
  have ht : t.natAbs.log2 < 9000 := Nat.lt_of_lt_of_le ((Nat.log2_lt (by omega)).mpr (show t.natAbs < 2 ^ 63 by omega)) (by decide)
  have hr : ∀ a, R (.int (a % t)) := fun a => h _ (Int.emod_nonneg a (Int.ne_of_gt h0)) (Int.emod_lt_of_pos a h0)
  intro j
  by_cases q : 0 < j
  · exact Or.inr ⟨q, fun j' => ⟨h0, fun j2 => ⟨⟨h0, ht⟩, hr _⟩⟩⟩
  · exact Or.inl ⟨by omega, fun j j1 => ⟨Or.inl (Or.inl ⟨by decide, by decide⟩), Or.inl (Or.inl (hm _ _ (by decide) (by decide))), Or.inl (Or.inl (hm _ _ (by decide) (by decide))), fun j2 => ⟨Or.inl (Or.inl ⟨by decide, by decide⟩), ⟨by decide, by decide +kernel⟩, h0, hr _⟩⟩⟩

theorem ok_law_one_of (T : Txt K mg) (F : FD K mg "_law_one_of" s_law_one_of ["_law_dice_here", "_law_items"]) (c_law_roll : Cal P w K mg base 4 "_law_roll" ["_law_dice_here", "_law_total"] p_law_roll) : Cal P w K mg base 5 "_law_one_of" ["_law_dice_here", "_law_items"] p_law_one_of := by
  refine cal_of F sc_law_one_of (fun ds R h => p_law_one_of_len h) (fun f cdv A outer s H E hr => ?_)
  refine ⟨_, (pds_one (pds_ret (pd_ix (pd_var (pv 1)) (pd_cal c_law_roll (hr.mono (by decide)) (pda_cons (pd_var (pv 0)) (pda_cons (pd_callB cd_len call_len rfl T.n_len bb_len (pda_cons (pd_var (pv 1)) pda_nil)) pda_nil)))))), ?_⟩
  rintro ds R ⟨xs, rfl, h0, h1, h⟩
  walk_at "dl"
  refine ⟨_, rfl, ?_, by omega, fun r r0 r1 => ?_⟩
  · cases xs with
    | nil => exact absurd rfl h0
    | cons x xs => rw [List.length_cons]; omega
  · have e : r = ((r.toNat : Nat) : Int) := by omega
    have hr : r.toNat < xs.length := by omega
    show dIx (D.lst xs) (D.int r) R
    rw [qIxL, e, DL.atI_nat]
    exact ⟨xs[r.toNat], List.getElem?_eq_getElem hr, h _ (List.getElem_mem hr)⟩

theorem ok_law_name (T : Txt K mg) (F : FD K mg "_law_name" s_law_name ["_law_dice_here"]) (c_law_roll : Cal P w K mg base 4 "_law_roll" ["_law_dice_here", "_law_total"] p_law_roll) (c_law_one_of : Cal P w K mg base 5 "_law_one_of" ["_law_dice_here", "_law_items"] p_law_one_of) : Cal P w K mg base 6 "_law_name" ["_law_dice_here"] p_law_name := by
  refine cal_of F sc_law_name (fun ds R h => p_law_name_len h) (fun f cdv A outer s H E hr => ?_)
  refine ⟨_, (pds_cons (pds_set (i := 1) sc_law_name.nd rfl (Or.inl rfl) (pd_op op_addU opd_add pd_int (pd_cal c_law_roll (hr.mono (by decide)) (pda_cons (pd_var (pv 0)) (pda_cons pd_int pda_nil)))))
    (pds_one (pds_ret (pd_m1 md_join (pe_join pd_str (pd_lc (own := [("_law_turn", 2)]) (g := (gName 2)) (gd := (dName 2)) rfl sc_law_name.nd (pdi_rng1 (pi_range1 rfl T.n_range (pda_cons (pd_var (pv 1)) pda_nil))) (blkOk_by (N := N_law_name) (sc := (defScope s_law_name)) (own := [("_law_turn", 2)]) (by decide +kernel)) (fun _ _ _ _ _ => (pg_name (i := 2) sc_law_name.nd rfl (Or.inl rfl))) tgw_name (fun _ _ _ _ _ => pdts_nil) (fun _ _ _ _ _ => (pd_cal c_law_one_of (hr.mono (by decide)) (pda_cons (pd_var (pv 0)) (pda_cons (pd_callTy cd_listU (call_listU rfl) rfl T.n_list bb_list (pda_cons pd_str pda_nil)) pda_nil)))))))))), ?_⟩
  rintro ds R ⟨rfl, h⟩
  walk_at "dl"
  refine ⟨_, rfl, by decide, by decide, fun r r0 r1 => ?_⟩
  dsimp only
  rw [qAddI]
  refine ⟨_, rfl, by omega, by omega, ?_⟩
  have al : sgs signs ≠ [] := by decide +kernel
  refine lcD_any (Good := fun d => ∃ c, d = .str (sg c) ∧ c ∈ signs.cps.toList) _ (fun x _ k hk => ?_) (by rw [rangeD_len]; exact Nat.le_trans (show (1 + r).toNat ≤ 9 by omega) (by decide)) (fun ys h1 h2 => ?_)
  · walk_at "dl"
    refine ⟨by decide, _, rfl, by decide +kernel, by decide +kernel, fun x hx => ?_⟩
    obtain ⟨y, hy, rfl⟩ := List.mem_map.mp hx
    obtain ⟨c, hc, rfl⟩ := List.mem_map.mp hy
    exact hk _ ⟨c, rfl, hc⟩
  · obtain ⟨cs, rfl, hc⟩ := goodSigns ys h2
    rw [List.length_map, rangeD_len] at h1
    refine ⟨_, cs.map sg, rfl, Or.inl (by rw [List.map_map]; rfl), ?_, h _ (nameSigns hc (by omega) (by omega))⟩
    have z : ("" : Str).length = 0 := by decide +kernel
    have := sum_le (cs.map sg) fun x hx => by
      obtain ⟨c, _, rfl⟩ := List.mem_map.mp hx
      exact Nat.le_trans (Nat.le_of_eq (show (sg c).length = 1 from rfl)) (by decide)
    rw [List.length_map] at this
    rw [z, List.length_map]
    omega

end
end K82

namespace K82
open PySem PySem.Spec PyProof.Rows L2 DL
open TL

local macro_rules
  | `(tactic| walk_at "dl") => `(tactic| simp [dRet, dRetN, dAnd, dOr, dNot, dIf, dCB, dChain, dBin, dC, dVar, dCons, dNil, dStar, dTup, dLst, dSl, dPart, dNoPart, qIxL, qIxT, qIxS, qIxD, qLenS, qLenT, qLenL, qCutL, qCutT, qCutS, qAddI, qAddS, qAddT, qAddL, qSub, qMulI, qMulT, qMulL, qMod, qFdiv, qLtI, qLtS, qLeI, qLeS, qGtI, qGeI, qGtS, qGeS, qIntI, qIntB, qIntS, qLst1, qLst2, qTup1, qTup2, qStrI, qStrS, qIs1, qIs2, qIs3, qIs4, qIs5, qIs6, qIs7, qIs8, qIs9, qIs10, qIs11, qIs12, qIs13, qIs14, qIs15, qIs16, qIs17, qIs18, qIs19, qIs20, qIs21, qIs22, qIs23, qIs24, qIs25, qIs26, qIs27, qIs28, qIs29, qIs30, qIs31, qIs32, qIs33, qIs34, qIs35, qPowW, qAbs, qMax2, qMin2, qMulS, qLstS, qLstUL, qLstUT, atI_0, atI_1, atI_2, atI_3, atI_m1, dIsN, dNotN, DL.isNon, dNotT, dAndT, dOrT, dBoolT, dCmpT, dIfS, dSeq, dDrop, dAsg, dAsgS, mName, dNext, dBreak, dCont, dPar, dMatch, dCase, dCasesNil, dCall, dLstI, dTupI, dStrI, dRng1, dRng2, dFor, dM1, isStrD, isLstD, startM, shw, hid, SD.shw, SD.hid, dLc, stepD, wipeD, dName, dTrue, signsD, qKs, qKi, eq_strI, eq_intI, ne_strI, ne_intI, in_str2, in_sg, dIn, dNotIn, dNegI, dRaise, seqOf])


def nmsD (ws : List Str) : D := .lst (ws.map D.str)
def p_law_names (ds : List D) (P : PQ) : Prop := ds = [.die, .int 3] ∧ ∀ ws : List Str, ws.length = 3 → (∀ x ∈ ws, isNm x = true) → P (nmsD ws)
theorem p_law_names_len {ds P} (h : p_law_names ds P) : ds.length = 2 := by obtain ⟨rfl, _⟩ := h; rfl
def p_law_line (ds : List D) (P : PQ) : Prop := ∃ (n : Int) (ws : List Str), ds = [.die, .int n, nmsD ws] ∧ 0 ≤ n ∧ n ≤ 16 ∧ ws ≠ [] ∧ ws.length ≤ 100 ∧ (∀ x ∈ ws, isNm x = true) ∧ ∀ l : Ln, okL n l = true → P l.d
theorem p_law_line_len {ds P} (h : p_law_line ds P) : ds.length = 3 := by obtain ⟨_, _, rfl, _⟩ := h; rfl
def p_law_lines (ds : List D) (P : PQ) : Prop := ds = [.die] ∧ ∀ ls : List Ln, (∀ l ∈ ls, l.Wf) → validR ls = true → P (lnsD ls)
theorem p_law_lines_len {ds P} (h : p_law_lines ds P) : ds.length = 1 := by obtain ⟨rfl, _⟩ := h; rfl
def p_law_lines_text (ds : List D) (P : PQ) : Prop := ∃ ls : List Ln, ds = [lnsD ls] ∧ validR ls = true ∧ P (.str (textR ls))
theorem p_law_lines_text_len {ds P} (h : p_law_lines_text ds P) : ds.length = 1 := by obtain ⟨_, rfl, _⟩ := h; rfl
theorem forD_any {g : MG} {body : DSt} {I : Nat → MS → Prop} {e : MEnds} {E : XD → MS → Prop} : ∀ (xs : List D) (i : Nat) (δ : MS), I i δ →
    (∀ j x δ (e' : MEnds), xs[j]? = some x → I (i + j) δ → (∀ δ', I (i + j + 1) δ' → e'.nx δ') → (∀ δ', I (i + j + 1) δ' → e'.ct δ') → e'.rt = e.rt → e'.bk = e.nx → g x δ (fun δ1 => body δ1 e' E)) →
    (∀ δ', I (i + xs.length) δ' → e.nx δ') → dForL g body xs δ e E
  | [], i, δ, h0, _, hk => hk δ h0
  | x :: xs, i, δ, h0, hs, hk => by
    have next : ∀ δ', I (i + 1) δ' → dForL g body xs δ' e E := fun δ' h => forD_any xs (i + 1) δ' h (fun j x δ e' hx hi h1 h2 h3 h4 => hs (j + 1) x δ e' (by simpa using hx) (by rwa [show i + (j + 1) = i + 1 + j from by omega]) (fun δ' q => h1 δ' (by rwa [show i + 1 + j + 1 = i + (j + 1) + 1 from by omega])) (fun δ' q => h2 δ' (by rwa [show i + 1 + j + 1 = i + (j + 1) + 1 from by omega])) h3 h4) (fun δ' q => hk δ' (by rw [List.length_cons]; rwa [show i + (xs.length + 1) = i + 1 + xs.length from by omega]))
    exact hs 0 x δ _ rfl h0 (fun δ' h => next δ' h) (fun δ' h => next δ' h) rfl rfl
theorem sz1 : 1 ≤ sizeLine := by decide
theorem sz1' : 0 < sizeLine := by decide
theorem sz17 : 17 ≤ sizeLine := by decide
theorem sz2 : 1 < sizeLine := by decide
theorem sz3 : 2 < sizeLine := by decide
theorem sz4 : 3 < sizeLine := by decide
theorem fresh_ne {ws : List Str} (h : ws.length ≤ 2) (w : Str) : ∃ x, ((w :: sgs "abcdefghijklmnop").filter fun x => decide (x ∉ ws))[0]? = some x ∧ x ∉ ws ∧ x ∈ w :: sgs "abcdefghijklmnop" := by
  cases e : (w :: sgs "abcdefghijklmnop").filter fun x => decide (x ∉ ws) with
  | nil =>
    exfalso
    have e2 : ∀ x ∈ sgs "abcdefghijklmnop", x ∈ ws := fun x hx => Decidable.byContradiction fun q => List.filter_eq_nil_iff.mp e x (List.mem_cons_of_mem _ hx) (decide_eq_true q)
    have a := e2 "a" (by decide +kernel)
    have b := e2 "b" (by decide +kernel)
    have c := e2 "c" (by decide +kernel)
    have ab : ("a" : Str) ≠ "b" := by decide +kernel
    have ac : ("a" : Str) ≠ "c" := by decide +kernel
    have bc : ("b" : Str) ≠ "c" := by decide +kernel
    match ws, h with
    | [], _ => cases a
    | [x], _ => exact ab ((List.mem_singleton.mp a).trans (List.mem_singleton.mp b).symm)
    | [x, y], _ =>
      simp only [List.mem_cons, List.not_mem_nil, or_false] at a b c
      rcases a with a | a <;> rcases b with b | b <;> rcases c with c | c
      · exact ab (a.trans b.symm)
      · exact ab (a.trans b.symm)
      · exact ac (a.trans c.symm)
      · exact bc (b.trans c.symm)
      · exact bc (b.trans c.symm)
      · exact ac (a.trans c.symm)
      · exact ab (a.trans b.symm)
      · exact ab (a.trans b.symm)
  | cons x xs =>
    have hx : x ∈ (w :: sgs "abcdefghijklmnop").filter fun x => decide (x ∉ ws) := by rw [e]; exact List.mem_cons_self
    obtain ⟨h1, h2⟩ := List.mem_filter.mp hx
    exact ⟨x, rfl, of_decide_eq_true h2, h1⟩
theorem filterMap_ite {α β : Type} {p : α → Bool} {f : α → β} : ∀ {xs : List α}, (xs.filter p).map f = xs.filterMap fun x => if p x = true then some (f x) else none
  | [] => rfl
  | x :: xs => by
    rw [List.filter_cons, List.filterMap_cons]
    by_cases q : p x = true
    · rw [if_pos q, if_pos q, List.map_cons, filterMap_ite]
    · rw [if_neg q, if_neg q, filterMap_ite]
theorem letters_nm : ∀ x ∈ sgs "abcdefghijklmnop", isNm x = true := by decide +kernel
theorem goodLines {n : Int} : ∀ ys : List D, (∀ y ∈ ys, ∃ l : Ln, y = l.d ∧ okL n l = true) → ∃ ls : List Ln, ys = ls.map Ln.d ∧ ∀ l ∈ ls, okL n l = true
  | [], _ => ⟨[], rfl, fun _ h => (by cases h)⟩
  | y :: ys, h => by
    obtain ⟨l, rfl, hl⟩ := h y List.mem_cons_self
    obtain ⟨ls, rfl, hs⟩ := goodLines ys fun z hz => h z (List.mem_cons_of_mem _ hz)
    exact ⟨l :: ls, rfl, fun d hd => (List.mem_cons.mp hd).elim (fun e => by rw [e]; exact hl) (hs d)⟩
theorem sign_lt : ∀ c ∈ signs.cps.toList, c < 128 := by decide +kernel
theorem nm_ok {a : Str} (h : isNm a = true) : PySem.PyData.strOk a = true := by
  refine okS_iff.mpr fun c hc => ?_
  unfold isNm at h
  simp only [Bool.and_eq_true, List.all_eq_true, decide_eq_true_eq] at h
  have := sign_lt c (h.2 c hc)
  omega
theorem okL_wf {n : Int} {l : Ln} (h : okL n l = true) : l.Wf := by
  rcases okL_shape h with ⟨i, rfl, _⟩ | ⟨a, b, i, rfl, na, nb, _⟩ | ⟨g, a, b, rfl, hg, na, nb⟩
  · refine ⟨by simp, fun _ => Or.inr rfl, fun x hx => ?_, fun x hx => ?_⟩
    · cases List.mem_singleton.mp hx; decide +kernel
    · cases List.mem_singleton.mp hx; decide +kernel
  · have la := isNm_len na
    have lb := isNm_len nb
    have sz : 8 ≤ sizeLine := by decide
    refine ⟨by simp, fun _ => Or.inl rfl, fun x hx => ?_, fun x hx => ?_⟩
    · simp only [List.mem_cons, List.not_mem_nil, or_false] at hx
      rcases hx with rfl | rfl | rfl
      · decide +kernel
      · omega
      · omega
    · simp only [List.mem_cons, List.not_mem_nil, or_false] at hx
      rcases hx with rfl | rfl | rfl
      · decide +kernel
      · exact nm_ok na
      · exact nm_ok nb
  · have la := isNm_len na
    have lb := isNm_len nb
    have sz : 8 ≤ sizeLine := by decide
    refine ⟨by simp, fun h => (by cases h), fun x hx => ?_, fun x hx => ?_⟩
    · simp only [List.mem_cons, List.not_mem_nil, or_false] at hx
      rcases hx with rfl | rfl | rfl
      · rcases hg with rfl | rfl <;> decide +kernel
      · omega
      · omega
    · simp only [List.mem_cons, List.not_mem_nil, or_false] at hx
      rcases hx with rfl | rfl | rfl
      · rcases hg with rfl | rfl <;> decide +kernel
      · exact nm_ok na
      · exact nm_ok nb
/-- line[1:3] -/
def slK (l : Ln) : List Key := (l.keys.drop 1).take 2
/-- a line whose pair is one too many becomes a jump -/
def cutL (more : List (List Key)) (l : Ln) : Ln := if (more.any fun y => decide (y = slK l)) = true then ⟨["go"], some 0⟩ else l
theorem cutL_ok {n : Int} (more : List (List Key)) {l : Ln} (h : okL n l = true) (h0 : 0 ≤ n) : okL n (cutL more l) = true := by
  unfold cutL
  split
  · simp [okL, h0]
  · exact h
theorem pr_slK {n : Int} {l : Ln} {k : List Key} (h : okL n l = true) (e : prOf l = some k) : slK l = k := by
  rcases okL_shape h with ⟨i, rfl, _⟩ | ⟨a, b, i, rfl, _⟩ | ⟨g, a, b, rfl, _⟩
  · cases e
  · cases e; rfl
  · cases e
theorem nodup_len {ys zs : List (List Key)} (nd : ys.Nodup) (h : ∀ y ∈ ys, y ∈ zs) : ys.length ≤ zs.length := by
  induction ys generalizing zs with
  | nil => exact Nat.zero_le _
  | cons y ys ih =>
    obtain ⟨h1, h2⟩ := List.nodup_cons.mp nd
    have hy := h y List.mem_cons_self
    have := ih (zs := zs.filter fun z => decide (z ≠ y)) h2 fun x hx => List.mem_filter.mpr ⟨h x (List.mem_cons_of_mem _ hx), decide_eq_true fun e => h1 (by rw [← e]; exact hx)⟩
    have lt : (zs.filter fun z => decide (z ≠ y)).length < zs.length := List.length_filter_lt_length_iff_exists.mpr ⟨y, hy, by simp⟩
    rw [List.length_cons]
    omega
theorem cut_valid {ls : List Ln} {n : Nat} {ys : List (List Key)} (ok : ∀ l ∈ ls, okL n l = true) (hl : ls.length = n) (hn : n ≤ 16) (nd : ys.Nodup) (hm : ∀ k, k ∈ ys ↔ k ∈ prs ls) : validR (ls.map (cutL (ys.drop 6))) = true := by
  unfold validR
  rw [List.length_map, hl, decide_eq_true hn, Bool.true_and, Bool.and_eq_true]
  refine ⟨List.all_eq_true.mpr fun l h => ?_, decide_eq_true ?_⟩
  · obtain ⟨m, hm, rfl⟩ := List.mem_map.mp h
    exact cutL_ok _ (ok m hm) (by omega)
  · refine Nat.le_trans (nodup_len (zs := ys.take 6) dd_nodup fun k hk => ?_) (by rw [List.length_take]; omega)
    obtain ⟨l, h, e⟩ := List.mem_filterMap.mp (dd_mem.mp hk)
    obtain ⟨m, hm2, rfl⟩ := List.mem_map.mp h
    unfold cutL at e
    by_cases q : ((ys.drop 6).any fun y => decide (y = slK m)) = true
    · rw [if_pos q] at e
      cases e
    · rw [if_neg q] at e
      have hk := (hm k).mpr (List.mem_filterMap.mpr ⟨m, hm2, e⟩)
      rw [pr_slK (ok m hm2) e] at q
      have : k ∉ ys.drop 6 := fun h => q (any_eq.mpr h)
      rw [← List.take_append_drop 6 ys] at hk
      exact (List.mem_append.mp hk).resolve_right this
theorem log_small {i : Int} (h0 : 0 ≤ i) (h1 : i ≤ 16) : i.natAbs.log2 < 1920 := Nat.lt_of_le_of_lt (Nat.log2_le_self _) (by omega)
/-- ' '.join([str(word) for word in line]) -/
theorem line_items {step : D → (Option D → Prop) → Prop} {l : Ln} {n : Int} {R : PQ} (ok : okL n l = true) (hn : n ≤ 16) (hs : ∀ s k, k (some (D.str s)) → step (.str s) k) (hi : ∀ (i : Int) k, 0 ≤ i → i ≤ 16 → k (some (D.str (strI i))) → step (.int i) k) (h : R (.str (lineT l))) :
    lcD step (l.keys.map kD) [] fun ys => dJoin (.str " ") [.lst ys] R := by
  have l1 : (" " : Str).length = 1 := by decide +kernel
  have l2 : ("go" : Str).length = 2 := by decide +kernel
  have l3 : ("if" : Str).length = 2 := by decide +kernel
  have l4 : ("read" : Str).length = 4 := by decide +kernel
  have l5 : ("look" : Str).length = 4 := by decide +kernel
  have fin : ∀ ys : List Str, ys.length ≤ 4 → (∀ y ∈ ys, y.length ≤ 64) → R (.str (Txt.join " " ys)) → dJoin (.str " ") [.lst (ys.map D.str)] R := fun ys h1 h2 h3 => by
    have := sum_le ys h2
    refine ⟨_, ys, rfl, Or.inl rfl, ?_, h3⟩
    rw [l1]
    omega
  rcases okL_shape ok with ⟨i, rfl, i0, i1⟩ | ⟨a, b, i, rfl, na, nb, i0, i1⟩ | ⟨g, a, b, rfl, hg, na, nb⟩
  · have e : (Ln.keys ⟨["go"], some i⟩).map kD = [D.str "go", D.int i] := rfl
    rw [e]
    exact ⟨by decide, hs _ _ ⟨by decide, hi _ _ i0 (by omega) (fin ["go", strI i] (by simp) (by simp [l2]; have := strI_len i0 (show i ≤ 16 by omega); omega) h)⟩⟩
  · have e : (Ln.keys ⟨["if", a, b], some i⟩).map kD = [D.str "if", D.str a, D.str b, D.int i] := rfl
    rw [e]
    exact ⟨sz1', hs _ _ ⟨sz2, hs _ _ ⟨sz3, hs _ _ ⟨sz4, hi _ _ i0 (by omega) (fin ["if", a, b, strI i] (by simp) (by simp [l3]; have := strI_len i0 (show i ≤ 16 by omega); have := isNm_len na; have := isNm_len nb; omega) h)⟩⟩⟩⟩
  · have e : (Ln.keys ⟨[g, a, b], none⟩).map kD = [D.str g, D.str a, D.str b] := rfl
    rw [e]
    have gl : g.length ≤ 8 := by rcases hg with rfl | rfl <;> omega
    exact ⟨sz1', hs _ _ ⟨sz2, hs _ _ ⟨sz3, hs _ _ (fin [g, a, b] (by simp) (by simp; have := isNm_len na; have := isNm_len nb; omega) h)⟩⟩⟩
section

variable {P : Program} {w : World} {K : PySem.W.Frag} {mg : Str → Option Value} {base : Heap}

theorem ok_law_names (T : Txt K mg) (F : FD K mg "_law_names" s_law_names ["_law_dice_here", "_law_many"]) (c_law_one_of : Cal P w K mg base 5 "_law_one_of" ["_law_dice_here", "_law_items"] p_law_one_of) (c_law_roll : Cal P w K mg base 4 "_law_roll" ["_law_dice_here", "_law_total"] p_law_roll) (c_law_name : Cal P w K mg base 6 "_law_name" ["_law_dice_here"] p_law_name) : Cal P w K mg base 7 "_law_names" ["_law_dice_here", "_law_many"] p_law_names := by
  refine cal_of F sc_law_names (fun ds R h => p_law_names_len h) (fun f cdv A outer s H E hr => ?_)
  refine ⟨_, (pds_cons (pds_own (i := 2) sc_law_names.nd rfl (Or.inr rfl) pda_nil)
    (pds_cons (pds_for PassesOwnAt.never rfl (pdi_rng1 (pi_range1 rfl T.n_range (pda_cons (pd_var (pv 1)) pda_nil))) (pdg_name (pg_name (i := 3) sc_law_names.nd rfl (Or.inl rfl))) (pds_cons (pds_set (i := 4) sc_law_names.nd rfl (Or.inl rfl) (pd_cal c_law_one_of (hr.mono (by decide)) (pda_cons (pd_var (pv 0)) (pda_cons (pd_lst (pda_cons pd_str (pda_cons pd_str (pda_cons pd_str (pda_cons pd_str (pda_cons pd_str (pda_cons pd_str (pda_cons pd_str (pda_cons pd_str pda_nil))))))))) pda_nil))))
    (pds_cons (pds_if (pdt_cmp (op_eqU hr) opd_eq (pd_cal c_law_roll (hr.mono (by decide)) (pda_cons (pd_var (pv 0)) (pda_cons pd_int pda_nil))) pd_int (nomark _)) (pds_one (pds_set (i := 4) sc_law_names.nd rfl (Or.inl rfl) (pd_cal c_law_name (hr.mono (by decide)) (pda_cons (pd_var (pv 0)) pda_nil)))) pds_nil)
    (pds_cons (pds_setLcS (i := 5) (own := [("_law_one", 6)]) (g := (gName 6)) (gd := (dName 6)) rfl sc_law_names.nd rfl rfl (sw_true rfl rfl rfl (by decide +kernel)) (pdi_list (pd_op op_addU opd_add (pd_lst (pda_cons (pd_var (pv 4)) pda_nil)) (pd_callTy cd_listU (call_listU rfl) rfl T.n_list bb_list (pda_cons pd_str pda_nil)))) (blkOk_by (N := N_law_names) (sc := (defScope s_law_names)) (own := [("_law_one", 6)]) (by decide +kernel)) (fun _ _ _ _ _ => (pg_name (i := 6) sc_law_names.nd rfl (Or.inl rfl))) tgw_name (fun _ _ _ _ _ => (pdts_one (pdt_cmp (op_notInU hr (by decide)) opd_notIn (pd_var (pv 6)) (pd_var (pv 2)) rfl))) (fun _ _ _ _ _ => (pd_var (pv 6))))
    (pds_one (pds_appS (pv 2) (pd_ix (pd_var (pv 5)) pd_int)))))))
    (pds_one (pds_ret (pd_var (pv 2)))))), ?_⟩
  rintro ds R ⟨rfl, h⟩
  unfold dOwn dAppS
  walk_at "dl"
  refine forD_any (I := fun i δ => ∃ (ws : List Str) (a b : Option SD), ws.length = i ∧ (∀ x ∈ ws, isNm x = true) ∧ δ = [some (.dat .die), some (.dat (.int 3)), some (.own (.l (ws.map D.str))), a, b, none, none]) (rangeD 0 3) 0 _ ⟨[], none, none, rfl, by simp, rfl⟩ (fun j x δ e' hx hi hn _ _ _ => ?_) (fun δ' hi => ?_)
  · obtain ⟨ws, a, b, hl, hw, rfl⟩ := hi
    have hj : j < 3 := by
      have := (List.getElem?_eq_some_iff.mp hx).1
      rwa [rangeD_len] at this
    walk_at "dl"
    have step : ∀ s : Str, isNm s = true → lcD (stepD (dName 6) [6] (dCmpT dNotIn (dVar 6) (dVar 2)) (dVar 6) [some D.die, some (D.int 3), some (OD.l (List.map D.str ws)).shw, some x, some (.str s), none, none])
        (D.str s :: List.map D.str (sgs (Str.ofString "abcdefghijklmnop"))) [] fun ys => ws.length < sizeLine ∧ ∃ d_2, ys[0]? = some d_2 ∧ DL.scal d_2 = true ∧
          e'.nx (drp [some (SD.dat D.die), some (SD.dat (D.int 3)), some (SD.own (OD.l (List.map D.str ws ++ [d_2]))), some (SD.dat x), some (SD.dat (.str s)), some (SD.tnt (D.lst ys)), none]) := fun s hs => by
      rw [show D.str s :: List.map D.str (sgs (Str.ofString "abcdefghijklmnop")) = (s :: sgs (Str.ofString "abcdefghijklmnop")).map D.str from rfl]
      refine lcD_filL (f := fun y => if decide (y ∉ ws) = true then some (D.str y) else none) _ (fun y _ k hk => ?_) (by rw [List.length_cons, show (sgs (Str.ofString "abcdefghijklmnop")).length = 16 from by decide +kernel]; exact sz17) ?_
      · walk_at "dl"
        unfold OD.shw
        refine in_strsL ?_
        by_cases q : y ∈ ws
        · exact Or.inl ⟨by simpa using q, by simpa [q] using hk⟩
        · exact Or.inr ⟨by simpa using q, by simpa [q] using hk⟩
      · obtain ⟨y, h1, h2, h3⟩ := fresh_ne (show ws.length ≤ 2 by omega) s
        refine ⟨Nat.lt_of_le_of_lt (show ws.length ≤ 2 by omega) (by decide), .str y, ?_, rfl, hn _ ⟨ws ++ [y], some (.dat x), some (.dat (.str s)), by rw [List.length_append, hl]; rfl, fun z hz => ?_, by rw [List.map_append]; rfl⟩⟩
        · rw [← filterMap_ite, List.getElem?_map, h1]
          rfl
        · rcases List.mem_append.mp hz with hz | hz
          · exact hw z hz
          · cases List.mem_singleton.mp hz
            rcases List.mem_cons.mp h3 with rfl | h3
            · exact hs
            · exact letters_nm y h3
    refine ⟨by decide, _, rfl, by simp, by decide, fun d hd => ⟨_, rfl, by decide, by decide, fun r _ _ => eq_intI.mpr ?_⟩⟩
    have hd : ∃ s : Str, d = .str s ∧ isNm s = true := by
      simp only [List.mem_cons, List.not_mem_nil, or_false] at hd
      rcases hd with rfl | rfl | rfl | rfl | rfl | rfl | rfl | rfl <;> exact ⟨_, rfl, by decide +kernel⟩
    obtain ⟨s, rfl, hs⟩ := hd
    by_cases q : r = 0
    · exact Or.inr ⟨by rw [decide_eq_true q], rfl, fun s hs => ⟨by decide, by decide +kernel, by decide +kernel, step s hs⟩⟩
    · exact Or.inl ⟨by rw [decide_eq_false q], by decide, by decide +kernel, by decide +kernel, step s hs⟩
  · obtain ⟨ws, a, b, hl, hw, rfl⟩ := hi
    exact h ws (hl.trans (by rw [rangeD_len])) hw

theorem ok_law_line (T : Txt K mg) (F : FD K mg "_law_line" s_law_line ["_law_dice_here", "_law_size", "_law_words"]) (c_law_roll : Cal P w K mg base 4 "_law_roll" ["_law_dice_here", "_law_total"] p_law_roll) (c_law_one_of : Cal P w K mg base 5 "_law_one_of" ["_law_dice_here", "_law_items"] p_law_one_of) : Cal P w K mg base 6 "_law_line" ["_law_dice_here", "_law_size", "_law_words"] p_law_line := by
  refine cal_of F sc_law_line (fun ds R h => p_law_line_len h) (fun f cdv A outer s H E hr => ?_)
  refine ⟨_, (pds_cons (pds_set (i := 3) sc_law_line.nd rfl (Or.inl rfl) (pd_cal c_law_roll (hr.mono (by decide)) (pda_cons (pd_var (pv 0)) (pda_cons pd_int pda_nil))))
    (pds_cons (pds_if (pdt_cmp (op_eqU hr) opd_eq (pd_var (pv 3)) pd_int (nomark _)) (pds_one (pds_ret (pd_tup (pda_cons pd_str (pda_cons (pd_cal c_law_roll (hr.mono (by decide)) (pda_cons (pd_var (pv 0)) (pda_cons (pd_op op_addU opd_add (pd_var (pv 1)) pd_int) pda_nil))) pda_nil))))) pds_nil)
    (pds_cons (pds_set (i := 4) sc_law_line.nd rfl (Or.inl rfl) (pd_cal c_law_one_of (hr.mono (by decide)) (pda_cons (pd_var (pv 0)) (pda_cons (pd_lst (pda_cons pd_str (pda_cons pd_str (pda_cons pd_str pda_nil)))) pda_nil))))
    (pds_cons (pds_set (i := 5) sc_law_line.nd rfl (Or.inl rfl) (pd_tup (pda_cons (pd_cal c_law_one_of (hr.mono (by decide)) (pda_cons (pd_var (pv 0)) (pda_cons (pd_var (pv 2)) pda_nil))) (pda_cons (pd_cal c_law_one_of (hr.mono (by decide)) (pda_cons (pd_var (pv 0)) (pda_cons (pd_var (pv 2)) pda_nil))) pda_nil))))
    (pds_cons (pds_if (pdt_cmp (op_eqU hr) opd_eq (pd_var (pv 3)) pd_int (nomark _)) (pds_one (pds_ret (pd_op op_addU opd_add (pd_op op_addU opd_add (pd_tup (pda_cons pd_str pda_nil)) (pd_var (pv 5))) (pd_tup (pda_cons (pd_cal c_law_roll (hr.mono (by decide)) (pda_cons (pd_var (pv 0)) (pda_cons (pd_op op_addU opd_add (pd_var (pv 1)) pd_int) pda_nil))) pda_nil))))) pds_nil)
    (pds_one (pds_ret (pd_op op_addU opd_add (pd_tup (pda_cons (pd_var (pv 4)) pda_nil)) (pd_var (pv 5)))))))))), ?_⟩
  rintro ds R ⟨n, ws, rfl, h0, h1, hne, hl, hw, h⟩
  unfold nmsD
  walk_at "dl"
  have wl : ∀ Q : PQ, (∀ a, isNm a = true → Q (.str a)) → p_law_one_of [.die, .lst (ws.map D.str)] Q := fun Q hq => by
    refine ⟨_, rfl, fun e => hne (List.map_eq_nil_iff.mp e), by rw [List.length_map]; omega, fun x hx => ?_⟩
    obtain ⟨a, ha, rfl⟩ := List.mem_map.mp hx
    exact hq a (hw a ha)
  refine ⟨_, rfl, by decide, by decide, fun r r0 r1 => ?_⟩
  refine eq_intI.mpr ?_
  by_cases q : r = 0
  · refine Or.inr ⟨by rw [decide_eq_true q], _, rfl, by omega, by omega, fun i i0 i1 => ⟨by decide, h ⟨["go"], some i⟩ ?_⟩⟩
    simp [okL, i0]
    omega
  · refine Or.inl ⟨by rw [decide_eq_false q], by decide, _, rfl, by simp, by decide, fun g hg => ?_⟩
    refine wl _ fun a na => wl _ fun b nb => ⟨by decide, ?_⟩
    refine eq_intI.mpr ?_
    have gg : ∃ s : Str, g = .str s ∧ (s = "read" ∨ s = "look") := by
      simp only [List.mem_cons, List.not_mem_nil, or_false] at hg
      rcases hg with rfl | rfl | rfl
      · exact ⟨_, rfl, Or.inl rfl⟩
      · exact ⟨_, rfl, Or.inl rfl⟩
      · exact ⟨_, rfl, Or.inr rfl⟩
    obtain ⟨s, rfl, hs⟩ := gg
    by_cases q2 : r = 1
    · refine Or.inr ⟨by rw [decide_eq_true q2], by decide, sz3, _, rfl, by omega, by omega, fun i i0 i1 => ⟨by decide, sz4, h ⟨["if", a, b], some i⟩ ?_⟩⟩
      simp [okL, i0, na, nb]
      omega
    · refine Or.inl ⟨by rw [decide_eq_false q2], sz1, sz3, h ⟨[s, a, b], none⟩ ?_⟩
      simp [okL, na, nb, hs]

theorem ok_law_lines (T : Txt K mg) (F : FD K mg "_law_lines" s_law_lines ["_law_dice_here"]) (c_law_one_of : Cal P w K mg base 5 "_law_one_of" ["_law_dice_here", "_law_items"] p_law_one_of) (c_law_names : Cal P w K mg base 7 "_law_names" ["_law_dice_here", "_law_many"] p_law_names) (c_law_line : Cal P w K mg base 6 "_law_line" ["_law_dice_here", "_law_size", "_law_words"] p_law_line) : Cal P w K mg base 8 "_law_lines" ["_law_dice_here"] p_law_lines := by
  refine cal_of F sc_law_lines (fun ds R h => p_law_lines_len h) (fun f cdv A outer s H E hr => ?_)
  refine ⟨_, (pds_cons (pds_set (i := 1) sc_law_lines.nd rfl (Or.inr rfl) (pd_cal c_law_one_of (hr.mono (by decide)) (pda_cons (pd_var (pv 0)) (pda_cons (pd_lst (pda_cons pd_int (pda_cons pd_int (pda_cons pd_int (pda_cons pd_int (pda_cons pd_int (pda_cons pd_int (pda_cons pd_int (pda_cons pd_int pda_nil))))))))) pda_nil))))
    (pds_cons (pds_set (i := 2) sc_law_lines.nd rfl (Or.inr rfl) (pd_cal c_law_names (hr.mono (by decide)) (pda_cons (pd_var (pv 0)) (pda_cons pd_int pda_nil))))
    (pds_cons (pds_setLc (i := 3) (own := [("_law_turn", 5)]) (g := (gName 5)) (gd := (dName 5)) rfl sc_law_lines.nd rfl rfl (sw_true rfl rfl rfl (by decide +kernel)) (pdi_rng1 (pi_range1 rfl T.n_range (pda_cons (pd_var (pv 1)) pda_nil))) (blkOk_by (N := N_law_lines) (sc := (defScope s_law_lines)) (own := [("_law_turn", 5)]) (by decide +kernel)) (fun _ _ _ _ _ => (pg_name (i := 5) sc_law_lines.nd rfl (Or.inl rfl))) tgw_name (fun _ _ _ _ _ => pdts_nil) (fun _ _ _ _ _ => (pd_cal c_law_line (hr.mono (by decide)) (pda_cons (pd_var (pv 0)) (pda_cons (pd_var (pv 1)) (pda_cons (pd_var (pv 2)) pda_nil))))))
    (pds_cons (pds_set (i := 4) sc_law_lines.nd rfl (Or.inr rfl) (pd_sset rfl (Nat.lt_of_succ_lt (units65 hr (by decide))) rfl T.n_sorted rfl T.n_set (pd_lc (own := [("_law_line_here", 6)]) (g := (gName 6)) (gd := (dName 6)) rfl sc_law_lines.nd (pdi_list (pd_var (pv 3))) (blkOk_by (N := N_law_lines) (sc := (defScope s_law_lines)) (own := [("_law_line_here", 6)]) (by decide +kernel)) (fun _ _ _ _ _ => (pg_name (i := 6) sc_law_lines.nd rfl (Or.inl rfl))) tgw_name (fun _ _ _ _ _ => (pdts_one (pdt_cmp (op_eqU hr) opd_eq (pd_ix (pd_var (pv 6)) pd_int) pd_str (nomark _)))) (fun _ _ _ _ _ => (pd_slice (pd_var (pv 6)) (pdo_some pd_int) (pdo_some pd_int))))))
    (pds_one (pds_ret (pd_callTy cd_tuple call_tuple_of rfl T.n_tuple bb_tuple (pda_cons (pd_lc (own := [("_law_line_here", 6)]) (g := (gName 6)) (gd := (dName 6)) rfl sc_law_lines.nd (pdi_list (pd_var (pv 3))) (blkOk_by (N := N_law_lines) (sc := (defScope s_law_lines)) (own := [("_law_line_here", 6)]) (by decide +kernel)) (fun _ _ _ _ _ => (pg_name (i := 6) sc_law_lines.nd rfl (Or.inl rfl))) tgw_name (fun _ _ _ _ _ => pdts_nil) (fun _ _ _ _ _ => (pd_if (pdt_cmp (op_inU hr (by decide)) opd_in (pd_slice (pd_var (pv 6)) (pdo_some pd_int) (pdo_some pd_int)) (pd_slice (pd_var (pv 4)) (pdo_some pd_int) pdo_none) rfl) (pd_tup (pda_cons pd_str (pda_cons pd_int pda_nil))) (pd_var (pv 6))))) pda_nil)))))))), ?_⟩
  rintro ds R ⟨rfl, h⟩
  unfold dSset
  walk_at "dl"
  refine ⟨by decide, _, rfl, by simp, by decide, fun d hd => ?_⟩
  have hd : ∃ n : Nat, d = .int n ∧ n ≤ 16 := by
    simp only [List.mem_cons, List.not_mem_nil, or_false] at hd
    rcases hd with rfl | rfl | rfl | rfl | rfl | rfl | rfl | rfl
    · exact ⟨0, rfl, by decide⟩
    · exact ⟨1, rfl, by decide⟩
    · exact ⟨2, rfl, by decide⟩
    · exact ⟨3, rfl, by decide⟩
    · exact ⟨4, rfl, by decide⟩
    · exact ⟨6, rfl, by decide⟩
    · exact ⟨9, rfl, by decide⟩
    · exact ⟨16, rfl, by decide⟩
  obtain ⟨n, rfl, hn⟩ := hd
  refine ⟨rfl, fun ws hl hw => ⟨_, rfl, by omega, by omega, ?_⟩⟩
  refine lcD_any (Good := fun d => ∃ l : Ln, d = l.d ∧ okL n l = true) _ (fun x _ k hk => ?_) (by rw [rangeD_len]; exact Nat.le_trans (show (n : Int).toNat ≤ 16 by omega) (by decide)) (fun ys h1 h2 => ?_)
  · walk_at "dl"
    refine ⟨n, ws, rfl, by omega, by omega, fun e => (by rw [e] at hl; cases hl), by omega, hw, fun l hl => hk _ ⟨l, rfl, hl⟩⟩
  obtain ⟨ls, rfl, ok⟩ := goodLines ys h2
  rw [List.length_map, rangeD_len] at h1
  have hls : ls.length = n := by omega
  refine lcD_filL (f := fun l => (prOf l).map tupK) ls (fun l hlm k hk => ?_) (Nat.le_trans (show ls.length ≤ 16 by omega) (by decide)) ?_
  · rcases okL_shape (ok l hlm) with ⟨i, rfl, _⟩ | ⟨a, b, i, rfl, _⟩ | ⟨g, a, b, rfl, hg, _⟩
    · unfold Ln.d Ln.keys tupK
      walk_at "dl"
      exact Or.inl ⟨by decide, hk⟩
    · unfold Ln.d Ln.keys tupK
      walk_at "dl"
      rw [cut13]
      exact hk
    · unfold Ln.d Ln.keys tupK
      rcases hg with rfl | rfl
      · walk_at "dl"
        exact Or.inl ⟨by decide, hk⟩
      · walk_at "dl"
        exact Or.inl ⟨by decide, hk⟩
  refine ⟨prs ls, by unfold prs; rw [List.map_filterMap], Nat.lt_of_le_of_lt (List.length_filterMap_le _ _) (show ls.length < 64 by omega), ⟨fun _ => true, fun k hk => ?_⟩, fun ys nd hm _ => ?_⟩
  · obtain ⟨l, hlm, e⟩ := List.mem_filterMap.mp hk
    rcases okL_shape (ok l hlm) with ⟨i, rfl, _⟩ | ⟨a, b, i, rfl, _⟩ | ⟨g, a, b, rfl, hg, _⟩
    · cases e
    · cases e
      exact ⟨⟨rfl, rfl, trivial⟩, by simp⟩
    · cases e
  have oky : ((ys.drop 6).all fun k => k.all kOk) = true := List.all_eq_true.mpr fun k hk => by
    obtain ⟨l, hlm, e⟩ := List.mem_filterMap.mp ((hm k).mp (List.mem_of_mem_drop hk))
    rcases okL_shape (ok l hlm) with ⟨i, rfl, _⟩ | ⟨a, b, i, rfl, na, nb, _⟩ | ⟨g, a, b, rfl, hg, _⟩
    · cases e
    · cases e
      show ((Sum.inr a : Key) :: [Sum.inr b]).all kOk = true
      simp only [List.all_cons, List.all_nil, kOk, nm_ok na, nm_ok nb]
      rfl
    · cases e
  refine lcD_mapL (f := fun l => Ln.d (cutL (ys.drop 6) l)) ls (fun l hlm k hk => ?_) (Nat.le_trans (show ls.length ≤ 16 by omega) (by decide)) ?_
  · walk_at "dl"
    have wf := okL_wf (ok l hlm)
    unfold Ln.d
    unfold tupK
    simp only [qCutT, qCutL]
    rw [cut_ge (by decide), cut_mid (by decide) (by decide), ← List.map_drop, ← List.map_drop, ← List.map_take]
    refine in_tups (k := slK l) ?_ oky ?_
    · exact List.all_eq_true.mpr fun x hx => List.all_eq_true.mp wf.kok x (List.mem_of_mem_drop (List.mem_of_mem_take hx))
    · unfold cutL at hk
      by_cases q : ((ys.drop 6).any fun y => decide (y = slK l)) = true
      · rw [if_pos q] at hk
        exact (if_pos q).mpr ⟨by decide, hk⟩
      · rw [if_neg q] at hk
        exact (if_neg q).mpr hk
  · have hh := h (ls.map (cutL (ys.drop 6))) (fun l hl => ?_) (cut_valid ok hls hn nd hm)
    · unfold lnsD at hh
      rw [List.map_map] at hh
      exact hh
    · obtain ⟨m, hm, rfl⟩ := List.mem_map.mp hl
      exact okL_wf (cutL_ok _ (ok m hm) (by omega))

theorem ok_law_lines_text (T : Txt K mg) (F : FD K mg "_law_lines_text" s_law_lines_text ["_law_lines_here"]) : Cal P w K mg base 4 "_law_lines_text" ["_law_lines_here"] p_law_lines_text := by
  refine cal_of F sc_law_lines_text (fun ds R h => p_law_lines_text_len h) (fun f cdv A outer s H E hr => ?_)
  refine ⟨_, (pds_one (pds_ret (pd_m1 md_join (pe_join pd_str (pd_lc (own := [("_law_line_here", 1)]) (g := (gName 1)) (gd := (dName 1)) rfl sc_law_lines_text.nd (pdi_tup (pd_var (pv 0))) (blkOk_by (N := N_law_lines_text) (sc := (defScope s_law_lines_text)) (own := [("_law_line_here", 1)]) (by decide +kernel)) (fun _ _ _ _ _ => (pg_name (i := 1) sc_law_lines_text.nd rfl (Or.inl rfl))) tgw_name (fun _ _ _ _ _ => pdts_nil) (fun _ _ _ _ _ => (pd_m1 md_join (pe_join pd_str (pd_lc (own := [("_law_word", 2)]) (g := (gName 2)) (gd := (dName 2)) rfl sc_law_lines_text.nd (pdi_tup (pd_var (pv 1))) (blkOk_by (N := N_law_lines_text) (sc := (L2.relS _ (defScope s_law_lines_text))) (own := [("_law_word", 2)]) (by decide +kernel)) (fun _ _ _ _ _ => (pg_name (i := 2) sc_law_lines_text.nd rfl (Or.inl rfl))) tgw_name (fun _ _ _ _ _ => pdts_nil) (fun _ _ _ _ _ => (pd_callTy cd_strc call_strU rfl T.n_str bb_str (pda_cons (pd_var (pv 2)) pda_nil)))))))))))), ?_⟩
  rintro ds R ⟨ls, rfl, hv, h⟩
  unfold lnsD
  walk_at "dl"
  unfold validR at hv
  simp only [Bool.and_eq_true, decide_eq_true_eq] at hv
  obtain ⟨hv1, hv2, hv3⟩ := hv
  have okl : ∀ l ∈ ls, okL ls.length l = true := fun l hl => List.all_eq_true.mp hv2 l hl
  refine lcD_mapL (f := fun l => D.str (lineT l)) ls (fun l hl k hk => ?_) (Nat.le_trans hv1 (by decide)) ?_
  · walk_at "dl"
    refine ⟨_, rfl, line_items (okl l hl) (by omega) (fun s k hk => ?_) (fun i k i0 i1 hk => ?_) hk⟩
    · walk_at "dl"
      exact hk
    · walk_at "dl"
      exact ⟨log_small i0 i1, hk⟩
  · refine ⟨_, ls.map lineT, rfl, Or.inl (by rw [List.map_map]; rfl), ?_, h⟩
    have l1 : ("\n" : Str).length = 1 := by decide +kernel
    rw [l1, List.length_map]
    have := sum_le (ls.map lineT) fun x hx => by
      obtain ⟨l, hl, rfl⟩ := List.mem_map.mp hx
      exact lineT_len (okl l hl) (by omega)
    rw [List.length_map] at this
    omega

end
end K82

namespace K82
open PySem PySem.Spec PyProof.Rows L2 DL
open TL

local macro_rules
  | `(tactic| walk_at "dl") => `(tactic| simp [dRet, dRetN, dAnd, dOr, dNot, dIf, dCB, dChain, dBin, dC, dVar, dCons, dNil, dStar, dTup, dLst, dSl, dPart, dNoPart, qIxL, qIxT, qIxS, qIxD, qLenS, qLenT, qLenL, qCutL, qCutT, qCutS, qAddI, qAddS, qAddT, qAddL, qSub, qMulI, qMulT, qMulL, qMod, qFdiv, qLtI, qLtS, qLeI, qLeS, qGtI, qGeI, qGtS, qGeS, qIntI, qIntB, qIntS, qLst1, qLst2, qTup1, qTup2, qStrI, qStrS, qIs1, qIs2, qIs3, qIs4, qIs5, qIs6, qIs7, qIs8, qIs9, qIs10, qIs11, qIs12, qIs13, qIs14, qIs15, qIs16, qIs17, qIs18, qIs19, qIs20, qIs21, qIs22, qIs23, qIs24, qIs25, qIs26, qIs27, qIs28, qIs29, qIs30, qIs31, qIs32, qIs33, qIs34, qIs35, qPowW, qAbs, qMax2, qMin2, qMulS, qLstS, qLstUL, qLstUT, atI_0, atI_1, atI_2, atI_3, atI_m1, dIsN, dNotN, DL.isNon, dNotT, dAndT, dOrT, dBoolT, dCmpT, dIfS, dSeq, dDrop, dAsg, dAsgS, mName, dNext, dBreak, dCont, dPar, dMatch, dCase, dCasesNil, dCall, dLstI, dTupI, dStrI, dRng1, dRng2, dFor, dM1, isStrD, isLstD, startM, shw, hid, SD.shw, SD.hid, dLc, stepD, wipeD, dName, dTrue, signsD, qKs, qKi, eq_strI, eq_intI, ne_strI, ne_intI, in_str2, in_sg, dIn, dNotIn, dNegI, dRaise, seqOf])

abbrev s_law_is_name : Stmt := top 56
abbrev N_law_is_name : List Str := ["_law_word", "_law_sign"]
theorem sc_law_is_name : FnScope N_law_is_name ["_law_word"] (defScope s_law_is_name) := ⟨rfl, rfl, rfl, by decide +kernel, rfl, by decide +kernel, by decide +kernel⟩

abbrev s_law_number : Stmt := top 57
abbrev N_law_number : List Str := ["_law_word", "_law_sign"]
theorem sc_law_number : FnScope N_law_number ["_law_word"] (defScope s_law_number) := ⟨rfl, rfl, rfl, by decide +kernel, rfl, by decide +kernel, by decide +kernel⟩

abbrev s_law_line_read : Stmt := top 58
abbrev N_law_line_read : List Str := ["_law_line_here", "_law_size", "_law_words", "_law_number_here", "_law_one"]
theorem sc_law_line_read : FnScope N_law_line_read ["_law_line_here", "_law_size"] (defScope s_law_line_read) := ⟨rfl, rfl, rfl, by decide +kernel, rfl, by decide +kernel, by decide +kernel⟩

abbrev s_law_lines_read : Stmt := top 59
abbrev N_law_lines_read : List Str := ["_law_text", "_law_lines_here", "_law_found", "_law_tested", "_law_line_here"]
theorem sc_law_lines_read : FnScope N_law_lines_read ["_law_text"] (defScope s_law_lines_read) := ⟨rfl, rfl, rfl, by decide +kernel, rfl, by decide +kernel, by decide +kernel⟩


def p_law_is_name (ds : List D) (P : PQ) : Prop := ∃ s : Str, ds = [.str s] ∧ s.length ≤ sizeLine ∧ okS s ∧ P (.bl (isNm s))
theorem p_law_is_name_len {ds P} (h : p_law_is_name ds P) : ds.length = 1 := by obtain ⟨_, rfl, _⟩ := h; rfl
/-- a number without a needless zero -/
def numL (s : Str) : Option Int := if isNum s = true then (if s.cps.toList.head? = some 48 ∧ s ≠ "0" then none else some (numV s)) else none
def oI : Option Int → D
  | none => .non
  | some i => .int i
def p_law_number (ds : List D) (P : PQ) : Prop := ∃ s : Str, ds = [.str s] ∧ s.length ≤ sizeLine ∧ okS s ∧ P (oI (numL s))
theorem p_law_number_len {ds P} (h : p_law_number ds P) : ds.length = 1 := by obtain ⟨_, rfl, _⟩ := h; rfl
theorem sign_mem {c : Nat} : c ∈ signs.cps.toList ↔ 97 ≤ c ∧ c ≤ 122 := by
  have e : signs.cps.toList = (List.range 26).map (97 + ·) := by decide +kernel
  rw [e, List.mem_map]
  constructor
  · rintro ⟨i, hi, rfl⟩
    have := List.mem_range.mp hi
    omega
  · intro h
    exact ⟨c - 97, List.mem_range.mpr (by omega), by omega⟩
theorem sg_ok {c : Nat} (h : c < 0x110000) : PySem.PyData.strOk (sg c) = true := okS_iff.mpr fun d hd => by
  cases List.mem_singleton.mp (show d ∈ [c] from hd)
  exact h
theorem none_left {xs : List Nat} {p : Nat → Bool} : decide (((xs.filter fun c => !p c).map sg) = []) = xs.all p := by
  rw [Bool.eq_iff_iff, decide_eq_true_eq, List.map_eq_nil_iff, List.filter_eq_nil_iff, List.all_eq_true]
  simp
section

variable {P : Program} {w : World} {K : PySem.W.Frag} {mg : Str → Option Value} {base : Heap}

theorem ok_law_is_name (T : Txt K mg) (F : FD K mg "_law_is_name" s_law_is_name ["_law_word"]) : Cal P w K mg base 4 "_law_is_name" ["_law_word"] p_law_is_name := by
  refine cal_of F sc_law_is_name (fun ds R h => p_law_is_name_len h) (fun f cdv A outer s H E hr => ?_)
  refine ⟨_, (pds_one (pds_ret (pd_and (pd_chain op_leU opd_le op_leU opd_le pd_int (pd_callB cd_len call_len rfl T.n_len bb_len (pda_cons (pd_var (pv 0)) pda_nil)) pd_int) (pd_one (pd_cmp (op_eqU hr) opd_eq (pd_lc (own := [("_law_sign", 1)]) (g := (gName 1)) (gd := (dName 1)) rfl sc_law_is_name.nd (pdi_str (pd_var (pv 0))) (blkOk_by (N := N_law_is_name) (sc := (defScope s_law_is_name)) (own := [("_law_sign", 1)]) (by decide +kernel)) (fun _ _ _ _ _ => (pg_name (i := 1) sc_law_is_name.nd rfl (Or.inl rfl))) tgw_name (fun _ _ _ _ _ => (pdts_one (pdt_not (pdt_chain op_leU opd_le op_leU opd_le pd_str (pd_var (pv 1)) pd_str)))) (fun _ _ _ _ _ => (pd_var (pv 1)))) (pd_lst pda_nil) (nomark _)))))), ?_⟩
  rintro ds R ⟨s, rfl, hs, ho, h⟩
  walk_at "dl"
  refine ⟨hs, ?_⟩
  unfold isNm at h
  by_cases h1 : 1 ≤ s.length
  · refine Or.inr ⟨by omega, ?_⟩
    by_cases h2 : s.length ≤ 8
    · refine Or.inr ⟨by omega, ?_⟩
      rw [decide_eq_true h1, decide_eq_true h2, Bool.true_and, Bool.true_and] at h
      refine lcD_filL (f := fun c => if decide (c ∈ signs.cps.toList) = true then none else some (D.str (sg c))) s.cps.toList (fun c _ k hk => ?_) hs ?_
      · walk_at "dl"
        rw [show (Str.ofString "a") = sg 97 from rfl, show (Str.ofString "z") = sg 122 from rfl, ltS_sg, ltS_sg]
        have sm := sign_mem (c := c)
        by_cases q1 : c < 97
        · refine Or.inl ⟨by simpa using q1, ?_⟩
          rw [if_neg (by rw [decide_eq_true_eq, sm]; omega)] at hk
          exact hk
        · refine Or.inr ⟨by simpa using q1, ?_⟩
          by_cases q2 : 122 < c
          · rw [if_neg (by rw [decide_eq_true_eq, sm]; omega)] at hk
            exact Or.inl ⟨by simpa using q2, hk⟩
          · rw [if_pos (by rw [decide_eq_true_eq, sm]; omega)] at hk
            exact Or.inr ⟨by simpa using q2, hk⟩
      · have e : (s.cps.toList.filterMap fun c => if decide (c ∈ signs.cps.toList) = true then none else some (D.str (sg c))) = ((s.cps.toList.filter fun c => !decide (c ∈ signs.cps.toList)).map sg).map D.str := by
          rw [List.map_map, filterMap_ite]
          congr 1
          funext c
          by_cases q : c ∈ signs.cps.toList <;> simp [q]
        rw [e]
        refine dEq_lst0 (fun x hx => ?_) ?_
        · obtain ⟨c, hc, rfl⟩ := List.mem_map.mp hx
          exact sg_ok (okS_iff.mp ho c (List.mem_filter.mp hc).1)
        · rw [none_left] 
          exact h
    · rw [decide_eq_false h2, Bool.and_false, Bool.false_and] at h
      exact Or.inl ⟨by omega, h⟩
  · rw [decide_eq_false h1, Bool.false_and, Bool.false_and] at h
    exact Or.inl ⟨by omega, h⟩

theorem ok_law_number (T : Txt K mg) (F : FD K mg "_law_number" s_law_number ["_law_word"]) : Cal P w K mg base 4 "_law_number" ["_law_word"] p_law_number := by
  refine cal_of F sc_law_number (fun ds R h => p_law_number_len h) (fun f cdv A outer s H E hr => ?_)
  refine ⟨_, (pds_cons (pds_if (PW.pt (pdw_or (pdt_not (pdt_chain op_leU opd_le op_leU opd_le pd_int (pd_callB cd_len call_len rfl T.n_len bb_len (pda_cons (pd_var (pv 0)) pda_nil)) pd_int)) (pdw_or1 (pdt_cmp (op_neU hr) opd_ne (pd_lc (own := [("_law_sign", 1)]) (g := (gName 1)) (gd := (dName 1)) rfl sc_law_number.nd (pdi_str (pd_var (pv 0))) (blkOk_by (N := N_law_number) (sc := (defScope s_law_number)) (own := [("_law_sign", 1)]) (by decide +kernel)) (fun _ _ _ _ _ => (pg_name (i := 1) sc_law_number.nd rfl (Or.inl rfl))) tgw_name (fun _ _ _ _ _ => (pdts_one (pdt_cmp (op_notInU hr (by decide)) opd_notIn (pd_var (pv 1)) pd_str rfl))) (fun _ _ _ _ _ => (pd_var (pv 1)))) (pd_lst pda_nil) (nomark _))))) (pds_one (pds_ret pd_non)) pds_nil)
    (pds_one (pds_ret (pd_if (PW.pt (pdw_and (pdt_cmp (op_eqU hr) opd_eq (pd_ix (pd_var (pv 0)) pd_int) pd_str (nomark _)) (pdw_and1 (pdt_cmp (op_neU hr) opd_ne (pd_var (pv 0)) pd_str (nomark _))))) pd_non (pd_callTy cd_int call_intU rfl T.n_int bb_int (pda_cons (pd_var (pv 0)) pda_nil)))))), ?_⟩
  rintro ds R ⟨s, rfl, hs, ho, h⟩
  walk_at "dl"
  refine ⟨hs, ?_⟩
  by_cases h1 : 1 ≤ s.length
  · refine Or.inr ⟨by omega, ?_⟩
    by_cases h2 : s.length ≤ 40
    · refine Or.inr ⟨by omega, ?_⟩
      refine lcD_filL (f := fun c => if decide (c ∈ figs.cps.toList) = true then none else some (D.str (sg c))) s.cps.toList (fun c _ k hk => ?_) hs ?_
      · walk_at "dl"
        by_cases q : c ∈ figs.cps.toList
        · rw [if_pos (decide_eq_true q)] at hk
          exact Or.inl ⟨by simpa [figs] using q, hk⟩
        · rw [if_neg (by rw [decide_eq_true_eq]; exact q)] at hk
          exact Or.inr ⟨by simpa [figs] using q, hk⟩
      · have e : (s.cps.toList.filterMap fun c => if decide (c ∈ figs.cps.toList) = true then none else some (D.str (sg c))) = ((s.cps.toList.filter fun c => !decide (c ∈ figs.cps.toList)).map sg).map D.str := by
          rw [List.map_map, filterMap_ite]
          congr 1
          funext c
          by_cases q : c ∈ figs.cps.toList <;> simp [q]
        rw [e]
        refine dNe_lst0 (fun x hx => ?_) ?_
        · obtain ⟨c, hc, rfl⟩ := List.mem_map.mp hx
          exact sg_ok (okS_iff.mp ho c (List.mem_filter.mp hc).1)
        · rw [none_left]
          unfold numL at h
          cases q3 : s.cps.toList.all fun c => decide (c ∈ figs.cps.toList) with
          | false =>
            have q : isNum s = false := by unfold isNum; rw [q3, Bool.and_false, Bool.and_false]
            rw [q] at h
            exact Or.inr ⟨rfl, h⟩
          | true =>
            have q : isNum s = true := by unfold isNum; rw [q3, decide_eq_true h1, decide_eq_true h2]; rfl
            rw [q, if_pos rfl] at h
            refine Or.inl ⟨rfl, hs, ?_⟩
            have l0 : 0 < s.cps.size := h1
            refine ⟨s.cps[0], by rw [Array.getElem?_eq_getElem l0], ?_⟩
            have hd : s.cps.toList.head? = some s.cps[0] := by rw [List.head?_eq_getElem?, Array.getElem?_toList, Array.getElem?_eq_getElem l0]
            rw [hd] at h
            have z : Str.ofString "0" = sg 48 := rfl
            by_cases c0 : s.cps[0] = 48
            · refine Or.inr ⟨by rw [z, c0], ?_⟩
              by_cases c1 : s = Str.ofString "0"
              · rw [if_neg (fun q => q.2 c1)] at h
                exact Or.inl ⟨c1, by omega, _, isNum_int q, h⟩
              · rw [if_pos ⟨by rw [c0], c1⟩] at h
                exact Or.inr ⟨c1, h⟩
            · rw [if_neg (fun q => c0 (by have := q.1; simpa using this))] at h
              exact Or.inl ⟨fun e => c0 (sg_inj e), by omega, _, isNum_int q, h⟩
    · have q : isNum s = false := by unfold isNum; rw [decide_eq_false h2, Bool.false_and, Bool.and_false]
      unfold numL at h
      rw [q] at h
      exact Or.inl ⟨by omega, h⟩
  · have q : isNum s = false := by unfold isNum; rw [decide_eq_false h1, Bool.false_and]
    unfold numL at h
    rw [q] at h
    exact Or.inl ⟨by omega, h⟩

end
end K82

namespace K82
open PySem PySem.Spec PyProof.Rows L2 DL
open TL

local macro_rules
  | `(tactic| walk_at "dl") => `(tactic| simp [dRet, dRetN, dAnd, dOr, dNot, dIf, dCB, dChain, dBin, dC, dVar, dCons, dNil, dStar, dTup, dLst, dSl, dPart, dNoPart, qIxL, qIxT, qIxS, qIxD, qLenS, qLenT, qLenL, qCutL, qCutT, qCutS, qAddI, qAddS, qAddT, qAddL, qSub, qMulI, qMulT, qMulL, qMod, qFdiv, qLtI, qLtS, qLeI, qLeS, qGtI, qGeI, qGtS, qGeS, qIntI, qIntB, qIntS, qLst1, qLst2, qTup1, qTup2, qStrI, qStrS, qIs1, qIs2, qIs3, qIs4, qIs5, qIs6, qIs7, qIs8, qIs9, qIs10, qIs11, qIs12, qIs13, qIs14, qIs15, qIs16, qIs17, qIs18, qIs19, qIs20, qIs21, qIs22, qIs23, qIs24, qIs25, qIs26, qIs27, qIs28, qIs29, qIs30, qIs31, qIs32, qIs33, qIs34, qIs35, qPowW, qAbs, qMax2, qMin2, qMulS, qLstS, qLstUL, qLstUT, atI_0, atI_1, atI_2, atI_3, atI_m1, dIsN, dNotN, DL.isNon, dNotT, dAndT, dOrT, dBoolT, dCmpT, dIfS, dSeq, dDrop, dAsg, dAsgS, mName, dNext, dBreak, dCont, dPar, dMatch, dCase, dCasesNil, dCall, dLstI, dTupI, dStrI, dRng1, dRng2, dFor, dM1, isStrD, isLstD, startM, shw, hid, SD.shw, SD.hid, dLc, stepD, wipeD, dName, dTrue, signsD, qKs, qKi, eq_strI, eq_intI, ne_strI, ne_intI, in_str2, in_sg, dIn, dNotIn, dNegI, dRaise, seqOf])


/-- the law's own reading of a line's words -/
def lineRL (n : Int) : List Str → Option Ln
  | [g, a, b] => if (g = "read" ∨ g = "look") ∧ isNm a = true ∧ isNm b = true then some ⟨[g, a, b], none⟩ else none
  | [g, x] => if g = "go" then (match numL x with
    | some i => if i ≤ n then some ⟨["go"], some i⟩ else none
    | none => none) else none
  | [g, a, b, x] => if g = "if" then (match numL x with
    | some i => if i ≤ n ∧ isNm a = true ∧ isNm b = true then some ⟨["if", a, b], some i⟩ else none
    | none => none) else none
  | _ => none
def oL : Option Ln → D
  | none => .non
  | some l => l.d
def p_law_line_read (ds : List D) (P : PQ) : Prop := ∃ (t : Str) (n : Int), ds = [.str t, .int n] ∧ t.length + 2 ≤ sizeLine ∧ okS t ∧ P (oL (lineRL n (Txt.split t " ")))
theorem p_law_line_read_len {ds P} (h : p_law_line_read ds P) : ds.length = 2 := by obtain ⟨_, _, rfl, _⟩ := h; rfl
theorem ngi : ¬ Str.ofString "go" = Str.ofString "if" := by decide +kernel
theorem nig : ¬ Str.ofString "if" = Str.ofString "go" := by decide +kernel
theorem szL2 : 2 ≤ sizeLine := by decide
theorem szL4 : 4 ≤ sizeLine := by decide
theorem nor {p : Prop} : ¬ p ∨ p := (Classical.em p).symm
theorem numI {x : Str} (hl : x.length ≤ sizeLine) (ho : okS x) {A : PQ} (h : A (oI (numL x))) : p_law_number [.str x] A := ⟨x, rfl, hl, ho, h⟩
theorem split_nl {t : Str} {P : PQ} (ht : t.length + 2 ≤ sizeLine) (h : P (.lst ((Txt.split t "\n").map D.str))) : dSplit (.str t) [.str "\n"] P := ⟨by decide +kernel, ht, h⟩
theorem split_bl {t : Str} {P : PQ} (ht : t.length + 2 ≤ sizeLine) (h : P (.lst ((Txt.split t " ").map D.str))) : dSplit (.str t) [.str " "] P := ⟨by decide +kernel, ht, h⟩
theorem numL_some {x : Str} {i : Int} (h : numL x = some i) : isNum x = true ∧ i = numV x ∧ 0 ≤ i ∧ ¬ (x.cps.toList.head? = some 48 ∧ x ≠ "0") := by
  unfold numL at h
  split at h
  · split at h
    · cases h
    · rename_i h1 h2
      cases h
      exact ⟨h1, rfl, by unfold numV; omega, h2⟩
  · cases h
theorem lineRL_some {n : Int} : ∀ {ws : List Str} {l : Ln}, lineRL n ws = some l → okL n l = true ∧ ((∃ a b, ws = [l.ws.headD "", a, b] ∧ l = ⟨ws, none⟩ ∧ (l.ws.headD "" = "read" ∨ l.ws.headD "" = "look")) ∨ ∃ x i, ws = l.ws ++ [x] ∧ l.num = some i ∧ numL x = some i ∧ (l.ws.head? = some "go" ∨ l.ws.head? = some "if"))
  | [], _, h => by cases h
  | [_], _, h => by cases h
  | [g, x], l, h => by
    simp only [lineRL] at h
    split at h
    · rename_i hg
      cases e : numL x with
      | none => rw [e] at h; cases h
      | some i =>
        rw [e] at h
        obtain ⟨_, _, h0, _⟩ := numL_some e
        by_cases q : i ≤ n
        · simp only [if_pos q] at h
          cases h
          exact ⟨by simp [okL, h0, q], .inr ⟨x, i, by rw [hg]; rfl, rfl, e, .inl rfl⟩⟩
        · simp only [if_neg q] at h
          cases h
    · cases h
  | [g, a, b], l, h => by
    simp only [lineRL] at h
    split at h
    · rename_i hg
      cases h
      refine ⟨?_, .inl ⟨a, b, rfl, rfl, hg.1⟩⟩
      simp [okL, hg.1, hg.2.1, hg.2.2]
    · cases h
  | [g, a, b, x], l, h => by
    simp only [lineRL] at h
    split at h
    · rename_i hg
      cases e : numL x with
      | none => rw [e] at h; cases h
      | some i =>
        rw [e] at h
        obtain ⟨_, _, h0, _⟩ := numL_some e
        by_cases q : i ≤ n ∧ isNm a = true ∧ isNm b = true
        · simp only [if_pos q] at h
          cases h
          exact ⟨by simp [okL, h0, q], .inr ⟨x, i, by rw [hg]; rfl, rfl, e, .inr rfl⟩⟩
        · simp only [if_neg q] at h
          cases h
    · cases h
  | _ :: _ :: _ :: _ :: _ :: _, _, h => by cases h
/-- None in a list of lines and Nones -/
def oP : Option Ln → PyData
  | none => .none
  | some l => tupP l.keys
theorem in_none {os : List (Option Ln)} {k : Bool → Prop} (hw : ∀ l, some l ∈ os → l.Wf) (h : k (os.any Option.isNone)) : dInB .non (.lst (os.map oL)) k := by
  have py : ∀ o : Option Ln, pyOf (oL o) = some (oP o) := fun o => by
    cases o with
    | none => rfl
    | some l => exact py_tupK l.keys
  refine .inr (.inr ⟨_, _, _, rfl, rfl, pyAll_map py os, by decide, ?_, ?_⟩)
  · unfold SeqAt.shaped PyData.canLay0 PyData.depth
    have l1 : PyData.canLayAll0 (os.map oP) = true := by
      have : ∀ os : List (Option Ln), (∀ l, some l ∈ os → l.Wf) → PyData.canLayAll0 (os.map oP) = true := fun os => by
        induction os with
        | nil => intro _; rfl
        | cons o os ih =>
          intro hw
          rw [List.map_cons, PyData.canLayAll0, ih fun l hl => hw l (List.mem_cons_of_mem _ hl), Bool.and_true]
          cases o with
          | none => rfl
          | some l =>
            show (tupP l.keys).canLay0 = true
            rw [lay_tup]
            exact (hw l List.mem_cons_self).kok
      exact this os hw
    have d1 := depthAll_map (g := oP) (n := 1) (fun o => by
      cases o with
      | none => decide
      | some l => exact depth_tup l.keys) os
    rw [l1, Bool.true_and]
    exact decide_eq_true (by omega)
  · rw [List.any_map]
    have : ((fun z => PyData.eqv z PyData.none) ∘ oP) = Option.isNone := by
      funext o
      cases o <;> simp [oP, tupP, PyData.eqv]
    rw [this]
    exact h
theorem any_none {α : Type} : ∀ {os : List (Option α)}, os.any Option.isNone = false → ∃ ls : List α, os = ls.map some
  | [], _ => ⟨[], rfl⟩
  | none :: _, h => by simp at h
  | some l :: os, h => by
    obtain ⟨ls, rfl⟩ := any_none (os := os) (by simpa using h)
    exact ⟨l :: ls, rfl⟩
theorem mapM_some {α β : Type} {f : α → Option β} : ∀ {xs : List α} {ys : List β}, xs.map f = ys.map some → xs.mapM f = some ys
  | [], [], _ => rfl
  | [], _ :: _, h => by cases h
  | _ :: _, [], h => by cases h
  | x :: xs, y :: ys, h => by
    rw [List.map_cons, List.map_cons] at h
    injection h with h1 h2
    rw [List.mapM_cons, h1, mapM_some h2]
    rfl
theorem mapM_none {α β : Type} {f : α → Option β} : ∀ {xs : List α}, (xs.map f).any Option.isNone = true → xs.mapM f = none
  | [], h => by cases h
  | x :: xs, h => by
    rw [List.mapM_cons]
    cases e : f x with
    | none => rfl
    | some y =>
      rw [List.map_cons, List.any_cons, e] at h
      rw [mapM_none (xs := xs) (by simpa using h)]
      rfl
/-- the law's own reader -/
def lr (t : Str) : Option (List Ln) := if t = "" then some [] else
  match ((Txt.split t "\n").mapM fun l => lineRL (Txt.split t "\n").length (Txt.split l " ")) with
  | some ls => if ls.length ≤ 16 ∧ nTested ls ≤ 6 then some ls else none
  | none => none
def oLs : Option (List Ln) → D
  | none => .non
  | some ls => lnsD ls
def p_law_lines_read (ds : List D) (P : PQ) : Prop := ∃ t : Str, ds = [.str t] ∧ t.length + 2 ≤ sizeLine ∧ okS t ∧ P (oLs (lr t))
theorem p_law_lines_read_len {ds P} (h : p_law_lines_read ds P) : ds.length = 1 := by obtain ⟨_, rfl, _⟩ := h; rfl
section

variable {P : Program} {w : World} {K : PySem.W.Frag} {mg : Str → Option Value} {base : Heap}

theorem ok_law_line_read (T : Txt K mg) (F : FD K mg "_law_line_read" s_law_line_read ["_law_line_here", "_law_size"]) (c_law_number : Cal P w K mg base 4 "_law_number" ["_law_word"] p_law_number) (c_law_is_name : Cal P w K mg base 4 "_law_is_name" ["_law_word"] p_law_is_name) : Cal P w K mg base 5 "_law_line_read" ["_law_line_here", "_law_size"] p_law_line_read := by
  refine cal_of F sc_law_line_read (fun ds R h => p_law_line_read_len h) (fun f cdv A outer s H E hr => ?_)
  refine ⟨_, (pds_cons (pds_set (i := 2) sc_law_line_read.nd rfl (Or.inl rfl) (pd_m1 md_split (pe_split (pd_var (pv 0)) pd_str)))
    (pds_cons (pds_if (PW.pt (pdw_and (pdt_cmp (op_inU hr (by decide)) opd_in (pd_ix (pd_var (pv 2)) pd_int) (pd_tup (pda_cons pd_str (pda_cons pd_str pda_nil))) rfl) (pdw_and1 (pdt_cmp (op_eqU hr) opd_eq (pd_callB cd_len call_len rfl T.n_len bb_len (pda_cons (pd_var (pv 2)) pda_nil)) pd_int (nomark _))))) (pds_one (pds_ret (pd_if (PW.pt (pdw_and (pdt_val (pd_cal c_law_is_name (hr.mono (by decide)) (pda_cons (pd_ix (pd_var (pv 2)) pd_int) pda_nil))) (pdw_and1 (pdt_val (pd_cal c_law_is_name (hr.mono (by decide)) (pda_cons (pd_ix (pd_var (pv 2)) pd_int) pda_nil)))))) (pd_callTy cd_tuple call_tuple_of rfl T.n_tuple bb_tuple (pda_cons (pd_var (pv 2)) pda_nil)) pd_non))) pds_nil)
    (pds_cons (pds_if (PW.pt (pdw_or (PW.pt (pdw_and (pdt_cmp (op_eqU hr) opd_eq (pd_ix (pd_var (pv 2)) pd_int) pd_str (nomark _)) (pdw_and1 (pdt_cmp (op_eqU hr) opd_eq (pd_callB cd_len call_len rfl T.n_len bb_len (pda_cons (pd_var (pv 2)) pda_nil)) pd_int (nomark _))))) (pdw_or1 (PW.pt (pdw_and (pdt_cmp (op_eqU hr) opd_eq (pd_ix (pd_var (pv 2)) pd_int) pd_str (nomark _)) (pdw_and1 (pdt_cmp (op_eqU hr) opd_eq (pd_callB cd_len call_len rfl T.n_len bb_len (pda_cons (pd_var (pv 2)) pda_nil)) pd_int (nomark _)))))))) (pds_cons (pds_set (i := 3) sc_law_line_read.nd rfl (Or.inl rfl) (pd_cal c_law_number (hr.mono (by decide)) (pda_cons (pd_ix (pd_var (pv 2)) (pd_neg pd_int)) pda_nil)))
    (pds_cons (pds_if (PW.pt (pdw_or (pdt_cmp op_isN opd_isN (pd_var (pv 3)) pd_non (nomark _)) (pdw_or (pdt_cmp op_gtU opd_gt (pd_var (pv 3)) (pd_var (pv 1)) (nomark _)) (pdw_or1 (pdt_cmp (op_neU hr) opd_ne (pd_lc (own := [("_law_one", 4)]) (g := (gName 4)) (gd := (dName 4)) rfl sc_law_line_read.nd (pdi_list (pd_slice (pd_var (pv 2)) (pdo_some pd_int) (pdo_some (pd_neg pd_int)))) (blkOk_by (N := N_law_line_read) (sc := (defScope s_law_line_read)) (own := [("_law_one", 4)]) (by decide +kernel)) (fun _ _ _ _ _ => (pg_name (i := 4) sc_law_line_read.nd rfl (Or.inl rfl))) tgw_name (fun _ _ _ _ _ => (pdts_one (pdt_not (pdt_val (pd_cal c_law_is_name (hr.mono (by decide)) (pda_cons (pd_var (pv 4)) pda_nil)))))) (fun _ _ _ _ _ => (pd_var (pv 4)))) (pd_lst pda_nil) (nomark _)))))) (pds_one (pds_ret pd_non)) pds_nil)
    (pds_one (pds_ret (pd_op op_addU opd_add (pd_callTy cd_tuple call_tuple_of rfl T.n_tuple bb_tuple (pda_cons (pd_slice (pd_var (pv 2)) pdo_none (pdo_some (pd_neg pd_int))) pda_nil)) (pd_tup (pda_cons (pd_var (pv 3)) pda_nil))))))) pds_nil)
    (pds_one (pds_ret pd_non))))), ?_⟩
  rintro ds R ⟨t, n, rfl, ht, ho, h⟩
  walk_at "dl"
  refine split_bl ht ?_
  have wo : ∀ x ∈ Txt.split t (Str.ofString " "), x.length ≤ sizeLine ∧ okS x := fun x hx => by
    obtain ⟨h1, _, h3⟩ := split_mem bl_tl bl_k hx
    exact ⟨by omega, okS_sub ho h3⟩
  have ne : Txt.split t (Str.ofString " ") ≠ [] := split_ne bl_tl bl_k
  generalize Txt.split t (Str.ofString " ") = ws at h wo ne ⊢
  match ws, h, wo, ne with
  | [], _, _, ne => exact absurd rfl ne
  | [g], h, wo, _ =>
    have h' : R D.non := h
    simp only [List.map_cons, List.map_nil]
    walk_at "dl"
    refine ⟨by decide, ?_⟩
    by_cases q1 : g = Str.ofString "go" <;> by_cases q2 : g = Str.ofString "if" <;> simp [q1, q2, h', nor, ngi, nig]
  | [g, x], h, wo, _ =>
    obtain ⟨lx, ox⟩ := wo x (by simp)
    simp only [List.map_cons, List.map_nil]
    walk_at "dl"
    refine ⟨by decide, ?_⟩
    by_cases q1 : g = Str.ofString "go"
    · refine Or.inr ⟨q1, numI lx ox ?_⟩
      simp only [lineRL] at h
      rw [if_pos q1] at h
      cases e : numL x with
      | none =>
        rw [e] at h
        exact h
      | some i =>
        rw [e] at h
        show dGt (D.int i) (D.int n) _
        rw [qGtI]
        by_cases q2 : i ≤ n
        · refine Or.inl ⟨by rw [decide_eq_false (by omega)], ?_⟩
          rw [cut_1m1]
          rw [show List.take ([D.str g, D.str x].length - 2) (List.drop 1 [D.str g, D.str x]) = [] from rfl, lcD]
          refine dNe_lst0 (a := []) (fun _ h => (by cases h)) ?_
          refine Or.inl ⟨rfl, by decide, ?_⟩
          rw [cut_init]
          refine ⟨szL2, ?_⟩
          simp only [if_pos q2] at h
          rw [q1]
          exact h
        · simp only [if_neg q2] at h
          exact Or.inr ⟨by rw [decide_eq_true (by omega)], h⟩
    · have h' : R D.non := by
        simp only [lineRL] at h
        rw [if_neg q1] at h
        exact h
      by_cases q2 : g = Str.ofString "if" <;> simp [q1, q2, h', nor, ngi, nig]
  | [g, a, b], h, wo, _ =>
    obtain ⟨la, oa⟩ := wo a (by simp)
    obtain ⟨lb, ob⟩ := wo b (by simp)
    simp only [List.map_cons, List.map_nil]
    walk_at "dl"
    refine ⟨by decide, ?_⟩
    simp only [lineRL] at h
    by_cases q1 : g = Str.ofString "read" ∨ g = Str.ofString "look"
    · refine (if_pos q1).mpr ⟨a, rfl, la, oa, ?_⟩
      cases ea : isNm a with
      | false =>
        rw [if_neg (fun q => by rw [ea] at q; exact Bool.noConfusion q.2.1)] at h
        exact Or.inl ⟨rfl, h⟩
      | true =>
        refine Or.inr ⟨rfl, b, rfl, lb, ob, ?_⟩
        cases eb : isNm b with
        | false =>
          rw [if_neg (fun q => by rw [eb] at q; exact Bool.noConfusion q.2.2)] at h
          exact Or.inl ⟨rfl, h⟩
        | true =>
          rw [if_pos ⟨q1, ea, eb⟩] at h
          exact Or.inr ⟨rfl, h⟩
    · refine (if_neg q1).mpr ?_
      have h' : R D.non := by
        rw [if_neg (fun q => q1 q.1)] at h
        exact h
      by_cases q1 : g = Str.ofString "go" <;> by_cases q2 : g = Str.ofString "if" <;> simp [q1, q2, h', nor, ngi, nig]
  | [g, a, b, x], h, wo, _ =>
    obtain ⟨la, oa⟩ := wo a (by simp)
    obtain ⟨lb, ob⟩ := wo b (by simp)
    obtain ⟨lx, ox⟩ := wo x (by simp)
    simp only [List.map_cons, List.map_nil]
    walk_at "dl"
    refine ⟨by decide, ?_⟩
    simp only [lineRL] at h
    by_cases q1 : g = Str.ofString "if"
    · refine Or.inl ⟨by rw [q1]; decide, Or.inr ⟨q1, numI lx ox ?_⟩⟩
      rw [if_pos q1] at h
      cases e : numL x with
      | none =>
        rw [e] at h
        exact h
      | some i =>
        rw [e] at h
        show dGt (D.int i) (D.int n) _
        rw [qGtI]
        by_cases q2 : i ≤ n
        · refine Or.inl ⟨by rw [decide_eq_false (by omega)], ?_⟩
          rw [cut_1m1]
          refine lcD_filL (f := fun y => if (!isNm y) = true then some (D.str y) else none) [a, b] (fun y hy k hk => ?_) szL2 ?_
          · obtain ⟨ly, oy⟩ : y.length ≤ sizeLine ∧ okS y := by
              simp only [List.mem_cons, List.not_mem_nil, or_false] at hy
              rcases hy with rfl | rfl
              · exact ⟨la, oa⟩
              · exact ⟨lb, ob⟩
            walk_at "dl"
            refine ⟨y, rfl, ly, oy, ?_⟩
            cases ey : isNm y with
            | false =>
              rw [ey] at hk
              simpa using hk
            | true =>
              rw [ey] at hk
              simpa using hk
          · rw [← filterMap_ite]
            refine dNe_lst0 (fun y hy => ?_) ?_
            · have hy := (List.mem_filter.mp hy).1
              simp only [List.mem_cons, List.not_mem_nil, or_false] at hy
              rcases hy with rfl | rfl
              · exact oa
              · exact ob
            · by_cases q3 : isNm a = true ∧ isNm b = true
              · simp only [if_pos (show i ≤ n ∧ isNm a = true ∧ isNm b = true from ⟨q2, q3.1, q3.2⟩)] at h
                refine Or.inl ⟨by rw [List.filter_cons, List.filter_cons, q3.1, q3.2]; rfl, by decide, ?_⟩
                rw [cut_init]
                refine ⟨szL4, ?_⟩
                rw [q1]
                exact h
              · simp only [if_neg (show ¬ (i ≤ n ∧ isNm a = true ∧ isNm b = true) from fun q => q3 q.2)] at h
                refine Or.inr ⟨?_, h⟩
                rw [List.filter_cons, List.filter_cons]
                cases ea : isNm a with
                | false => rfl
                | true =>
                  cases eb : isNm b with
                  | false => rfl
                  | true => exact absurd ⟨ea, eb⟩ q3
        · have h' : R D.non := by
            simp only [if_neg (show ¬ (i ≤ n ∧ isNm a = true ∧ isNm b = true) from fun q => q2 q.1)] at h
            exact h
          exact Or.inr ⟨by rw [decide_eq_true (by omega)], h'⟩
    · have h' : R D.non := by
        rw [if_neg q1] at h
        exact h
      by_cases q2 : g = Str.ofString "go" <;> simp [q1, q2, h', nor, ngi, nig]
  | g :: a :: b :: c :: d :: r, h, wo, _ =>
    have h' : R D.non := h
    simp only [List.map_cons]
    have n2 : ¬ ((r.length : Int) + 1 + 1 + 1 + 1 + 1 = 2) := by omega
    have n3 : ¬ ((r.length : Int) + 1 + 1 + 1 + 1 + 1 = 3) := by omega
    have n4 : ¬ ((r.length : Int) + 1 + 1 + 1 + 1 + 1 = 4) := by omega
    walk_at "dl"
    simp only [n2, n3, n4, not_false_eq_true, true_and, false_and, or_false, h', and_true]
    refine ⟨by decide, ?_⟩
    by_cases q0 : g = Str.ofString "read" ∨ g = Str.ofString "look" <;> by_cases q1 : g = Str.ofString "go" <;> by_cases q2 : g = Str.ofString "if" <;> simp [q0, q1, q2, nor, ngi, nig]

theorem ok_law_lines_read (T : Txt K mg) (F : FD K mg "_law_lines_read" s_law_lines_read ["_law_text"]) (c_law_line_read : Cal P w K mg base 5 "_law_line_read" ["_law_line_here", "_law_size"] p_law_line_read) : Cal P w K mg base 6 "_law_lines_read" ["_law_text"] p_law_lines_read := by
  refine cal_of F sc_law_lines_read (fun ds R h => p_law_lines_read_len h) (fun f cdv A outer s H E hr => ?_)
  refine ⟨_, (pds_cons (pds_if (pdt_cmp (op_eqU hr) opd_eq (pd_var (pv 0)) pd_str (nomark _)) (pds_one (pds_ret (pd_tup pda_nil))) pds_nil)
    (pds_cons (pds_set (i := 1) sc_law_lines_read.nd rfl (Or.inr rfl) (pd_m1 md_split (pe_split (pd_var (pv 0)) pd_str)))
    (pds_cons (pds_setLc (i := 2) (own := [("_law_line_here", 4)]) (g := (gName 4)) (gd := (dName 4)) rfl sc_law_lines_read.nd rfl rfl (sw_true rfl rfl rfl (by decide +kernel)) (pdi_list (pd_var (pv 1))) (blkOk_by (N := N_law_lines_read) (sc := (defScope s_law_lines_read)) (own := [("_law_line_here", 4)]) (by decide +kernel)) (fun _ _ _ _ _ => (pg_name (i := 4) sc_law_lines_read.nd rfl (Or.inl rfl))) tgw_name (fun _ _ _ _ _ => pdts_nil) (fun _ _ _ _ _ => (pd_cal c_law_line_read (hr.mono (by decide)) (pda_cons (pd_var (pv 4)) (pda_cons (pd_callB cd_len call_len rfl T.n_len bb_len (pda_cons (pd_var (pv 1)) pda_nil)) pda_nil)))))
    (pds_cons (pds_if (PW.pt (pdw_or (pdt_cmp (op_inU hr (by decide)) opd_in pd_non (pd_var (pv 2)) rfl) (pdw_or1 (pdt_cmp op_gtU opd_gt (pd_callB cd_len call_len rfl T.n_len bb_len (pda_cons (pd_var (pv 2)) pda_nil)) pd_int (nomark _))))) (pds_one (pds_ret pd_non)) pds_nil)
    (pds_cons (pds_set (i := 3) sc_law_lines_read.nd rfl (Or.inl rfl) (pd_sset rfl (Nat.lt_of_succ_lt (units65 hr (by decide))) rfl T.n_sorted rfl T.n_set (pd_lc (own := [("_law_line_here", 4)]) (g := (gName 4)) (gd := (dName 4)) rfl sc_law_lines_read.nd (pdi_list (pd_var (pv 2))) (blkOk_by (N := N_law_lines_read) (sc := (defScope s_law_lines_read)) (own := [("_law_line_here", 4)]) (by decide +kernel)) (fun _ _ _ _ _ => (pg_name (i := 4) sc_law_lines_read.nd rfl (Or.inl rfl))) tgw_name (fun _ _ _ _ _ => (pdts_one (pdt_cmp (op_eqU hr) opd_eq (pd_ix (pd_var (pv 4)) pd_int) pd_str (nomark _)))) (fun _ _ _ _ _ => (pd_slice (pd_var (pv 4)) (pdo_some pd_int) (pdo_some pd_int))))))
    (pds_one (pds_ret (pd_if (pdt_cmp op_leU opd_le (pd_callB cd_len call_len rfl T.n_len bb_len (pda_cons (pd_var (pv 3)) pda_nil)) pd_int (nomark _)) (pd_callTy cd_tuple call_tuple_of rfl T.n_tuple bb_tuple (pda_cons (pd_var (pv 2)) pda_nil)) pd_non)))))))), ?_⟩
  rintro ds R ⟨t, rfl, ht, ho, h⟩
  unfold dSset
  walk_at "dl"
  unfold lr at h
  by_cases q0 : t = Str.ofString ""
  · rw [if_pos q0] at h
    exact Or.inr ⟨q0, h⟩
  rw [if_neg q0] at h
  refine Or.inl ⟨q0, split_nl ht ⟨_, rfl, ?_⟩⟩
  have sl := split_length (x := t) nl_tl nl_k
  refine lcD_mapL (f := fun l => oL (lineRL (Txt.split t (Str.ofString "
")).length (Txt.split l (Str.ofString " ")))) _ (fun l hl k hk => ?_) (by omega) ?_
  · walk_at "dl"
    obtain ⟨h1, _, h3⟩ := split_mem nl_tl nl_k hl
    exact ⟨l, _, rfl, by omega, okS_sub ho h3, hk⟩
  · rw [show (List.map (fun l => oL (lineRL (Txt.split t (Str.ofString "
")).length (Txt.split l (Str.ofString " ")))) (Txt.split t (Str.ofString "
"))) = (List.map (fun l => lineRL (Txt.split t (Str.ofString "
")).length (Txt.split l (Str.ofString " "))) (Txt.split t (Str.ofString "
"))).map oL from by rw [List.map_map]; rfl]
    have ok : ∀ l, some l ∈ (List.map (fun l => lineRL (Txt.split t (Str.ofString "
")).length (Txt.split l (Str.ofString " "))) (Txt.split t (Str.ofString "
"))) → okL (Txt.split t (Str.ofString "
")).length l = true := fun l hl => by
      obtain ⟨x, _, e⟩ := List.mem_map.mp hl
      exact (lineRL_some e).1
    have len : (List.map (fun l => lineRL (Txt.split t (Str.ofString "
")).length (Txt.split l (Str.ofString " "))) (Txt.split t (Str.ofString "
"))).length = (Txt.split t (Str.ofString "
")).length := List.length_map _
    refine in_none (fun l hl => okL_wf (ok l hl)) ?_
    cases e : (List.map (fun l => lineRL (Txt.split t (Str.ofString "
")).length (Txt.split l (Str.ofString " "))) (Txt.split t (Str.ofString "
"))).any Option.isNone with
    | true =>
      rw [mapM_none e] at h
      exact (if_pos rfl).mpr h
    | false =>
      refine (if_neg (by decide)).mpr ?_
      obtain ⟨ls, el⟩ := any_none e
      rw [mapM_some el] at h
      rw [el] at ok len ⊢
      have ok : ∀ l ∈ ls, okL (Txt.split t (Str.ofString "
")).length l = true := fun l hl => ok l (List.mem_map.mpr ⟨l, hl, rfl⟩)
      rw [List.length_map] at len
      rw [List.map_map]
      show (_ ∧ _) ∨ _
      have em : List.map (oL ∘ some) ls = ls.map Ln.d := rfl
      rw [em, List.length_map]
      by_cases q1 : ls.length ≤ 16
      · refine Or.inl ⟨by omega, ?_⟩
        refine lcD_filL (f := fun l => (prOf l).map tupK) ls (fun l hlm k hk => ?_) (Nat.le_trans q1 (by decide)) ?_
        · rcases okL_shape (ok l hlm) with ⟨i, rfl, _⟩ | ⟨a, b, i, rfl, _⟩ | ⟨g, a, b, rfl, hg, _⟩
          · unfold Ln.d Ln.keys tupK
            walk_at "dl"
            exact Or.inl ⟨by decide, hk⟩
          · unfold Ln.d Ln.keys tupK
            walk_at "dl"
            rw [cut13]
            exact hk
          · unfold Ln.d Ln.keys tupK
            rcases hg with rfl | rfl
            · walk_at "dl"
              exact Or.inl ⟨by decide, hk⟩
            · walk_at "dl"
              exact Or.inl ⟨by decide, hk⟩
        refine ⟨prs ls, by unfold prs; rw [List.map_filterMap], Nat.lt_of_le_of_lt (List.length_filterMap_le _ _) (show ls.length < 64 by omega), ⟨fun _ => true, fun k hk => ?_⟩, fun ys nd hm _ => ?_⟩
        · obtain ⟨l, hlm, e⟩ := List.mem_filterMap.mp hk
          rcases okL_shape (ok l hlm) with ⟨i, rfl, _⟩ | ⟨a, b, i, rfl, _⟩ | ⟨g, a, b, rfl, hg, _⟩
          · cases e
          · cases e
            exact ⟨⟨rfl, rfl, trivial⟩, by simp⟩
          · cases e
        · have yl := dd_len nd hm
          by_cases q2 : nTested ls ≤ 6
          · simp only [if_pos (show ls.length ≤ 16 ∧ nTested ls ≤ 6 from ⟨q1, q2⟩)] at h
            have : ys.length ≤ 6 := by rw [yl]; exact q2
            exact Or.inr ⟨by omega, h⟩
          · simp only [if_neg (show ¬ (ls.length ≤ 16 ∧ nTested ls ≤ 6) from fun q => q2 q.2)] at h
            have : ¬ ys.length ≤ 6 := by rw [yl]; exact q2
            exact Or.inl ⟨by omega, h⟩
      · simp only [if_neg (show ¬ (ls.length ≤ 16 ∧ nTested ls ≤ 6) from fun q => q1 q.1)] at h
        exact Or.inr ⟨by omega, h⟩

end
end K82

namespace K82
open PySem PySem.Spec PyProof.Rows L2 DL
open TL


theorem tl_strI {i : Int} (h : 0 ≤ i) : tl (strI i) = TL.numL i.toNat := by
  obtain ⟨n, rfl⟩ := Int.eq_ofNat_of_zero_le h
  exact TL.tl_num n
theorem digits_back : ∀ {cs : List Nat}, NumText.AllDigits cs → (cs.map Char.ofNat).map Char.toNat = cs
  | [], _ => rfl
  | c :: cs, h => by
    have hc := h c List.mem_cons_self
    rw [List.map_cons, List.map_cons, digits_back (cs := cs) fun d hd => h d (List.mem_cons_of_mem _ hd)]
    congr 1
    have : c ∈ [48, 49, 50, 51, 52, 53, 54, 55, 56, 57] := by
      simp only [List.mem_cons, List.not_mem_nil, or_false]
      omega
    revert this
    have : ∀ d ∈ [48, 49, 50, 51, 52, 53, 54, 55, 56, 57], (Char.ofNat d).toNat = d := by decide
    exact this c
/-- a number written without a needless zero is its value's text -/
theorem numL_text {x : Str} {i : Int} (h : numL x = some i) : strI i = x := by
  obtain ⟨h1, rfl, h2, h3⟩ := numL_some h
  obtain ⟨l1, l2, ad⟩ := isNum_iff.mp h1
  refine ext_tl ?_
  rw [tl_strI h2]
  unfold numV TL.numL
  rw [Int.toNat_natCast]
  have hx : x.cps.toList = tl x := rfl
  have e := NumText.toDigits_digitsVal ((tl x).length - 1) (tl x) (by rw [len_tl] at l1; omega) ad (by
    cases q : tl x with
    | nil => rw [len_tl, q] at l1; exact absurd l1 (by decide)
    | cons c r =>
      by_cases c0 : c = 48
      · cases r with
        | nil => exact Or.inl rfl
        | cons d r =>
          refine absurd ⟨?_, fun e => ?_⟩ h3
          · rw [hx, q, c0]; rfl
          · rw [e] at q
            have : tl ("0" : Str) = [48] := by decide +kernel
            rw [this] at q
            cases q
      · refine Or.inr ⟨c, r, rfl, ?_⟩
        have := ad c (by rw [q]; exact List.mem_cons_self)
        omega)
  rw [e, digits_back ad]
theorem small_nums : ∀ k ∈ List.range 17, numL (strI (k : Nat)) = some ((k : Nat) : Int) := by decide +kernel
theorem numL_strI {i : Int} (h0 : 0 ≤ i) (h1 : i ≤ 16) : numL (strI i) = some i := by
  obtain ⟨n, rfl⟩ := Int.eq_ofNat_of_zero_le h0
  exact small_nums n (List.mem_range.mpr (by omega))
theorem num_free {i : Int} {c : Nat} (h0 : 0 ≤ i) (hc : c < 48 ∨ 57 < c) : c ∉ tl (strI i) := by
  rw [tl_strI h0]
  exact TL.numL_free hc
theorem nm_free {a : Str} {c : Nat} (h : isNm a = true) (hc : c < 97 ∨ 122 < c) : c ∉ tl a := fun hm => by
  unfold isNm at h
  simp only [Bool.and_eq_true, List.all_eq_true, decide_eq_true_eq] at h
  have := sign_mem.mp (h.2 c hm)
  omega
/-- pieces without the sign come again -/
theorem spc_join {c : Nat} : ∀ {ps : List (List Nat)}, ps ≠ [] → (∀ p ∈ ps, c ∉ p) → spc c (joinL [c] ps) = ps
  | [], h, _ => absurd rfl h
  | [p], _, h => by
    show spc c p = [p]
    exact spc_free (h p List.mem_cons_self)
  | p :: q :: r, _, h => by
    show spc c (p ++ ([c] ++ joinL [c] (q :: r))) = _
    rw [spc_app (h p List.mem_cons_self), spc_join (ps := q :: r) (by simp) fun x hx => h x (List.mem_cons_of_mem _ hx)]
where
  spc_free {c : Nat} : ∀ {p : List Nat}, c ∉ p → spc c p = [p]
    | [], _ => rfl
    | d :: r, h => by
      have e : d ≠ c := fun e => h (by rw [e]; exact List.mem_cons_self)
      rw [spc_miss e (spc_free (p := r) fun q => h (List.mem_cons_of_mem _ q))]
  spc_app {c : Nat} : ∀ {p l : List Nat}, c ∉ p → spc c (p ++ ([c] ++ l)) = p :: spc c l
    | [], l, _ => spc_hit
    | d :: r, l, h => by
      have e : d ≠ c := fun e => h (by rw [e]; exact List.mem_cons_self)
      rw [List.cons_append, spc_miss e (spc_app (p := r) (l := l) fun q => h (List.mem_cons_of_mem _ q))]
theorem split_join {y : Str} {c : Nat} {ps : List Str} (hy : tl y = [c]) (hk : y.cps.all (· < 256) = true) (h : ps ≠ []) (hp : ∀ p ∈ ps, c ∉ tl p) : Txt.split (Txt.join y ps) y = ps := by
  have e := split_spc (x := Txt.join y ps) hy hk
  rw [join_eq, tl_join, hy, spc_join (ps := ps.map tl) (by simpa using h) (fun p hm => by
    obtain ⟨q, hq, e⟩ := List.mem_map.mp hm
    rw [← e]
    exact hp q hq)] at e
  exact (List.map_inj_right fun a b => ext_tl).mp (by rw [join_eq]; exact e)
theorem free_go {c : Nat} (hc : c = 10 ∨ c = 32) : c ∉ tl ("go" : Str) ∧ c ∉ tl ("if" : Str) ∧ c ∉ tl ("read" : Str) ∧ c ∉ tl ("look" : Str) := by
  have e1 : tl ("go" : Str) = [103, 111] := by decide +kernel
  have e2 : tl ("if" : Str) = [105, 102] := by decide +kernel
  have e3 : tl ("read" : Str) = [114, 101, 97, 100] := by decide +kernel
  have e4 : tl ("look" : Str) = [108, 111, 111, 107] := by decide +kernel
  rw [e1, e2, e3, e4]
  rcases hc with rfl | rfl <;> decide
/-- the words of a line's text -/
def lineW (l : Ln) : List Str := l.ws ++ (l.num.map strI).toList
theorem lineW_free {l : Ln} {n : Int} {c : Nat} (h : okL n l = true) (hc : c = 10 ∨ c = 32) : ∀ x ∈ lineW l, c ∉ tl x := by
  obtain ⟨g1, g2, g3, g4⟩ := free_go hc
  have c1 : c < 48 ∨ 57 < c := by omega
  have c2 : c < 97 ∨ 122 < c := by omega
  rcases okL_shape h with ⟨i, rfl, i0, i1⟩ | ⟨a, b, i, rfl, na, nb, i0, i1⟩ | ⟨g, a, b, rfl, hg, na, nb⟩
  · intro x hx
    rcases List.mem_cons.mp (show x ∈ [_, strI i] from hx) with rfl | hx
    · exact g1
    · cases List.mem_singleton.mp hx
      exact num_free i0 c1
  · intro x hx
    have hx : x ∈ [("if" : Str), a, b, strI i] := hx
    simp only [List.mem_cons, List.not_mem_nil, or_false] at hx
    rcases hx with rfl | rfl | rfl | rfl
    · exact g2
    · exact nm_free na c2
    · exact nm_free nb c2
    · exact num_free i0 c1
  · intro x hx
    have hx : x ∈ [g, a, b] := hx
    simp only [List.mem_cons, List.not_mem_nil, or_false] at hx
    rcases hx with rfl | rfl | rfl
    · rcases hg with rfl | rfl
      · exact g3
      · exact g4
    · exact nm_free na c2
    · exact nm_free nb c2
theorem lineW_ne {l : Ln} {n : Int} (h : okL n l = true) : lineW l ≠ [] := by
  rcases okL_shape h with ⟨i, rfl, _⟩ | ⟨a, b, i, rfl, _⟩ | ⟨g, a, b, rfl, _⟩ <;> simp [lineW]
theorem line_words {l : Ln} {n : Int} (h : okL n l = true) : Txt.split (lineT l) " " = lineW l := split_join bl_tl bl_k (lineW_ne h) (lineW_free h (.inr rfl))
theorem lineRL_words {l : Ln} {n : Int} (h : okL n l = true) (hn : n ≤ 16) : lineRL n (lineW l) = some l := by
  rcases okL_shape h with ⟨i, rfl, i0, i1⟩ | ⟨a, b, i, rfl, na, nb, i0, i1⟩ | ⟨g, a, b, rfl, hg, na, nb⟩
  · show lineRL n [("go" : Str), strI i] = _
    simp only [lineRL]
    rw [if_pos trivial, numL_strI i0 (by omega)]
    simp only [if_pos i1]
  · show lineRL n [("if" : Str), a, b, strI i] = _
    simp only [lineRL]
    rw [if_pos trivial, numL_strI i0 (by omega)]
    simp only [if_pos (show i ≤ n ∧ isNm a = true ∧ isNm b = true from ⟨i1, na, nb⟩)]
  · show lineRL n [g, a, b] = _
    simp only [lineRL]
    rw [if_pos ⟨hg, na, nb⟩]
theorem lineT_free {l : Ln} {n : Int} (h : okL n l = true) : 10 ∉ tl (lineT l) := by
  rw [tl_lineT]
  intro hm
  have : ∀ ps : List (List Nat), 10 ∈ joinL [32] ps → ∃ p ∈ ps, 10 ∈ p := fun ps => by
    induction ps with
    | nil => intro h; cases h
    | cons p ps ih =>
      cases ps with
      | nil => intro h; exact ⟨p, List.mem_cons_self, h⟩
      | cons q r =>
        intro h
        have h : 10 ∈ p ++ ([32] ++ joinL [32] (q :: r)) := h
        rcases List.mem_append.mp h with h | h
        · exact ⟨p, List.mem_cons_self, h⟩
        · rcases List.mem_append.mp h with h | h
          · simp at h
          · obtain ⟨p', h1, h2⟩ := ih h
            exact ⟨p', List.mem_cons_of_mem _ h1, h2⟩
  obtain ⟨p, hp, h10⟩ := this _ hm
  obtain ⟨x, hx, rfl⟩ := List.mem_map.mp hp
  exact lineW_free h (.inl rfl) x hx h10
/-- what the law's own reader finds in a line, the program finds too -/
theorem line_fits {n : Int} {x : Str} {l : Ln} (h : lineRL n (Txt.split x " ") = some l) : lineOf (Txt.split x " ") = some l ∧ lineT l = x := by
  obtain ⟨ok, h2⟩ := lineRL_some h
  have jx := join_split (x := x) bl_tl bl_k
  rcases h2 with ⟨a, b, e, el, hg⟩ | ⟨y, i, e, en, ei, hg⟩
  · have hw : l.ws = Txt.split x " " := by rw [el]
    have hn : l.num = none := by rw [el]
    refine ⟨?_, ?_⟩
    · rw [e] at el ⊢
      rw [lineOf_cons, if_neg (by
        unfold isJump
        rw [decide_eq_true_eq]
        rcases hg with hg | hg <;> rw [hg] <;> decide)]
      exact congrArg some el.symm
    · unfold lineT
      rw [hn, hw]
      exact (by simpa using jx)
  · refine ⟨?_, ?_⟩
    · obtain ⟨n1, n2, _⟩ := numL_some ei
      cases hl : l.ws with
      | nil => rw [hl] at hg; rcases hg with hg | hg <;> cases hg
      | cons w r =>
        rw [hl] at hg
        have e' : Txt.split x " " = w :: (r ++ [y]) := by rw [e, hl]; rfl
        have gl : (w :: (r ++ [y])).getLast (by simp) = y := List.getLast_concat (l := w :: r)
        have dl : (w :: (r ++ [y])).dropLast = w :: r := by
          rw [← List.cons_append, List.dropLast_concat]
        rw [e', lineOf_cons, if_pos (by
          unfold isJump
          rw [decide_eq_true_eq]
          rcases hg with hg | hg <;> cases hg
          · exact Or.inr rfl
          · exact Or.inl rfl), gl, if_pos n1, dl, ← n2, ← hl, ← en]
    · unfold lineT
      rw [en]
      show Txt.join " " (l.ws ++ [strI i]) = x
      rw [numL_text ei, ← e]
      exact jx
theorem mapM_fits {n : Int} : ∀ {T : List Str} {ls : List Ln}, (T.mapM fun x => lineRL n (Txt.split x " ")) = some ls → (T.map fun x => Txt.split x " ").mapM lineOf = some ls ∧ ls.map lineT = T ∧ ∀ l ∈ ls, okL n l = true
  | [], ls, h => by
    cases h
    exact ⟨rfl, rfl, fun _ h => by cases h⟩
  | x :: T, ls, h => by
    rw [List.mapM_cons] at h
    cases e : lineRL n (Txt.split x " ") with
    | none => rw [e] at h; cases h
    | some l =>
      rw [e] at h
      cases e2 : (T.mapM fun x => lineRL n (Txt.split x " ")) with
      | none => rw [e2] at h; cases h
      | some ms =>
        rw [e2] at h
        cases h
        obtain ⟨h1, h2, h3⟩ := mapM_fits e2
        obtain ⟨f1, f2⟩ := line_fits e
        refine ⟨?_, by rw [List.map_cons, f2, h2], fun m hm => ?_⟩
        · rw [List.map_cons, List.mapM_cons, f1, h1]
          rfl
        · rcases List.mem_cons.mp hm with rfl | hm
          · exact (lineRL_some e).1
          · exact h3 m hm
theorem textR_nil : textR [] = "" := by decide +kernel
theorem rd_nil : rd "" = some [] := by decide +kernel
theorem lr_to {t : Str} {ls : List Ln} (h : lr t = some ls) : rd t = some ls := by
  unfold lr at h
  by_cases q : t = ""
  · rw [if_pos q] at h
    cases h
    rw [q]
    exact rd_nil
  rw [if_neg q] at h
  cases e : ((Txt.split t "\n").mapM fun l => lineRL (Txt.split t "\n").length (Txt.split l " ")) with
  | none => rw [e] at h; cases h
  | some ms =>
    rw [e] at h
    by_cases c : ms.length ≤ 16 ∧ nTested ms ≤ 6
    · simp only [if_pos c] at h
      cases h
      obtain ⟨h1, h2, h3⟩ := mapM_fits e
      have len : ls.length = (Txt.split t "\n").length := by rw [← h2, List.length_map]
      unfold rd wordsOf
      rw [if_neg q, h1]
      have v : validR ls = true := by
        unfold validR
        rw [decide_eq_true c.1, decide_eq_true c.2, Bool.true_and, Bool.and_true, List.all_eq_true]
        intro l hl
        rw [len]
        exact h3 l hl
      have tx : textR ls = t := by
        unfold textR
        rw [h2]
        exact join_split nl_tl nl_k
      show (if (validR ls && decide (textR ls = t)) = true then some ls else none) = some ls
      rw [v, decide_eq_true tx]
      rfl
    · simp only [if_neg c] at h
      cases h
theorem rd_to {t : Str} {ls : List Ln} (h : rd t = some ls) : lr t = some ls := by
  by_cases q : t = ""
  · rw [q, rd_nil] at h
    cases h
    unfold lr
    rw [if_pos q]
  unfold rd at h
  cases e : (wordsOf t).mapM lineOf with
  | none => rw [e] at h; cases h
  | some ms =>
    rw [e] at h
    by_cases c : (validR ms && decide (textR ms = t)) = true
    · simp only [if_pos c] at h
      cases h
      rw [Bool.and_eq_true, decide_eq_true_eq] at c
      obtain ⟨v, tx⟩ := c
      unfold validR at v
      simp only [Bool.and_eq_true, decide_eq_true_eq, List.all_eq_true] at v
      obtain ⟨v1, v2, v3⟩ := v
      have ne : ls ≠ [] := fun e => by
        rw [e, textR_nil] at tx
        exact q tx.symm
      have T : Txt.split t "\n" = ls.map lineT := by
        rw [← tx]
        exact split_join nl_tl nl_k (by simpa using ne) fun p hp => by
          obtain ⟨l, hl, rfl⟩ := List.mem_map.mp hp
          exact lineT_free (v2 l hl)
      unfold lr
      rw [if_neg q, T, List.length_map]
      rw [mapM_some (ys := ls) (by
        rw [List.map_map]
        refine List.map_congr_left fun l hl => ?_
        show lineRL ls.length (Txt.split (lineT l) " ") = some l
        rw [line_words (v2 l hl)]
        exact lineRL_words (v2 l hl) (by omega))]
      simp only [if_pos (show ls.length ≤ 16 ∧ nTested ls ≤ 6 from ⟨v1, v3⟩)]
    · simp only [if_neg c] at h
      cases h
/-- the law's own reader and the program's agree at every text -/
theorem lr_rd (t : Str) : lr t = rd t := by
  cases e : lr t with
  | some ls => exact (lr_to e).symm
  | none =>
    cases e2 : rd t with
    | none => rfl
    | some ls =>
      rw [rd_to e2] at e
      cases e
end K82

namespace K82
open PySem PySem.Spec PyProof.Rows L2 DL
open TL

local macro_rules
  | `(tactic| walk_at "dl") => `(tactic| simp [dRet, dRetN, dAnd, dOr, dNot, dIf, dCB, dChain, dBin, dC, dVar, dCons, dNil, dStar, dTup, dLst, dSl, dPart, dNoPart, qIxL, qIxT, qIxS, qIxD, qLenS, qLenT, qLenL, qCutL, qCutT, qCutS, qAddI, qAddS, qAddT, qAddL, qSub, qMulI, qMulT, qMulL, qMod, qFdiv, qLtI, qLtS, qLeI, qLeS, qGtI, qGeI, qGtS, qGeS, qIntI, qIntB, qIntS, qLst1, qLst2, qTup1, qTup2, qStrI, qStrS, qIs1, qIs2, qIs3, qIs4, qIs5, qIs6, qIs7, qIs8, qIs9, qIs10, qIs11, qIs12, qIs13, qIs14, qIs15, qIs16, qIs17, qIs18, qIs19, qIs20, qIs21, qIs22, qIs23, qIs24, qIs25, qIs26, qIs27, qIs28, qIs29, qIs30, qIs31, qIs32, qIs33, qIs34, qIs35, qPowW, qAbs, qMax2, qMin2, qMulS, qLstS, qLstUL, qLstUT, atI_0, atI_1, atI_2, atI_3, atI_m1, dIsN, dNotN, DL.isNon, dNotT, dAndT, dOrT, dBoolT, dCmpT, dIfS, dSeq, dDrop, dAsg, dAsgS, mName, dNext, dBreak, dCont, dPar, dMatch, dCase, dCasesNil, dCall, dLstI, dTupI, dStrI, dRng1, dRng2, dFor, dM1, isStrD, isLstD, startM, shw, hid, SD.shw, SD.hid, dLc, stepD, wipeD, dName, dTrue, signsD, qKs, qKi, eq_strI, eq_intI, ne_strI, ne_intI, in_str2, in_sg, dIn, dNotIn, dNegI, dRaise, seqOf])

abbrev s_law_odd_text : Stmt := top 54
abbrev N_law_odd_text : List Str := ["_law_dice_here", "_law_some"]
theorem sc_law_odd_text : FnScope N_law_odd_text ["_law_dice_here"] (defScope s_law_odd_text) := ⟨rfl, rfl, rfl, by decide +kernel, rfl, by decide +kernel, by decide +kernel⟩

abbrev s_law_near : Stmt := top 55
abbrev N_law_near : List Str := ["_law_dice_here", "_law_text", "_law_turn", "_law_way", "_law_at", "_law_signs", "_law_sign", "_law_mark", "_law_pieces", "_law_spot", "_law_other", "_law_one", "_law_left", "_law_more"]
theorem sc_law_near : FnScope N_law_near ["_law_dice_here", "_law_text"] (defScope s_law_near) := ⟨rfl, rfl, rfl, by decide +kernel, rfl, by decide +kernel, by decide +kernel⟩


def OddOk (d : D) : Prop := (∃ t : Str, d = .str t ∧ t.length ≤ 100 ∧ okS t ∧ rd t = none) ∨ ∃ a, tyN d = some a ∧ a ≠ "str"
def p_law_odd_text (ds : List D) (P : PQ) : Prop := ds = [.die] ∧ ∀ d, OddOk d → P d
theorem p_law_odd_text_len {ds P} (h : p_law_odd_text ds P) : ds.length = 1 := by obtain ⟨rfl, _⟩ := h; rfl
def p_law_near (ds : List D) (P : PQ) : Prop := ∃ t : Str, ds = [.die, .str t] ∧ t.length ≤ 2000 ∧ okS t ∧ ∀ s : Str, s.length ≤ 512000 → okS s → P (.str s)
theorem p_law_near_len {ds P} (h : p_law_near ds P) : ds.length = 2 := by obtain ⟨_, rfl, _⟩ := h; rfl
/-- a text of at most so many good signs; pieces -/
def Tx (B : Nat) (s : Str) : Prop := s.length ≤ B ∧ okS s
def Pc (B : Nat) (ps : List Str) : Prop := (∀ p ∈ ps, okS p) ∧ (ps.map (·.length)).sum ≤ B ∧ ps.length ≤ B
theorem Tx.le {a b : Nat} {s : Str} (h : Tx a s) (q : a ≤ b) : Tx b s := ⟨Nat.le_trans h.1 q, h.2⟩
theorem Pc.le {a b : Nat} {s : List Str} (h : Pc a s) (q : a ≤ b) : Pc b s := ⟨h.1, Nat.le_trans h.2.1 q, Nat.le_trans h.2.2 q⟩
theorem tl_cutS (s : Str) (lo hi : Option Int) : ∀ c ∈ tl (cutS s lo hi), c ∈ tl s := fun c hc => List.mem_of_mem_drop (List.mem_of_mem_take (show c ∈ ((tl s).drop _).take _ from hc))
theorem tx_cut {B : Nat} {s : Str} {lo hi : Option Int} (h : Tx B s) : Tx B (cutS s lo hi) := ⟨by
  have e : (cutS s lo hi).length ≤ s.length := by
    show (((s.cps.toList.drop _).take _).toArray).size ≤ s.cps.size
    rw [List.size_toArray, List.length_take, List.length_drop, Array.length_toList]
    omega
  exact Nat.le_trans e h.1, okS_sub h.2 (tl_cutS s lo hi)⟩
theorem tx_app {a b : Nat} {s t : Str} (h : Tx a s) (q : Tx b t) : Tx (a + b) (s ++ t) := ⟨by
  have := h.1
  have := q.1
  rw [len_tl, tl_append, List.length_append, ← len_tl, ← len_tl]
  omega, okS_iff.mpr fun c hc => by
  rw [tl_append] at hc
  exact (List.mem_append.mp hc).elim (okS_iff.mp h.2 c) (okS_iff.mp q.2 c)⟩
theorem pc_take {B : Nat} {ps : List Str} (n : Nat) (h : Pc B ps) : Pc B (ps.take n) := ⟨fun p hp => h.1 p (List.mem_of_mem_take hp), Nat.le_trans (sum_take n ps) h.2.1, by
  have := h.2.2
  rw [List.length_take]
  omega⟩
where
  sum_take : ∀ (n : Nat) (ps : List Str), ((ps.take n).map (·.length)).sum ≤ (ps.map (·.length)).sum
    | 0, _ => by simp
    | _ + 1, [] => by simp
    | n + 1, p :: ps => by
      have := sum_take n ps
      rw [List.take_succ_cons, List.map_cons, List.map_cons, List.sum_cons, List.sum_cons]
      omega
theorem pc_drop {B : Nat} {ps : List Str} (n : Nat) (h : Pc B ps) : Pc B (ps.drop n) := ⟨fun p hp => h.1 p (List.mem_of_mem_drop hp), Nat.le_trans (sum_drop n ps) h.2.1, by
  have := h.2.2
  rw [List.length_drop]
  omega⟩
where
  sum_drop : ∀ (n : Nat) (ps : List Str), ((ps.drop n).map (·.length)).sum ≤ (ps.map (·.length)).sum
    | 0, _ => Nat.le_refl _
    | _ + 1, [] => by simp
    | n + 1, p :: ps => by
      have := sum_drop n ps
      rw [List.drop_succ_cons, List.map_cons, List.sum_cons]
      omega
theorem pc_app {a b : Nat} {ps qs : List Str} (h : Pc a ps) (q : Pc b qs) : Pc (a + b) (ps ++ qs) := ⟨fun p hp => (List.mem_append.mp hp).elim (h.1 p) (q.1 p), by
  have := h.2.1
  have := q.2.1
  rw [List.map_append, List.sum_append]
  omega, by
  have := h.2.2
  have := q.2.2
  rw [List.length_append]
  omega⟩
theorem spl_facts (S : List Nat) : ∀ (l : List Nat) (k : Nat) (acc : List Nat), ((spl S k acc l).map List.length).sum ≤ acc.length + l.length ∧ (spl S k acc l).length ≤ l.length + 1 ∧ ∀ p ∈ spl S k acc l, ∀ c ∈ p, c ∈ acc ∨ c ∈ l
  | [], k, acc => by
    rw [spl_nil]
    simp
  | c :: r, 0, acc => by
    cases e : pre S (c :: r) with
    | true =>
      rw [spl_hit e]
      obtain ⟨h1, h2, h3⟩ := spl_facts S r (S.length - 1) []
      refine ⟨?_, ?_, fun p hp d hd => ?_⟩
      · simp only [List.map_cons, List.sum_cons, List.length_cons, List.length_nil] at h1 ⊢
        omega
      · simp only [List.length_cons] at h2 ⊢
        omega
      · rcases List.mem_cons.mp hp with rfl | hp
        · exact .inl hd
        · exact (h3 p hp d hd).elim (fun q => by cases q) fun q => .inr (List.mem_cons_of_mem _ q)
    | false =>
      rw [spl_miss e]
      obtain ⟨h1, h2, h3⟩ := spl_facts S r 0 (acc ++ [c])
      refine ⟨?_, ?_, fun p hp d hd => ?_⟩
      · simp only [List.length_append, List.length_cons, List.length_nil] at h1 ⊢
        omega
      · simp only [List.length_cons] at h2 ⊢
        omega
      · rcases h3 p hp d hd with q | q
        · rcases List.mem_append.mp q with q | q
          · exact .inl q
          · cases List.mem_singleton.mp q
            exact .inr List.mem_cons_self
        · exact .inr (List.mem_cons_of_mem _ q)
  | c :: r, k + 1, acc => by
    obtain ⟨h1, h2, h3⟩ := spl_facts S r k acc
    show ((spl S k acc r).map List.length).sum ≤ _ ∧ (spl S k acc r).length ≤ _ ∧ ∀ p ∈ spl S k acc r, _
    refine ⟨?_, ?_, fun p hp d hd => ?_⟩
    · simp only [List.length_cons]
      omega
    · simp only [List.length_cons]
      omega
    · exact (h3 p hp d hd).imp id (List.mem_cons_of_mem _)
theorem spl_ne (S : List Nat) : ∀ (l : List Nat) (k : Nat) (acc : List Nat), spl S k acc l ≠ []
  | [], k, acc => by rw [spl_nil]; simp
  | c :: r, 0, acc => by
    cases e : pre S (c :: r) with
    | true => rw [spl_hit e]; simp
    | false => rw [spl_miss e]; exact spl_ne S r 0 _
  | c :: r, k + 1, acc => spl_ne S r k acc
theorem split_ne' {x y : Str} (hy : tl y ≠ []) (hk : y.cps.all (· < 256) = true) : Txt.split x y ≠ [] := fun e => by
  have := split_spl x y hy (kind_ok hk)
  rw [e] at this
  exact spl_ne _ _ _ _ this.symm
theorem pc_split {B : Nat} {x y : Str} (h : Tx B x) (hy : tl y ≠ []) (hk : y.cps.all (· < 256) = true) : Pc (B + 1) (Txt.split x y) := by
  have e := split_spl x y hy (kind_ok hk)
  obtain ⟨h1, h2, h3⟩ := spl_facts (tl y) (tl x) 0 []
  rw [← e] at h1 h2 h3
  have hl := h.1
  rw [len_tl] at hl
  refine ⟨fun p hp => okS_sub h.2 fun c hc => (h3 (tl p) (List.mem_map.mpr ⟨p, hp, rfl⟩) c hc).elim (fun q => by cases q) id, ?_, ?_⟩
  · rw [List.map_map] at h1
    have e2 : (List.map (List.length ∘ tl) (Txt.split x y)) = (Txt.split x y).map (·.length) := List.map_congr_left fun s _ => (len_tl s).symm
    rw [e2] at h1
    simp only [List.length_nil] at h1
    omega
  · rw [List.length_map] at h2
    omega
theorem joinL_mem {S : List Nat} {c : Nat} : ∀ {ps : List (List Nat)}, c ∈ joinL S ps → c ∈ S ∨ ∃ p ∈ ps, c ∈ p
  | [], h => by cases h
  | [p], h => .inr ⟨p, List.mem_cons_self, h⟩
  | p :: q :: r, h => by
    have h : c ∈ p ++ (S ++ joinL S (q :: r)) := h
    rcases List.mem_append.mp h with h | h
    · exact .inr ⟨p, List.mem_cons_self, h⟩
    · rcases List.mem_append.mp h with h | h
      · exact .inl h
      · exact (joinL_mem h).imp id fun ⟨p', h1, h2⟩ => ⟨p', List.mem_cons_of_mem _ h1, h2⟩
theorem joinL_len {S : List Nat} : ∀ ps : List (List Nat), (joinL S ps).length ≤ (ps.map List.length).sum + ps.length * S.length
  | [] => Nat.zero_le _
  | [p] => by
    show p.length ≤ _
    simp only [List.map_cons, List.map_nil, List.sum_cons, List.sum_nil]
    omega
  | p :: q :: r => by
    have := joinL_len (S := S) (q :: r)
    show (p ++ (S ++ joinL S (q :: r))).length ≤ _
    rw [List.length_append, List.length_append, List.map_cons, List.sum_cons, List.length_cons (a := p), Nat.add_mul]
    omega
theorem pc_room {B : Nat} {ps : List Str} {y : Str} (h : Pc B ps) (hy : y.length ≤ 2) : (ps.map (·.length)).sum + ps.length * y.length ≤ 3 * B := by
  have h1 := h.2.1
  have h2 := h.2.2
  have : ps.length * y.length ≤ B * 2 := Nat.mul_le_mul h2 hy
  omega
theorem tx_join {B : Nat} {ps : List Str} {y : Str} (h : Pc B ps) (hy : Tx 2 y) : Tx (3 * B) (Txt.join y ps) := by
  refine ⟨?_, okS_iff.mpr fun c hc => ?_⟩
  · have h1 := joinL_len (S := tl y) (ps.map tl)
    have h2 := pc_room h hy.1
    rw [len_tl, join_eq, tl_join]
    rw [List.map_map, List.length_map] at h1
    have e2 : (List.map (List.length ∘ tl) ps) = ps.map (·.length) := List.map_congr_left fun s _ => (len_tl s).symm
    rw [e2, ← len_tl] at h1
    omega
  · rw [join_eq, tl_join] at hc
    rcases joinL_mem hc with hc | ⟨p, hp, hc⟩
    · exact okS_iff.mp hy.2 c hc
    · obtain ⟨q, hq, rfl⟩ := List.mem_map.mp hp
      exact okS_iff.mp (h.1 q hq) c hc
theorem near_signs (d : D) (h : d ∈ List.map D.str (sgs "abelnx0129 -_,A") ++ [D.str "\n", D.str ", ", D.str "none", D.str "old", D.str "go 0", D.str "next", D.str "\nstep a b", D.str " 0"]) : ∃ u : Str, d = .str u ∧ Tx 10 u := by
  have e : List.map D.str (sgs "abelnx0129 -_,A") ++ [D.str "\n", D.str ", ", D.str "none", D.str "old", D.str "go 0", D.str "next", D.str "\nstep a b", D.str " 0"] = (sgs "abelnx0129 -_,A" ++ (["\n", ", ", "none", "old", "go 0", "next", "\nstep a b", " 0"] : List Str)).map D.str := by
    rw [List.map_append]
    rfl
  rw [e] at h
  obtain ⟨u, hu, rfl⟩ := List.mem_map.mp h
  have : ∀ u ∈ (sgs "abelnx0129 -_,A" ++ (["\n", ", ", "none", "old", "go 0", "next", "\nstep a b", " 0"] : List Str)), u.length ≤ 10 ∧ PySem.PyData.strOk u = true := by decide +kernel
  exact ⟨u, rfl, this u hu⟩
theorem near_marks (d : D) (h : d ∈ [D.str "\n", D.str "\n", D.str " ", D.str ", "]) : ∃ y : Str, d = .str y ∧ Tx 2 y ∧ (y.length == 0) = false ∧ tl y ≠ [] ∧ y.cps.all (· < 256) = true := by
  simp only [List.mem_cons, List.not_mem_nil, or_false] at h
  rcases h with rfl | rfl | rfl | rfl
  all_goals exact ⟨_, rfl, ⟨by decide +kernel, by unfold okS; decide +kernel⟩, by decide +kernel, by decide +kernel, by decide +kernel⟩
section

variable {P : Program} {w : World} {K : PySem.W.Frag} {mg : Str → Option Value} {base : Heap}

theorem ok_law_odd_text (T : Txt K mg) (F : FD K mg "_law_odd_text" s_law_odd_text ["_law_dice_here"]) (c_law_one_of : Cal P w K mg base 5 "_law_one_of" ["_law_dice_here", "_law_items"] p_law_one_of) : Cal P w K mg base 6 "_law_odd_text" ["_law_dice_here"] p_law_odd_text := by
  refine cal_of F sc_law_odd_text (fun ds R h => p_law_odd_text_len h) (fun f cdv A outer s H E hr => ?_)
  refine ⟨_, (pds_cons (pds_set (i := 1) sc_law_odd_text.nd rfl (Or.inl rfl) (pd_lst (pda_cons pd_non (pda_cons pd_int (pda_cons pd_bl (pda_cons (pd_tup pda_nil) (pda_cons (pd_tup (pda_cons pd_str pda_nil)) (pda_cons (pd_lst (pda_cons pd_str pda_nil)) (pda_cons pd_d0 (pda_cons (pd_d1 pd_int) (pda_cons (pd_op op_powW opd_powW pd_int pd_int) (pda_cons (pd_tup (pda_cons pd_str pda_nil)) (pda_cons pd_str (pda_cons pd_str (pda_cons pd_str pda_nil)))))))))))))))
    (pds_one (pds_ret (pd_cal c_law_one_of (hr.mono (by decide)) (pda_cons (pd_var (pv 0)) (pda_cons (pd_op op_addU opd_add (pd_var (pv 1)) (pd_lst (pda_cons pd_str (pda_cons pd_str (pda_cons pd_str (pda_cons pd_str (pda_cons pd_str (pda_cons pd_str (pda_cons pd_str (pda_cons pd_str pda_nil)))))))))) pda_nil)))))), ?_⟩
  rintro ds R ⟨rfl, h⟩
  unfold dD0 dD1
  walk_at "dl"
  refine ⟨by decide, ⟨by decide, by decide +kernel⟩, by decide, by decide, by decide, by decide, ⟨_, rfl, by simp, by decide, fun x hx => h x ?_⟩⟩
  simp only [List.mem_cons, List.not_mem_nil, or_false] at hx
  rcases hx with rfl | rfl | rfl | rfl | rfl | rfl | rfl | rfl | rfl | rfl | rfl | rfl | rfl | rfl | rfl | rfl | rfl | rfl | rfl | rfl | rfl
  all_goals first
    | exact Or.inr ⟨_, rfl, by decide⟩
    | exact Or.inl ⟨_, rfl, by decide +kernel, by unfold okS; decide +kernel, by decide +kernel⟩

theorem ok_law_near (T : Txt K mg) (F : FD K mg "_law_near" s_law_near ["_law_dice_here", "_law_text"]) (c_law_one_of : Cal P w K mg base 5 "_law_one_of" ["_law_dice_here", "_law_items"] p_law_one_of) (c_law_roll : Cal P w K mg base 4 "_law_roll" ["_law_dice_here", "_law_total"] p_law_roll) : Cal P w K mg base 6 "_law_near" ["_law_dice_here", "_law_text"] p_law_near := by
  refine cal_of F sc_law_near (fun ds R h => p_law_near_len h) (fun f cdv A outer s H E hr => ?_)
  refine ⟨_, (pds_cons (pds_for PassesOwnAt.never rfl (pdi_rng1 (pi_range1 rfl T.n_range (pda_cons (pd_op op_addU opd_add pd_int (pd_cal c_law_roll (hr.mono (by decide)) (pda_cons (pd_var (pv 0)) (pda_cons pd_int pda_nil)))) pda_nil))) (pdg_name (pg_name (i := 2) sc_law_near.nd rfl (Or.inl rfl))) (pds_cons (pds_par (i := 3) (j := 4) rfl sc_law_near.nd rfl rfl (by decide) rfl rfl (pda_cons (pd_cal c_law_roll (hr.mono (by decide)) (pda_cons (pd_var (pv 0)) (pda_cons pd_int pda_nil))) (pda_cons (pd_cal c_law_roll (hr.mono (by decide)) (pda_cons (pd_var (pv 0)) (pda_cons (pd_op op_addU opd_add (pd_callB cd_len call_len rfl T.n_len bb_len (pda_cons (pd_var (pv 1)) pda_nil)) pd_int) pda_nil))) pda_nil)) rfl)
    (pds_cons (pds_set (i := 5) sc_law_near.nd rfl (Or.inl rfl) (pd_op op_addU opd_add (pd_callTy cd_listU (call_listU rfl) rfl T.n_list bb_list (pda_cons pd_str pda_nil)) (pd_lst (pda_cons pd_str (pda_cons pd_str (pda_cons pd_str (pda_cons pd_str (pda_cons pd_str (pda_cons pd_str (pda_cons pd_str (pda_cons pd_str pda_nil)))))))))))
    (pds_cons (pds_set (i := 6) sc_law_near.nd rfl (Or.inl rfl) (pd_cal c_law_one_of (hr.mono (by decide)) (pda_cons (pd_var (pv 0)) (pda_cons (pd_var (pv 5)) pda_nil))))
    (pds_cons (pds_set (i := 7) sc_law_near.nd rfl (Or.inl rfl) (pd_cal c_law_one_of (hr.mono (by decide)) (pda_cons (pd_var (pv 0)) (pda_cons (pd_lst (pda_cons pd_str (pda_cons pd_str (pda_cons pd_str (pda_cons pd_str pda_nil))))) pda_nil))))
    (pds_cons (pds_set (i := 8) sc_law_near.nd rfl (Or.inl rfl) (pd_m1 md_split (pe_split (pd_var (pv 1)) (pd_var (pv 7)))))
    (pds_cons (pds_par (i := 9) (j := 10) rfl sc_law_near.nd rfl rfl (by decide) rfl rfl (pda_cons (pd_cal c_law_roll (hr.mono (by decide)) (pda_cons (pd_var (pv 0)) (pda_cons (pd_callB cd_len call_len rfl T.n_len bb_len (pda_cons (pd_var (pv 8)) pda_nil)) pda_nil))) (pda_cons (pd_cal c_law_roll (hr.mono (by decide)) (pda_cons (pd_var (pv 0)) (pda_cons (pd_callB cd_len call_len rfl T.n_len bb_len (pda_cons (pd_var (pv 8)) pda_nil)) pda_nil))) pda_nil)) rfl)
    (pds_cons (pds_set (i := 11) sc_law_near.nd rfl (Or.inl rfl) (pd_slice (pd_var (pv 8)) (pdo_some (pd_var (pv 9))) (pdo_some (pd_op op_addU opd_add (pd_var (pv 9)) pd_int))))
    (pds_cons (pds_set (i := 12) sc_law_near.nd rfl (Or.inl rfl) (pd_op op_addU opd_add (pd_slice (pd_var (pv 8)) pdo_none (pdo_some (pd_var (pv 9)))) (pd_slice (pd_var (pv 8)) (pdo_some (pd_op op_addU opd_add (pd_var (pv 9)) pd_int)) pdo_none)))
    (pds_one (pds_if (pdt_cmp (op_eqU hr) opd_eq (pd_var (pv 3)) pd_int (nomark _)) (pds_one (pds_set (i := 1) sc_law_near.nd rfl (Or.inl rfl) (pd_op op_addU opd_add (pd_slice (pd_var (pv 1)) pdo_none (pdo_some (pd_var (pv 4)))) (pd_slice (pd_var (pv 1)) (pdo_some (pd_op op_addU opd_add (pd_var (pv 4)) pd_int)) pdo_none)))) (pds_one (pds_if (pdt_cmp (op_eqU hr) opd_eq (pd_var (pv 3)) pd_int (nomark _)) (pds_one (pds_set (i := 1) sc_law_near.nd rfl (Or.inl rfl) (pd_op op_addU opd_add (pd_op op_addU opd_add (pd_slice (pd_var (pv 1)) pdo_none (pdo_some (pd_var (pv 4)))) (pd_var (pv 6))) (pd_slice (pd_var (pv 1)) (pdo_some (pd_var (pv 4))) pdo_none)))) (pds_one (pds_if (pdt_cmp (op_eqU hr) opd_eq (pd_var (pv 3)) pd_int (nomark _)) (pds_one (pds_set (i := 1) sc_law_near.nd rfl (Or.inl rfl) (pd_op op_addU opd_add (pd_op op_addU opd_add (pd_slice (pd_var (pv 1)) pdo_none (pdo_some (pd_var (pv 4)))) (pd_var (pv 6))) (pd_slice (pd_var (pv 1)) (pdo_some (pd_op op_addU opd_add (pd_var (pv 4)) pd_int)) pdo_none)))) (pds_one (pds_if (pdt_cmp (op_eqU hr) opd_eq (pd_var (pv 3)) pd_int (nomark _)) (pds_one (pds_set (i := 1) sc_law_near.nd rfl (Or.inl rfl) (pd_m1 md_join (pe_join (pd_var (pv 7)) (pd_var (pv 12)))))) (pds_one (pds_if (pdt_cmp (op_eqU hr) opd_eq (pd_var (pv 3)) pd_int (nomark _)) (pds_one (pds_set (i := 1) sc_law_near.nd rfl (Or.inl rfl) (pd_m1 md_join (pe_join (pd_var (pv 7)) (pd_op op_addU opd_add (pd_op op_addU opd_add (pd_slice (pd_var (pv 8)) pdo_none (pdo_some (pd_var (pv 9)))) (pd_var (pv 11))) (pd_slice (pd_var (pv 8)) (pdo_some (pd_var (pv 9))) pdo_none)))))) (pds_one (pds_if (pdt_cmp (op_eqU hr) opd_eq (pd_var (pv 3)) pd_int (nomark _)) (pds_one (pds_set (i := 1) sc_law_near.nd rfl (Or.inl rfl) (pd_m1 md_join (pe_join (pd_var (pv 7)) (pd_op op_addU opd_add (pd_op op_addU opd_add (pd_slice (pd_var (pv 12)) pdo_none (pdo_some (pd_var (pv 10)))) (pd_var (pv 11))) (pd_slice (pd_var (pv 12)) (pdo_some (pd_var (pv 10))) pdo_none)))))) (pds_cons (pds_set (i := 13) sc_law_near.nd rfl (Or.inl rfl) (pd_op op_addU opd_add (pd_slice (pd_var (pv 8)) pdo_none (pdo_some (pd_var (pv 9)))) (pd_slice (pd_var (pv 8)) (pdo_some (pd_var (pv 10))) (pdo_some (pd_op op_addU opd_add (pd_var (pv 10)) pd_int)))))
    (pds_one (pds_set (i := 1) sc_law_near.nd rfl (Or.inl rfl) (pd_m1 md_join (pe_join (pd_var (pv 7)) (pd_op op_addU opd_add (pd_var (pv 13)) (pd_slice (pd_var (pv 8)) (pdo_some (pd_op op_addU opd_add (pd_var (pv 9)) pd_int)) pdo_none))))))))))))))))))))))))))))
    (pds_one (pds_ret (pd_var (pv 1))))), ?_⟩
  rintro ds R ⟨t, rfl, ht, ho, h⟩
  walk_at "dl"
  refine ⟨_, rfl, by decide, by decide, fun r r0 r1 => ?_⟩
  dsimp only
  rw [qAddI]
  refine ⟨_, rfl, by omega, by omega, ?_⟩
  refine forD_any (I := fun i δ => ∃ (s : Str) (a2 a3 a4 a5 a6 a7 a8 a9 a10 a11 a12 a13 : Option SD), s.length ≤ 2000 * 16 ^ i ∧ okS s ∧ δ = [some (.dat .die), some (.dat (.str s)), a2, a3, a4, a5, a6, a7, a8, a9, a10, a11, a12, a13]) (rangeD 0 (1 + r).toNat) 0 _ ⟨t, none, none, none, none, none, none, none, none, none, none, none, none, by omega, ho, rfl⟩ (fun j x δ e' hx hi hn _ _ _ => ?_) (fun δ' hi => ?_)
  · obtain ⟨s, a2, a3, a4, a5, a6, a7, a8, a9, a10, a11, a12, a13, hs, os, rfl⟩ := hi
    have hj : j < 2 := by
      have := (List.getElem?_eq_some_iff.mp hx).1
      rw [rangeD_len] at this
      omega
    have sz : sizeLine = 16777216 := by decide
    generalize hB : 2000 * 16 ^ (0 + j) = B at hs
    have hB1 : 2000 ≤ B ∧ B ≤ 32000 ∧ 2000 * 16 ^ (0 + j + 1) = 16 * B := by
      have : j = 0 ∨ j = 1 := by omega
      rcases this with rfl | rfl <;> rw [← hB] <;> decide
    obtain ⟨B1, B2, B3⟩ := hB1
    rw [B3] at hn
    have ts : Tx B s := ⟨hs, os⟩
    have fin : ∀ (u : Str) (a2 a3 a4 a5 a6 a7 a8 a9 a10 a11 a12 a13 : Option SD), Tx (16 * B) u → e'.nx [some (.dat .die), some (.dat (.str u)), a2, a3, a4, a5, a6, a7, a8, a9, a10, a11, a12, a13] := fun u a2 a3 a4 a5 a6 a7 a8 a9 a10 a11 a12 a13 hu => hn _ ⟨u, a2, a3, a4, a5, a6, a7, a8, a9, a10, a11, a12, a13, hu.1, hu.2, rfl⟩
    walk_at "dl"
    refine ⟨_, rfl, by decide, by decide, fun w w0 w1 => ⟨by omega, _, rfl, by omega, by omega, fun at_ a0 a1 => ⟨_, _, ⟨rfl, rfl⟩, by decide +kernel, by decide, by decide +kernel, _, rfl, by simp, by decide +kernel, fun g hg => ⟨by decide, _, rfl, by simp, by decide, fun m hm => ?_⟩⟩⟩⟩
    obtain ⟨g, rfl, tg⟩ := near_signs g hg
    obtain ⟨y, rfl, ty, y0, y1, y2⟩ := near_marks m hm
    refine ⟨y0, by omega, ?_⟩
    have pp := pc_split ts y1 y2
    have pne := split_ne' (x := s) y1 y2
    generalize Txt.split s y = ps at pp pne ⊢
    have pl : 0 < ps.length := List.length_pos_iff.mpr pne
    have pl2 := pp.2.2
    walk_at "dl"
    refine ⟨_, rfl, by omega, by omega, fun sp s0 s1 => ⟨_, rfl, by omega, by omega, fun o o0 o1 => ⟨_, _, ⟨rfl, rfl⟩, ?_⟩⟩⟩
    walk_at "dl"
    have sp1 : 0 ≤ sp + 1 := by omega
    have op1 : 0 ≤ o + 1 := by omega
    simp only [cut_to s0, cut_to o0, cut_ge sp1, cut_ge s0, cut_ge o0, cut_mid s0 sp1, cut_mid o0 op1, ← List.map_take, ← List.map_drop, ← List.map_append, List.length_map]
    have pT := pc_take sp.toNat pp
    have pD := pc_drop (sp + 1).toNat pp
    have pS := pc_drop sp.toNat pp
    have pO := pc_take ((sp + 1).toNat - sp.toNat) pS
    have pX := pc_take ((o + 1).toNat - o.toNat) (pc_drop o.toNat pp)
    have pL := pc_app pT pD
    have pLt := pc_take o.toNat pL
    have pLd := pc_drop o.toNat pL
    have lT := pT.2.2
    have lD := pD.2.2
    have lS := pS.2.2
    have lO := pO.2.2
    have lX := pX.2.2
    have lLt := pLt.2.2
    have lLd := pLd.2.2
    have jn : ∀ (qs : List Str) (Q : PQ), Pc (5 * (B + 1)) qs → (Tx (16 * B) (Txt.join y qs) → Q (.str (Txt.join y qs))) → dJoin (.str y) [.lst (qs.map D.str)] Q := fun qs Q hq hk => ⟨_, qs, rfl, Or.inl rfl, by
      have := pc_room hq ty.1
      omega, hk ((tx_join hq ty).le (by omega))⟩
    have tA : ∀ lo hi, Tx B (cutS s lo hi) := fun lo hi => tx_cut ts
    have tl_ : ∀ lo hi, (cutS s lo hi).length ≤ B := fun lo hi => (tA lo hi).1
    have gl := tg.1
    refine ⟨by omega, ?_⟩
    by_cases w0 : w = 0
    · have h1 := tl_ none (some at_)
      have h2 := tl_ (some (at_ + 1)) none
      exact Or.inr ⟨w0, by omega, by omega, fin _ _ _ _ _ _ _ _ _ _ _ _ _ ((tx_app (tA _ _) (tA _ _)).le (by omega))⟩
    refine Or.inl ⟨w0, ?_⟩
    by_cases w1 : w = 1
    · have h1 := tl_ none (some at_)
      have h2 := tl_ (some at_) none
      have h3 := (tx_app (tA none (some at_)) tg).1
      exact Or.inr ⟨w1, by omega, by omega, by omega, by omega, fin _ _ _ _ _ _ _ _ _ _ _ _ _ ((tx_app (tx_app (tA _ _) tg) (tA _ _)).le (by omega))⟩
    refine Or.inl ⟨w1, ?_⟩
    by_cases w2 : w = 2
    · have h1 := tl_ none (some at_)
      have h2 := tl_ (some (at_ + 1)) none
      have h3 := (tx_app (tA none (some at_)) tg).1
      exact Or.inr ⟨w2, by omega, by omega, by omega, by omega, fin _ _ _ _ _ _ _ _ _ _ _ _ _ ((tx_app (tx_app (tA _ _) tg) (tA _ _)).le (by omega))⟩
    refine Or.inl ⟨w2, ?_⟩
    by_cases w3 : w = 3
    · exact Or.inr ⟨w3, jn _ _ (pL.le (by omega)) fun hh => fin _ _ _ _ _ _ _ _ _ _ _ _ _ hh⟩
    refine Or.inl ⟨w3, ?_⟩
    by_cases w4 : w = 4
    · exact Or.inr ⟨w4, by omega, by omega, jn _ _ ((pc_app pT (pc_app pO pS)).le (by omega)) fun hh => fin _ _ _ _ _ _ _ _ _ _ _ _ _ hh⟩
    refine Or.inl ⟨w4, ?_⟩
    by_cases w5 : w = 5
    · exact Or.inr ⟨w5, by omega, by omega, jn _ _ ((pc_app pLt (pc_app pO pLd)).le (by omega)) fun hh => fin _ _ _ _ _ _ _ _ _ _ _ _ _ hh⟩
    exact Or.inl ⟨w5, by omega, by omega, jn _ _ ((pc_app pT (pc_app pX pD)).le (by omega)) fun hh => fin _ _ _ _ _ _ _ _ _ _ _ _ _ hh⟩
  · obtain ⟨s, a2, a3, a4, a5, a6, a7, a8, a9, a10, a11, a12, a13, hs, os, rfl⟩ := hi
    refine h s (Nat.le_trans hs ?_) os
    rw [rangeD_len]
    have : (1 + r).toNat ≤ 2 := by omega
    exact Nat.le_trans (Nat.mul_le_mul_left _ (Nat.pow_le_pow_right (by decide) (show 0 + (1 + r).toNat ≤ 2 by omega))) (by decide)

end
end K82

namespace K82
open PySem PySem.Spec PyProof.Rows L2 DL
open TL

local macro_rules
  | `(tactic| walk_at "dl") => `(tactic| simp [dRet, dRetN, dAnd, dOr, dNot, dIf, dCB, dChain, dBin, dC, dVar, dCons, dNil, dStar, dTup, dLst, dSl, dPart, dNoPart, qIxL, qIxT, qIxS, qIxD, qLenS, qLenT, qLenL, qCutL, qCutT, qCutS, qAddI, qAddS, qAddT, qAddL, qSub, qMulI, qMulT, qMulL, qMod, qFdiv, qLtI, qLtS, qLeI, qLeS, qGtI, qGeI, qGtS, qGeS, qIntI, qIntB, qIntS, qLst1, qLst2, qTup1, qTup2, qStrI, qStrS, qIs1, qIs2, qIs3, qIs4, qIs5, qIs6, qIs7, qIs8, qIs9, qIs10, qIs11, qIs12, qIs13, qIs14, qIs15, qIs16, qIs17, qIs18, qIs19, qIs20, qIs21, qIs22, qIs23, qIs24, qIs25, qIs26, qIs27, qIs28, qIs29, qIs30, qIs31, qIs32, qIs33, qIs34, qIs35, qPowW, qAbs, qMax2, qMin2, qMulS, qLstS, qLstUL, qLstUT, atI_0, atI_1, atI_2, atI_3, atI_m1, dIsN, dNotN, DL.isNon, dNotT, dAndT, dOrT, dBoolT, dCmpT, dIfS, dSeq, dDrop, dAsg, dAsgS, mName, dNext, dBreak, dCont, dPar, dMatch, dCase, dCasesNil, dCall, dLstI, dTupI, dStrI, dRng1, dRng2, dFor, dM1, isStrD, isLstD, startM, shw, hid, SD.shw, SD.hid, dLc, stepD, wipeD, dName, dTrue, signsD, qKs, qKi, eq_strI, eq_intI, ne_strI, ne_intI, in_str2, in_sg, dIn, dNotIn, dNegI, dRaise, seqOf])

abbrev s_law_read : Stmt := top 60
abbrev N_law_read : List Str := ["_law_text"]
theorem sc_law_read : FnScope N_law_read ["_law_text"] (defScope s_law_read) := ⟨rfl, rfl, rfl, by decide +kernel, rfl, by decide +kernel, by decide +kernel⟩

abbrev s_law_near_right : Stmt := top 61
abbrev N_law_near_right : List Str := ["_law_text", "_law_lines_here", "_law_found"]
theorem sc_law_near_right : FnScope N_law_near_right ["_law_text"] (defScope s_law_near_right) := ⟨rfl, rfl, rfl, by decide +kernel, rfl, by decide +kernel, by decide +kernel⟩


def p_law_read (K : PySem.W.Frag) (ds : List D) (P : PQ) : Prop := ∃ t : Str, ds = [.str t] ∧ t.length + 2 ≤ sizeLine ∧ okS t ∧ (∀ ls, rd t = some ls → P (rdD K ls)) ∧ (rd t = none → P (.str "parse"))
theorem p_law_read_len {K ds P} (h : p_law_read K ds P) : ds.length = 1 := by obtain ⟨_, rfl, _⟩ := h; rfl
def p_law_near_right (ds : List D) (P : PQ) : Prop := ∃ t : Str, ds = [.str t] ∧ t.length + 2 ≤ sizeLine ∧ okS t ∧ P (.bl true)
theorem p_law_near_right_len {ds P} (h : p_law_near_right ds P) : ds.length = 1 := by obtain ⟨_, rfl, _⟩ := h; rfl
theorem isi_strN {K : PySem.W.Frag} {C : Addr} {ks : List Str} {xs : List D} {P : PQ} (k : KitC K C) (h : PySem.W.kitOne K (.ref C) (.type "str") = some false) (p : P (.bl false)) : dIsi K [.ins C ks xs, .raw (.ty "str")] P := ⟨_, .ty "str", _, _, false, rfl, .ty "str", .ins _ _ k.ins, h, p⟩
theorem isi_strS {K : PySem.W.Frag} {s : Str} {P : PQ} (p : P (.bl true)) : dIsi K [.str s, .raw (.ty "str")] P := isi_ty (.str s) kb_str_str p
/-- what the program reads is a reader's lines -/
theorem rd_wf {t : Str} {ls : List Ln} (ho : okS t) (ht : t.length + 2 ≤ sizeLine) (e : rd t = some ls) : (∀ l ∈ ls, l.Wf) ∧ validR ls = true ∧ textR ls = t := by
  unfold rd at e
  cases q : (wordsOf t).mapM lineOf with
  | none => rw [q] at e; cases e
  | some ms =>
    rw [q] at e
    by_cases c : (validR ms && decide (textR ms = t)) = true
    · simp only [if_pos c] at e
      cases e
      rw [Bool.and_eq_true, decide_eq_true_eq] at c
      refine ⟨fun l hl => ?_, c⟩
      obtain ⟨ws, h3, h4⟩ := mapM_mem q l hl
      have wo := wordsOf_mem h3
      exact lineOf_wf h4 (fun x hx => by have := wo.len x hx; omega) (wo.ok ho)
    · simp only [if_neg c] at e
      cases e
section

variable {P : Program} {w : World} {K : PySem.W.Frag} {mg : Str → Option Value} {base : Heap}

theorem ok_law_read (T : Txt K mg) (F : FD K mg "_law_read" s_law_read ["_law_text"]) (c_read_reader : CalG P w K mg base (L2.CX P w) 11 "read_reader" ["text"] (p_read_reader K)) : Cal P w K mg base 12 "_law_read" ["_law_text"] (p_law_read K) := by
  refine cal_of F sc_law_read (fun ds R h => p_law_read_len h) (fun f cdv A outer s H E hr => ?_)
  refine ⟨_, (pds_one (pds_try rfl rfl (c := .ref (ca K "ParseError")) ⟨rfl, rfl, Or.inl T.g_ParseError⟩ LamX.takes0 (fun W' pn xe tk' _ => (pds_one (pds_ret (pd_calP c_read_reader (fun σ => passAt tk' σ) (hr.mono (by decide)) (pda_cons (pd_var (pv 0)) pda_nil))))) (fun a oe cls d pn _ _ => (pds_one (pds_ret pd_str))))), ?_⟩
  rintro ds R ⟨t, rfl, ht, ho, h1, h2⟩
  unfold dTry
  walk_at "dl"
  refine Or.inl ⟨t, rfl, ht, ho, h1, fun e => ?_⟩
  exact ⟨T.e_ParseError, h2 e⟩

theorem ok_law_near_right (T : Txt K mg) (F : FD K mg "_law_near_right" s_law_near_right ["_law_text"]) (c_law_lines_read : Cal P w K mg base 6 "_law_lines_read" ["_law_text"] p_law_lines_read) (c_law_read : Cal P w K mg base 12 "_law_read" ["_law_text"] (p_law_read K)) (c_reader_text : Cal P w K mg base 5 "reader_text" ["reader"] (fun ds R => (p_reader_text K) ds R (fun _ => False))) (m_lines : MetG P w K mg base CX0 4 (He5.wf K (ca K "Reader") "property" "lines") ["self"] (fun ds R _ => p_lines K ds R)) : Cal P w K mg base 13 "_law_near_right" ["_law_text"] p_law_near_right := by
  refine cal_of F sc_law_near_right (fun ds R h => p_law_near_right_len h) (fun f cdv A outer s H E hr => ?_)
  refine ⟨_, (pds_cons (pds_par (i := 1) (j := 2) rfl sc_law_near_right.nd rfl rfl (by decide) rfl rfl (pda_cons (pd_cal c_law_lines_read (hr.mono (by decide)) (pda_cons (pd_var (pv 0)) pda_nil)) (pda_cons (pd_cal c_law_read (hr.mono (by decide)) (pda_cons (pd_var (pv 0)) pda_nil)) pda_nil)) rfl)
    (pds_cons (pds_if (PW.pt (pdw_or (pdt_cmp op_isN opd_isN (pd_var (pv 1)) pd_non (nomark _)) (pdw_or1 (pdt_val (pd_callB cd_isi call_isi rfl T.n_isinstance bb_isinstance (pda_cons (pd_var (pv 2)) (pda_cons (pd_c (fun _ _ => .raw _) (pe_bltn (v := .ty "str") rfl T.n_str bb_str rfl)) pda_nil))))))) (pds_one (pds_ret (pd_and (pd_cmp op_isN opd_isN (pd_var (pv 1)) pd_non (nomark _)) (pd_one (pd_cmp (op_eqU hr) opd_eq (pd_var (pv 2)) pd_str (nomark _)))))) pds_nil)
    (pds_one (pds_ret (pd_and (pd_cmp (op_eqU hr) opd_eq (pd_prop (pd_var (pv 2)) T.R.cls T.R.lines m_lines (hr.mono (by decide))) (pd_var (pv 1)) (nomark _)) (pd_one (pd_cmp (op_eqU hr) opd_eq (pd_cal c_reader_text (hr.mono (by decide)) (pda_cons (pd_var (pv 2)) pda_nil)) (pd_var (pv 0)) (nomark _)))))))), ?_⟩
  rintro ds R ⟨t, rfl, ht, ho, h⟩
  unfold dProp
  walk_at "dl"
  refine ⟨t, rfl, ht, ho, ?_⟩
  rw [lr_rd]
  cases e : rd t with
  | none =>
    refine ⟨t, rfl, ht, ho, fun ls e' => (by rw [e] at e'; cases e'), fun _ => ⟨_, _, ⟨rfl, rfl⟩, ?_⟩⟩
    show dEq (.str "parse") (.str "parse") R
    exact dEq_str h
  | some ls =>
    refine ⟨t, rfl, ht, ho, fun ls' e' => ?_, fun e' => (by rw [e] at e'; cases e')⟩
    rw [e] at e'
    cases e'
    obtain ⟨wf, v, tx⟩ := rd_wf ho ht e
    refine ⟨_, _, ⟨rfl, rfl⟩, ?_⟩
    refine (if_neg (show ¬ ((false : Bool) = true) from Bool.false_ne_true)).mpr ?_
    refine isi_strN T.kit_Reader T.R.strN ?_
    refine Or.inl ⟨rfl, ⟨_, _, rfl⟩, ls, rfl, ?_⟩
    refine dEq_lns wf wf ?_
    refine Or.inr ⟨by rw [decide_eq_true rfl], Or.inl ⟨ls, rfl, wf, v, ?_⟩⟩
    rw [tx]
    exact dEq_str (by rw [decide_eq_true rfl]; exact h)

end
end K82

namespace K82
open PySem PySem.Spec PyProof.Rows L2 DL
open TL

local macro_rules
  | `(tactic| walk_at "dl") => `(tactic| simp [dRet, dRetN, dAnd, dOr, dNot, dIf, dCB, dChain, dBin, dC, dVar, dCons, dNil, dStar, dTup, dLst, dSl, dPart, dNoPart, qIxL, qIxT, qIxS, qIxD, qLenS, qLenT, qLenL, qCutL, qCutT, qCutS, qAddI, qAddS, qAddT, qAddL, qSub, qMulI, qMulT, qMulL, qMod, qFdiv, qLtI, qLtS, qLeI, qLeS, qGtI, qGeI, qGtS, qGeS, qIntI, qIntB, qIntS, qLst1, qLst2, qTup1, qTup2, qStrI, qStrS, qIs1, qIs2, qIs3, qIs4, qIs5, qIs6, qIs7, qIs8, qIs9, qIs10, qIs11, qIs12, qIs13, qIs14, qIs15, qIs16, qIs17, qIs18, qIs19, qIs20, qIs21, qIs22, qIs23, qIs24, qIs25, qIs26, qIs27, qIs28, qIs29, qIs30, qIs31, qIs32, qIs33, qIs34, qIs35, qPowW, qAbs, qMax2, qMin2, qMulS, qLstS, qLstUL, qLstUT, atI_0, atI_1, atI_2, atI_3, atI_m1, dIsN, dNotN, DL.isNon, dNotT, dAndT, dOrT, dBoolT, dCmpT, dIfS, dSeq, dDrop, dAsg, dAsgS, mName, dNext, dBreak, dCont, dPar, dMatch, dCase, dCasesNil, dCall, dLstI, dTupI, dStrI, dRng1, dRng2, dFor, dM1, isStrD, isLstD, startM, shw, hid, SD.shw, SD.hid, dLc, stepD, wipeD, dName, dTrue, signsD, qKs, qKi, eq_strI, eq_intI, ne_strI, ne_intI, in_str2, in_sg, dIn, dNotIn, dNegI, dRaise, seqOf])

abbrev s_law_met : Stmt := top 53
abbrev N_law_met : List Str := ["_law_call", "e", "_law_words", "_law_told"]
theorem sc_law_met : FnScope N_law_met ["_law_call"] (defScope s_law_met) := ⟨rfl, rfl, rfl, by decide +kernel, rfl, by decide +kernel, by decide +kernel⟩


/-- which error is told how -/
def MW (K : PySem.W.Frag) (D0 : Addr) (w : Str) : Prop := (D0 = ca K "InvalidReader" ∧ w = "reader") ∨ (D0 = ca K "ParseError" ∧ w = "parse")
theorem mw_xc {K : PySem.W.Frag} {mg : Str → Option Value} (T : Txt K mg) {D0 : Addr} {w : Str} (h : MW K D0 w) : ExcC K D0 := by
  rcases h with ⟨rfl, _⟩ | ⟨rfl, _⟩
  · exact T.xc_InvalidReader
  · exact T.xc_ParseError
theorem mw_exm {K : PySem.W.Frag} {mg : Str → Option Value} (T : Txt K mg) {D0 : Addr} {w : Str} (h : MW K D0 w) : PySem.W.exmOne K (.ref D0) (.ref (ca K "MoveError")) = some true := by
  rcases h with ⟨rfl, _⟩ | ⟨rfl, _⟩
  · exact T.em_InvalidReader
  · exact T.em_ParseError
/-- the reading of the handler's suite: isinstance of the exception e of the class D0 by each class -/
def isE (K : PySem.W.Frag) (D0 e : Addr) (c : Str) : DE := dCB (dIsE K D0 e) (dCons (dVar 1) (dCons (dC (.raw (.ref (ca K c)))) dNil))
def metS (K : PySem.W.Frag) (e D0 : Addr) : DSt :=
  dSeq (dAsg (dLst (dCons (isE K D0 e "InvalidMover") (dCons (isE K D0 e "InvalidReader") (dCons (isE K D0 e "InvalidStore") dNil)))) (mName 2))
  (dSeq (dAsg (dBin dAdd (dVar 2) (dLst (dCons (isE K D0 e "InvalidOperation") (dCons (isE K D0 e "ParseError") dNil)))) (mName 2))
  (dSeq (dAsg (dLst (dCons (dC (.str "mover")) (dCons (dC (.str "reader")) (dCons (dC (.str "store")) (dCons (dC (.str "operation")) (dCons (dC (.str "parse")) dNil)))))) (mName 3))
  (dRet (dIf (dCmpT dEq (dML dCntF (dVar 2) (dC (.bl true))) (dC (.int 1))) (dBin dIx (dVar 3) (dML dIdxF (dVar 2) (dC (.bl true)))) (dC (.str "other"))))))
section
variable {X : Cx}
theorem gives (T : Txt X.K X.mg) {g : Addr} {cdg : Value} {q : Str} (hroom : Room 1 X.A) : LamX.GivesTo X N_law_met "_law_met" (defScope s_law_met) g cdg (defBody s_law_met) "_law_call" q (TTmet X.K (MW X.K) "returned") := by
  refine gives_met (fs := metS X.K) rfl T.g_MoveError (by decide) sc_law_met.nd rfl rfl rfl (fun s H e oe D0 w pn hz hf hm hr => ?_) (fun e D0 w P hm hp => ?_) (fun D0 w hm => mw_exm T hm) hroom
  · have hC := mw_xc T hm
    have hu := hr.units
    exact (pds_cons (pds_set (i := 2) sc_law_met.nd rfl (Or.inl rfl) (pd_lst (pda_cons (pd_callB cd_isE (call_isE hC hz hf) rfl T.n_isinstance bb_isinstance (pda_cons (pd_var (pv 1)) (pda_cons (pd_glob rfl T.k_InvalidMover (fun _ _ => .raw _)) pda_nil))) (pda_cons (pd_callB cd_isE (call_isE hC hz hf) rfl T.n_isinstance bb_isinstance (pda_cons (pd_var (pv 1)) (pda_cons (pd_glob rfl T.k_InvalidReader (fun _ _ => .raw _)) pda_nil))) (pda_cons (pd_callB cd_isE (call_isE hC hz hf) rfl T.n_isinstance bb_isinstance (pda_cons (pd_var (pv 1)) (pda_cons (pd_glob rfl T.k_InvalidStore (fun _ _ => .raw _)) pda_nil))) pda_nil)))))
    (pds_cons (pds_set (i := 2) sc_law_met.nd rfl (Or.inl rfl) (pd_op op_addU opd_add (pd_var (pv 2)) (pd_lst (pda_cons (pd_callB cd_isE (call_isE hC hz hf) rfl T.n_isinstance bb_isinstance (pda_cons (pd_var (pv 1)) (pda_cons (pd_glob rfl T.k_InvalidOperation (fun _ _ => .raw _)) pda_nil))) (pda_cons (pd_callB cd_isE (call_isE hC hz hf) rfl T.n_isinstance bb_isinstance (pda_cons (pd_var (pv 1)) (pda_cons (pd_glob rfl T.k_ParseError (fun _ _ => .raw _)) pda_nil))) pda_nil)))))
    (pds_cons (pds_set (i := 3) sc_law_met.nd rfl (Or.inl rfl) (pd_lst (pda_cons pd_str (pda_cons pd_str (pda_cons pd_str (pda_cons pd_str (pda_cons pd_str pda_nil)))))))
    (pds_one (pds_ret (pd_if (pdt_cmp (op_eq.or (op_eqD hu)) opd_eq (pd_lcount (pd_var (pv 2)) pd_bl) pd_int (nomark _)) (pd_ix (pd_var (pv 3)) (pd_lindex (pd_var (pv 2)) pd_bl)) pd_str))))))
  · have key : ∀ (bs : List Bool) (n : Nat) (u : Str), bs.countP id = 1 → bs.findIdx? id = some n → True := fun _ _ _ _ _ => trivial
    rcases hm with ⟨rfl, rfl⟩ | ⟨rfl, rfl⟩
    · unfold metS isE dIsE dML dCntF dIdxF
      walk_at "dl"
      simp only [T.ki_InvalidReader_InvalidMover, T.ki_InvalidReader_InvalidReader, T.ki_InvalidReader_InvalidStore, T.ki_InvalidReader_InvalidOperation, T.ki_InvalidReader_ParseError, Option.some.injEq, Bool.false_eq_true, Bool.true_eq_false, false_and, true_and, or_false, false_or]
      refine ⟨by decide, by decide, by decide, .bl true, rfl, [.bl false, .bl true, .bl false, .bl false, .bl false], rfl, rfl, by decide, Or.inr ⟨by decide, .bl true, rfl, [.bl false, .bl true, .bl false, .bl false, .bl false], rfl, rfl, by decide, 1, .bl true, rfl, rfl, fun m u' hm e => ?_, _, rfl, hp⟩⟩
      have : m = 0 := by omega
      subst this
      cases e
      rfl
    · unfold metS isE dIsE dML dCntF dIdxF
      walk_at "dl"
      simp only [T.ki_ParseError_InvalidMover, T.ki_ParseError_InvalidReader, T.ki_ParseError_InvalidStore, T.ki_ParseError_InvalidOperation, T.ki_ParseError_ParseError, Option.some.injEq, Bool.false_eq_true, Bool.true_eq_false, false_and, true_and, or_false, false_or]
      refine ⟨by decide, by decide, by decide, .bl true, rfl, [.bl false, .bl false, .bl false, .bl false, .bl true], rfl, rfl, by decide, Or.inr ⟨by decide, .bl true, rfl, [.bl false, .bl false, .bl false, .bl false, .bl true], rfl, rfl, by decide, 4, .bl true, rfl, rfl, fun m u' hm e => ?_, _, rfl, hp⟩⟩
      match m, hm with
      | 0, _ => cases e; rfl
      | 1, _ => cases e; rfl
      | 2, _ => cases e; rfl
      | 3, _ => cases e; rfl
end
end K82

namespace K82
open PySem PySem.Spec PyProof.Rows L2 DL
open TL

local macro_rules
  | `(tactic| walk_at "dl") => `(tactic| simp [dRet, dRetN, dAnd, dOr, dNot, dIf, dCB, dChain, dBin, dC, dVar, dCons, dNil, dStar, dTup, dLst, dSl, dPart, dNoPart, qIxL, qIxT, qIxS, qIxD, qLenS, qLenT, qLenL, qCutL, qCutT, qCutS, qAddI, qAddS, qAddT, qAddL, qSub, qMulI, qMulT, qMulL, qMod, qFdiv, qLtI, qLtS, qLeI, qLeS, qGtI, qGeI, qGtS, qGeS, qIntI, qIntB, qIntS, qLst1, qLst2, qTup1, qTup2, qStrI, qStrS, qIs1, qIs2, qIs3, qIs4, qIs5, qIs6, qIs7, qIs8, qIs9, qIs10, qIs11, qIs12, qIs13, qIs14, qIs15, qIs16, qIs17, qIs18, qIs19, qIs20, qIs21, qIs22, qIs23, qIs24, qIs25, qIs26, qIs27, qIs28, qIs29, qIs30, qIs31, qIs32, qIs33, qIs34, qIs35, qPowW, qAbs, qMax2, qMin2, qMulS, qLstS, qLstUL, qLstUT, atI_0, atI_1, atI_2, atI_3, atI_m1, dIsN, dNotN, DL.isNon, dNotT, dAndT, dOrT, dBoolT, dCmpT, dIfS, dSeq, dDrop, dAsg, dAsgS, mTup, mCons, mNil, mName, dNext, dBreak, dCont, dPar, dMatch, dCase, dCasesNil, dCall, dLstI, dTupI, dStrI, dRng1, dRng2, dFor, dM1, isStrD, isLstD, startM, shw, hid, SD.shw, SD.hid, dLc, stepD, wipeD, dName, dTrue, signsD, qKs, qKi, eq_strI, eq_intI, ne_strI, ne_intI, in_str2, in_sg, dIn, dNotIn, dNegI, dRaise, seqOf])

abbrev s_law_right : Stmt := top 62
abbrev N_law_right : List Str := ["_law_dice_here", "_law_lines_here", "_law_thing", "_law_text", "_law_found", "_law_bad", "_law_odd", "_law_told", "_law_turn"]
theorem sc_law_right : FnScope N_law_right ["_law_dice_here"] (defScope s_law_right) := ⟨rfl, rfl, rfl, by decide +kernel, rfl, by decide +kernel, by decide +kernel⟩


/-- the tables of code objects of the defs that make lambdas -/
structure Tbl (K : PySem.W.Frag) (mg : Str → Option Value) (base : Heap) : Prop where
  law : LamX.TabB base mg (He.cT K ("law", none)).1 (He.cT K ("law", none)).2
  right : LamX.TabB base mg (He.cT K ("_law_right", none)).1 (He.cT K ("_law_right", none)).2
  ne : (He.cT K ("law", none)).2 ≠ (He.cT K ("_law_right", none)).2
theorem Tbl.u_right {K : PySem.W.Frag} {mg : Str → Option Value} {base : Heap} (B : Tbl K mg base) : ∀ p ∈ TBS K, p.1 = (He.cT K ("_law_right", none)).2 → p.2 = (("_law_right" : Str) ++ ".<locals>.") ++ "<lambda>" := fun p hp e => by
  unfold TBS tblAt at hp
  simp only [List.mem_cons, List.not_mem_nil, or_false] at hp
  rcases hp with rfl | rfl
  · exact absurd e B.ne
  · rfl
theorem Tbl.u_law {K : PySem.W.Frag} {mg : Str → Option Value} {base : Heap} (B : Tbl K mg base) : ∀ p ∈ TBS K, p.1 = (He.cT K ("law", none)).2 → p.2 = (("law" : Str) ++ ".<locals>.") ++ "<lambda>" := fun p hp e => by
  unfold TBS tblAt at hp
  simp only [List.mem_cons, List.not_mem_nil, or_false] at hp
  rcases hp with rfl | rfl
  · rfl
  · exact absurd e.symm B.ne
theorem cx_qual {CX : CXT} {P : Program} {w : World} {K : PySem.W.Frag} {mg : Str → Option Value} {base : Heap} {N : List Str} {q : Str} {sc : Scope} {f : Addr} {cdv : Value} {A : Around} {outer : List Env} {s : Shared} {H : Hp} {E : XK} : (cxOf CX P w K mg base N q sc f cdv A outer s H E).nox.env.qual = q ++ ".<locals>." := rfl
theorem m_right {K : PySem.W.Frag} : ((He.cT K ("_law_right", none)).2, (("_law_right" : Str) ++ ".<locals>.") ++ "<lambda>") ∈ TBS K := List.mem_cons_of_mem _ List.mem_cons_self
theorem m_law {K : PySem.W.Frag} : ((He.cT K ("law", none)).2, (("law" : Str) ++ ".<locals>.") ++ "<lambda>") ∈ TBS K := List.mem_cons_self
section
variable {X : Cx} {W : WX}
/-- _law_met(lambda: body) -/
theorem pd_told {q : Str} {fe : DE} {c P : Addr} {k : Nat} {params : Arguments} {body : Expr} {scope : Scope} {p lpos pos : Pos} (T : Txt X.K X.mg) (FM : FD X.K X.mg "_law_met" s_law_met ["_law_call"]) (hg : Gl X "_law_met")
    (TB : LamX.TabB X.base X.mg c P) (hcode : X.env.code = .ref c) (hq : X.env.qual = q) (hmT : (P, q ++ "<lambda>") ∈ TBS X.K) (hu : ∀ p ∈ TBS X.K, p.1 = P → p.2 = q ++ "<lambda>") (hr : Room (k + 2) X.A) (L : LamX.LamS X.env.scope scope) (hdef : defaultsOf params X.env = ([], []))
    (hbind : ∀ (q : Str) (cl : List (Str × Addr)) (pm cv ctv : Value), bindArgs (PySem.W.kla_fn "<lambda>" q params body scope cl pm cv ctv) ⟨[], []⟩ = pure [])
    (hbody : ∀ (A : Around) (outer : List Env) (s : Shared) (H : Hp) (E : XK) (f c' : Addr), Room k (A.deeper (LamX.lamEnv X scope s.heap.objs.size f c')) → PE (LamX.lamCx X A outer s H E scope f c') body (up X.K (fun c d _ H => E c d H) fe)) :
    PE X (.Call (.Name "_law_met" p) [.Lambda params body scope lpos] [] pos) (up X.K W (dMet (MW X.K) "returned" fe)) := by
  obtain ⟨g, fd, hF, hm, hb⟩ := FM
  have kp := hF.kp
  obtain ⟨oc, od, kV, doc, pm, an, cdv, ct, osl, e, lk, hcd⟩ := hF.ex
  subst e
  subst hq
  exact pd_met hg hm kp lk hcd hb sc_law_met rfl (Or.inl rfl) (gives T (hr.mono (by omega))) TB hcode hmT hu hr L hdef hbind hbody
end
theorem lr_text {ls : List Ln} (hv : validR ls = true) : lr (textR ls) = some ls := by
  unfold validR at hv
  simp only [Bool.and_eq_true, decide_eq_true_eq, List.all_eq_true] at hv
  obtain ⟨v1, v2, v3⟩ := hv
  cases ls with
  | nil =>
    rw [textR_nil]
    unfold lr
    rw [if_pos rfl]
  | cons m ms =>
    have T : Txt.split (textR (m :: ms)) "\n" = (m :: ms).map lineT := split_join nl_tl nl_k (by simp) fun p hp => by
      obtain ⟨l, hl, rfl⟩ := List.mem_map.mp hp
      exact lineT_free (v2 l hl)
    have q : textR (m :: ms) ≠ "" := fun e => by
      rw [e] at T
      have e2 : Txt.split ("" : Str) "\n" = ([""] : List Str) := by decide +kernel
      rw [e2, List.map_cons] at T
      injection T with T1 T2
      have lw := line_words (v2 m List.mem_cons_self)
      rw [← T1] at lw
      have e3 : Txt.split ("" : Str) " " = ([""] : List Str) := by decide +kernel
      rw [e3] at lw
      have := lineRL_words (v2 m List.mem_cons_self) (by omega)
      rw [← lw] at this
      cases this
    unfold lr
    rw [if_neg q, T, List.length_map]
    rw [mapM_some (ys := m :: ms) (by
      rw [List.map_map]
      refine List.map_congr_left fun l hl => ?_
      show lineRL (m :: ms).length (Txt.split (lineT l) " ") = some l
      rw [line_words (v2 l hl)]
      exact lineRL_words (v2 l hl) (by omega))]
    simp only [if_pos (show (m :: ms).length ≤ 16 ∧ nTested (m :: ms) ≤ 6 from ⟨v1, v3⟩)]
theorem rd_text {ls : List Ln} (hv : validR ls = true) : rd (textR ls) = some ls := lr_to (lr_text hv)
theorem lineW_ok {l : Ln} {n : Int} (h : okL n l = true) : ∀ x ∈ lineW l, okS x := by
  have wf := okL_wf h
  intro x hx
  unfold lineW at hx
  rcases List.mem_append.mp hx with hx | hx
  · exact wf.ok x hx
  · cases e : l.num with
    | none => rw [e] at hx; cases hx
    | some i =>
      rw [e] at hx
      cases List.mem_singleton.mp hx
      have i0 : 0 ≤ i := by
        rcases okL_shape h with ⟨j, rfl, j0, _⟩ | ⟨a, b, j, rfl, _, _, j0, _⟩ | ⟨g, a, b, rfl, _⟩
        · cases e; exact j0
        · cases e; exact j0
        · cases e
      refine okS_iff.mpr fun c hc => ?_
      rw [tl_strI i0] at hc
      have := TL.numL_digits i.toNat c hc
      omega
theorem textR_tx {ls : List Ln} (wf : ∀ l ∈ ls, l.Wf) (hv : validR ls = true) : (textR ls).length ≤ 2000 ∧ okS (textR ls) := by
  unfold validR at hv
  simp only [Bool.and_eq_true, decide_eq_true_eq, List.all_eq_true] at hv
  obtain ⟨v1, v2, v3⟩ := hv
  have nl1 : ("\n" : Str).length = 1 := by decide +kernel
  refine ⟨?_, okS_iff.mpr fun c hc => ?_⟩
  · have h1 := joinL_len (S := tl "\n") ((ls.map lineT).map tl)
    have h2 := sum_le (ls.map lineT) fun x hx => by
      obtain ⟨l, hl, rfl⟩ := List.mem_map.mp hx
      exact lineT_len (v2 l hl) (by omega)
    rw [List.length_map] at h2
    unfold textR
    rw [len_tl, join_eq, tl_join]
    have e2 : List.map List.length (List.map tl (ls.map lineT)) = (ls.map lineT).map (·.length) := by
      rw [List.map_map]
      exact List.map_congr_left fun s _ => (len_tl s).symm
    rw [e2, List.length_map, List.length_map, ← len_tl "\n", nl1] at h1
    omega
  · unfold textR at hc
    rw [join_eq, tl_join] at hc
    rcases joinL_mem hc with hc | ⟨p, hp, hc⟩
    · rw [nl_tl] at hc
      cases List.mem_singleton.mp hc
      decide
    · rw [List.map_map] at hp
      obtain ⟨l, hl, rfl⟩ := List.mem_map.mp hp
      have hc : c ∈ tl (lineT l) := hc
      rw [tl_lineT] at hc
      rcases joinL_mem hc with hc | ⟨q, hq, hc⟩
      · cases List.mem_singleton.mp hc
        decide
      · obtain ⟨x, hx, rfl⟩ := List.mem_map.mp hq
        exact okS_iff.mp (lineW_ok (v2 l hl) x hx) c hc
def p_law_right (ds : List D) (P : PQ) : Prop := ds = [.die] ∧ P (.bl true)
theorem p_law_right_len {ds P} (h : p_law_right ds P) : ds.length = 1 := by obtain ⟨rfl, _⟩ := h; rfl
section

variable {P : Program} {w : World} {K : PySem.W.Frag} {mg : Str → Option Value} {base : Heap}

theorem ok_law_right (T : Txt K mg) (F : FDL K mg "_law_right" s_law_right ["_law_dice_here"]) (c_law_lines : Cal P w K mg base 8 "_law_lines" ["_law_dice_here"] p_law_lines) (c_read_reader : CalG P w K mg base (L2.CX P w) 11 "read_reader" ["text"] (p_read_reader K)) (c_law_lines_text : Cal P w K mg base 4 "_law_lines_text" ["_law_lines_here"] p_law_lines_text) (c_reader_text : CalG P w K mg base (L2.CX P w) 5 "reader_text" ["reader"] (p_reader_text K)) (c_law_one_of : Cal P w K mg base 5 "_law_one_of" ["_law_dice_here", "_law_items"] p_law_one_of) (c_law_odd_text : Cal P w K mg base 6 "_law_odd_text" ["_law_dice_here"] p_law_odd_text) (c_law_near_right : Cal P w K mg base 13 "_law_near_right" ["_law_text"] p_law_near_right) (c_law_near : Cal P w K mg base 6 "_law_near" ["_law_dice_here", "_law_text"] p_law_near) (FM : FD K mg "_law_met" s_law_met ["_law_call"]) (B : Tbl K mg base) (m_of : MetG P w K mg base (L2N.CX P w) 10 (He5.wf K (ca K "Reader") "classmethod" "of") ["cls", "lines"] (p_of K)) (m_lines : MetG P w K mg base CX0 4 (He5.wf K (ca K "Reader") "property" "lines") ["self"] (fun ds R _ => p_lines K ds R)) (m_eq : MetG P w K mg base CX0 4 (mt K "Reader" "__eq__") ["self", "other"] (fun ds R _ => p_eq K ds R)) : Cal P w K mg base 14 "_law_right" ["_law_dice_here"] p_law_right := by
  refine cal_ofL F sc_law_right (fun ds R h => p_law_right_len h) (fun f A outer s H E hr => ?_)
  refine ⟨_, (pds_cons (pds_set (i := 1) sc_law_right.nd rfl (Or.inl rfl) (pd_cal c_law_lines (hr.mono (by decide)) (pda_cons (pd_var (pv 0)) pda_nil)))
    (pds_cons (pds_asg (pd_tup (pda_cons (pd_cmet rfl T.g_Reader T.R.rd T.R.of m_of.zc.calm (hr.mono (by decide)) (fun _ _ _ _ _ _ _ c => c.elim) (pda_cons (pd_var (pv 1)) pda_nil)) (pda_cons (pd_cal c_law_lines_text (hr.mono (by decide)) (pda_cons (pd_var (pv 1)) pda_nil)) pda_nil))) (pdg_tup (n := 2) rfl (pdgs_cons (pdg_name (pg_name (i := 2) sc_law_right.nd rfl (Or.inl rfl))) (pdgs_cons (pdg_name (pg_name (i := 3) sc_law_right.nd rfl (Or.inr rfl))) pdgs_nil))))
    (pds_cons (pds_if (pdt_cmp (op_neU hr) opd_ne (pd_cal c_reader_text.calm (hr.mono (by decide)) (pda_cons (pd_var (pv 2)) pda_nil)) (pd_var (pv 3)) (nomark _)) (pds_one (pds_ret pd_bl)) pds_nil)
    (pds_cons (pds_set (i := 4) sc_law_right.nd rfl (Or.inl rfl) (pd_cal c_read_reader.calm (hr.mono (by decide)) (pda_cons (pd_var (pv 3)) pda_nil)))
    (pds_cons (pds_if (PW.pt (pdw_or (pdt_cmp (op_ownNe m_eq (hr.mono (by decide)) T.R.ne T.R.sub T.R.eqm T.R.eqf) opd_own (pd_var (pv 4)) (pd_var (pv 2)) (nomark _)) (pdw_or (pdt_cmp (op_neU hr) opd_ne (pd_prop (pd_var (pv 4)) T.R.cls T.R.lines m_lines (hr.mono (by decide))) (pd_var (pv 1)) (nomark _)) (pdw_or1 (pdt_cmp (op_neU hr) opd_ne (pd_cal c_reader_text.calm (hr.mono (by decide)) (pda_cons (pd_var (pv 4)) pda_nil)) (pd_var (pv 3)) (nomark _)))))) (pds_one (pds_ret pd_bl)) pds_nil)
    (pds_cons (pds_if (pdt_cmp (op_neU hr) opd_ne (pd_lc (own := [("_law_turn", 8)]) (g := (gName 8)) (gd := (dName 8)) rfl sc_law_right.nd (pdi_rng1 (pi_range1 rfl T.n_range (pda_cons pd_int pda_nil))) (blkOk_by (N := N_law_right) (sc := (defScope s_law_right)) (own := [("_law_turn", 8)]) (by decide +kernel)) (fun _ _ _ _ _ => (pg_name (i := 8) sc_law_right.nd rfl (Or.inl rfl))) tgw_name (fun _ _ _ _ _ => (pdts_one (pdt_not (pdt_val (pd_cal c_law_near_right (hr.mono (by decide)) (pda_cons (pd_cal c_law_near (hr.mono (by decide)) (pda_cons (pd_var (pv 0)) (pda_cons (pd_var (pv 3)) pda_nil))) pda_nil)))))) (fun _ _ _ _ _ => (pd_var (pv 8)))) (pd_lst pda_nil) (nomark _)) (pds_one (pds_ret pd_bl)) pds_nil)
    (pds_cons (pds_asg (pd_tup (pda_cons (pd_cal c_law_one_of (hr.mono (by decide)) (pda_cons (pd_var (pv 0)) (pda_cons (pd_lst (pda_cons pd_non (pda_cons pd_int (pda_cons (pd_var (pv 3)) (pda_cons (pd_var (pv 1)) (pda_cons (pd_lst (pda_cons (pd_var (pv 2)) pda_nil)) (pda_cons pd_d0 (pda_cons (pd_tup (pda_cons (pd_var (pv 2)) pda_nil)) (pda_cons pd_bl pda_nil))))))))) pda_nil))) (pda_cons (pd_cal c_law_odd_text (hr.mono (by decide)) (pda_cons (pd_var (pv 0)) pda_nil)) pda_nil))) (pdg_tup (n := 2) rfl (pdgs_cons (pdg_name (pg_name (i := 5) sc_law_right.nd rfl (Or.inr rfl))) (pdgs_cons (pdg_name (pg_name (i := 6) sc_law_right.nd rfl (Or.inr rfl))) pdgs_nil))))
    (pds_cons (pds_own (i := 7) sc_law_right.nd rfl (Or.inl rfl) (pda_cons (pd_told (k := 11)  T FM rfl B.right rfl cx_qual m_right B.u_right (hr.mono (by decide)) (LamX.lamS_by (sc := defScope s_law_right) (by decide +kernel)) rfl (fun _ _ _ _ _ => rfl) (fun A1 o1 s1 H1 E1 f1 c1 hr1 => (pd_calP c_reader_text (fun σ => passAt (L2.takes_of rfl rfl rfl rfl) σ) (hr1.mono (by decide)) (pda_cons (pd_var (pv 5)) pda_nil)))) pda_nil))
    (pds_cons (pds_app (pv 7) (pd_told (k := 11)  T FM rfl B.right rfl cx_qual m_right B.u_right (hr.mono (by decide)) (LamX.lamS_by (sc := defScope s_law_right) (by decide +kernel)) rfl (fun _ _ _ _ _ => rfl) (fun A1 o1 s1 H1 E1 f1 c1 hr1 => (pd_calP c_read_reader (fun σ => passAt (L2.takes_of rfl rfl rfl rfl) σ) (hr1.mono (by decide)) (pda_cons (pd_var (pv 6)) pda_nil)))))
    (pds_one (pds_ret (pd_cmp (op_eqU hr) opd_eq (pd_var (pv 7)) (pd_lst (pda_cons pd_str (pda_cons pd_str pda_nil))) (nomark _))))))))))))), ?_⟩
  rintro ds R ⟨rfl, h⟩
  unfold dOwn dApp dCMet dOwnC dMet dProp
  walk_at "dl"
  refine ⟨rfl, fun ls wf hv => ⟨ls, rfl, wf, fun _ => ⟨ls, rfl, hv, by decide, _, _, ⟨rfl, rfl⟩, _, _, rfl, rfl, ?_⟩, fun e => by rw [hv] at e; cases e⟩⟩
  obtain ⟨tl1, tok⟩ := textR_tx wf hv
  have sz : sizeLine = 16777216 := by decide
  have rt := rd_text hv
  have same : ∀ {x : Str} {P : PQ}, P (.bl false) → dNe (.str x) (.str x) P := fun p => dNe_str (by rw [decide_eq_true rfl]; exact p)
  refine Or.inl ⟨ls, rfl, wf, hv, same (Or.inl ⟨rfl, Or.inl ⟨textR ls, rfl, by omega, tok, fun ls' e' => ?_, fun e' => (by rw [rt] at e'; cases e')⟩⟩)⟩
  rw [rt] at e'
  cases e'
  refine ⟨⟨_, _, rfl⟩, ⟨_, _, rfl⟩, ls, ls, rfl, wf, wf, Or.inr ⟨by rw [decide_eq_true rfl], ⟨_, _, rfl⟩, ls, rfl, ?_⟩⟩
  refine dEq_lns wf wf ⟨_, rfl, Or.inl ⟨by rw [decide_eq_true rfl]; rfl, Or.inl ⟨ls, rfl, wf, hv, same (Or.inl ⟨rfl, ?_⟩)⟩⟩⟩
  refine lcD_map (f := fun _ => none) (rangeD 0 8) [] (fun x _ k hk => ?_) (by decide) ?_
  · walk_at "dl"
    refine ⟨textR ls, rfl, tl1, tok, fun s hs os => ?_⟩
    exact ⟨s, rfl, by omega, os, Or.inr ⟨rfl, hk⟩⟩
  have e0 : [] ++ List.filterMap (fun _ => (none : Option D)) (rangeD 0 8) = [] := by simp
  rw [e0]
  refine dNe_lst0 (a := []) (fun _ h => (by cases h)) (Or.inl ⟨rfl, ?_⟩)
  refine ⟨sz1, ?_⟩
  unfold dD0
  refine ⟨sz1, by decide, ⟨_, rfl, by simp, Nat.le_trans (show 8 ≤ 8 from Nat.le_refl 8) (by decide), fun b hb => ⟨rfl, fun o ho => ⟨by decide, _, _, ⟨rfl, rfl⟩, _, _, rfl, rfl, ?_⟩⟩⟩⟩
  have hb : ∃ a, tyN b = some a := by
    simp only [List.mem_cons, List.not_mem_nil, or_false] at hb
    rcases hb with rfl | rfl | rfl | rfl | rfl | rfl | rfl | rfl <;> exact ⟨_, rfl⟩
  obtain ⟨a, ha⟩ := hb
  have rp : ∀ x ∈ ([("reader" : Str), "parse"] : List Str), PySem.PyData.strOk x = true := by decide +kernel
  have fin : dEq (D.lst ([("reader" : Str), "parse"].map D.str)) (D.lst ([("reader" : Str), "parse"].map D.str)) R := dEq_lstS rp rp (by rw [decide_eq_true rfl]; exact h)
  refine Or.inr ⟨b, a, rfl, ha, ⟨_, rfl, "reader", Or.inl ⟨rfl, rfl⟩, by decide, by decide, ?_⟩⟩
  rcases ho with ⟨t, rfl, ht, ok, hn⟩ | ⟨c, hc, hn⟩
  · exact Or.inl ⟨t, rfl, by omega, ok, fun ls' e' => (by rw [hn] at e'; cases e'), fun _ => ⟨_, rfl, "parse", Or.inr ⟨rfl, rfl⟩, by decide, fin⟩⟩
  · exact Or.inr ⟨o, c, rfl, hc, hn, ⟨_, rfl, "parse", Or.inr ⟨rfl, rfl⟩, by decide, fin⟩⟩

end
end K82

/-! The data layer, part 22: the law's own def. -/
namespace DL
open PySem PySem.Spec PyProof.Rows L2
/-- the promise of the law: True at every script of so many ints -/
def SpLaw (K : PySem.W.Frag) (n : Nat) : Sp := fun vs H Q _ => ∃ (a : Addr) (ns : List Int), vs = [.ref a] ∧ SqL K H a (ns.map V.int) ∧ ns.length ≤ n ∧ LamX.Tabs (TBS K) H ∧ ∀ H', Q (.bl true) H'
theorem ScA.of {K : PySem.W.Frag} {H : Hp} {a : Addr} {ns : List Int} (h : SqL K H a (ns.map V.int)) : ScA K (Cz.all K) H a ns := h.elim (fun h => .inl ⟨h, fun q => q⟩) .inr
section
variable {P : Program} {w : World} {K : PySem.W.Frag} {mg : Str → Option Value} {base : Heap} {x p : Str} {st : Stmt} {N : List Str} {k n : Nat}
theorem law_of {f : Addr} {fd : FuncData} (hF : Fun K x x st f fd) (hc : fd.code = .ref (He.cT K (x, none)).1) (S : FnScope N [p] (defScope st))
    (body : ∀ (f : Addr) (A : Around) (outer : List Env) (s : Shared) (H : Hp) (E : XK), Room k (A.deeper (envOfC x (defScope st) s.heap.objs.size f (.ref (He.cT K (x, none)).1))) →
      ∃ fb, PSs (cxOf CX0 P w K mg base N x (defScope st) f (.ref (He.cT K (x, none)).1) A outer s H E).nox (defBody st) (upS0 K W0 fb) ∧ ∀ ns : List Int, ns.length ≤ n → fb (startM N.length [.scr ns]) { nx := fun _ => False, rt := fun d => d = .bl true } (fun _ _ => False)) :
    FnOk P w K mg base CX0 (k + 1) f fd [p] (SpLaw K n) := by
  obtain ⟨oc, od, kV, doc, pm, an, cdv, ct, osl, e, lk, hcd⟩ := hF.ex
  subst e
  have hc : cdv = .ref (He.cT K (x, none)).1 := hc
  subst hc
  refine fn_of lk hcd S (fun vs H Q E ⟨a, ns, hv, _⟩ => by rw [hv]; rfl) (fun A outer s H vs Q E hr h => ?_)
  obtain ⟨fb, hd, hp⟩ := body f A outer s H E hr
  obtain ⟨a, ns, rfl, hs, hl, ht, hq⟩ := h
  have ok : Ok (Cz.all K) H := ok_all ht
  have r : RpAll K (Cz.all K) H [V.ref a] [.scr ns] := .cons (.scr (.of hs)) .nil
  refine ⟨_, hd.nox, startM N.length [.scr ns], _, _, ok, Sm.start r, hp ns hl, ⟨fun _ _ _ q => q.elim, fun d v H' q ev r => ?_, fun _ _ _ q => q.elim, fun _ _ _ q => q.elim, fun _ _ _ _ _ _ q => q.elim⟩⟩
  subst q
  cases r
  exact hq H'
end
end DL

namespace K82
open PySem PySem.Spec PyProof.Rows L2 DL
open TL

local macro_rules
  | `(tactic| walk_at "dl") => `(tactic| simp [dRet, dRetN, dAnd, dOr, dNot, dIf, dCB, dChain, dBin, dC, dVar, dCons, dNil, dStar, dTup, dLst, dSl, dPart, dNoPart, qIxL, qIxT, qIxS, qIxD, qIxR, qLenR, qLenS, qLenT, qLenL, qCutL, qCutT, qCutS, qAddI, qAddS, qAddT, qAddL, qSub, qMulI, qMulT, qMulL, qMod, qFdiv, qLtI, qLtS, qLeI, qLeS, qGtI, qGeI, qGtS, qGeS, qIntI, qIntB, qIntS, qLst1, qLst2, qTup1, qTup2, qStrI, qStrS, qIs1, qIs2, qIs3, qIs4, qIs5, qIs6, qIs7, qIs8, qIs9, qIs10, qIs11, qIs12, qIs13, qIs14, qIs15, qIs16, qIs17, qIs18, qIs19, qIs20, qIs21, qIs22, qIs23, qIs24, qIs25, qIs26, qIs27, qIs28, qIs29, qIs30, qIs31, qIs32, qIs33, qIs34, qIs35, qPowW, qAbs, qMax2, qMin2, qMulS, qLstS, qLstUL, qLstUT, atI_0, atI_1, atI_2, atI_3, atI_m1, dIsN, dNotN, DL.isNon, dNotT, dAndT, dOrT, dBoolT, dCmpT, dIfS, dSeq, dDrop, dAsg, dAsgS, mTup, mCons, mNil, mName, dNext, dBreak, dCont, dPar, dMatch, dCase, dCasesNil, dCall, dLstI, dTupI, dStrI, dRng1, dRng2, dFor, dM1, isStrD, isLstD, startM, shw, hid, SD.shw, SD.hid, dLc, stepD, wipeD, dName, dTrue, signsD, qKs, qKi, eq_strI, eq_intI, ne_strI, ne_intI, in_str2, in_sg, dIn, dNotIn, dNegI, dRaise, seqOf])

abbrev s_law_dice : Stmt := top 44
abbrev N_law_dice : List Str := ["_law_script", "_law_at", "_law_cell", "_law_great", "_law_mixed_here"]
theorem sc_law_dice : FnScope N_law_dice ["_law_script", "_law_at"] (defScope s_law_dice) := ⟨rfl, rfl, rfl, by decide +kernel, rfl, by decide +kernel, by decide +kernel⟩


def g_dice (ds : List D) : Prop := ∃ (ns : List Int) (i : Int), ds = [.scr ns, .int i] ∧ 0 ≤ i ∧ i ≤ 5
theorem g_dice_len {ds} (h : g_dice ds) : ds.length = 2 := by obtain ⟨_, _, rfl, _⟩ := h; rfl
section

variable {P : Program} {w : World} {K : PySem.W.Frag} {mg : Str → Option Value} {base : Heap}

theorem ok_law_dice (T : Txt K mg) (F : FD K mg "_law_dice" s_law_dice ["_law_script", "_law_at"]) : ∃ f fd, FnOk P w K mg base CX0 4 f fd ["_law_script", "_law_at"] (SpDie K g_dice) ∧ mg "_law_dice" = some (.ref f) ∧ PySem.W.keepIn K (.ref f) = true ∧ Binds K fd ["_law_script", "_law_at"] [] := by
  refine die_of F sc_law_dice (fun ds h => g_dice_len h) (fun f cdv A outer s H E hr => ?_)
  refine ⟨_, (pdf_cons (pds_set (i := 2) sc_law_dice.nd rfl (Or.inl rfl) (pd_op op_addU opd_add (pd_op op_mulU opd_mul pd_int (pd_var (pv 1))) pd_int))
    (pdf_cons (pds_if (pdt_cmp op_ltU opd_lt (pd_var (pv 1)) (pd_callB cd_len call_len rfl T.n_len bb_len (pda_cons (pd_var (pv 0)) pda_nil)) (nomark _)) (pds_one (pds_set (i := 2) sc_law_dice.nd rfl (Or.inl rfl) (pd_ix (pd_var (pv 0)) (pd_var (pv 1))))) pds_nil)
    (pdf_cons (pds_set (i := 3) sc_law_dice.nd rfl (Or.inl rfl) (pd_op op_mod opd_mod (pd_callTy cd_int call_intU rfl T.n_int bb_int (pda_cons (pd_callB cd_abs call_abs rfl T.n_abs bb_abs (pda_cons (pd_var (pv 2)) pda_nil)) pda_nil)) (pd_op op_powW opd_powW (pd_op op_powW opd_powW pd_int pd_int) pd_int)))
    (pdf_cons (pds_set (i := 4) sc_law_dice.nd rfl (Or.inl rfl) (pd_op op_addU opd_add (pd_op op_addU opd_add (pd_op op_addU opd_add (pd_op op_mulU opd_mul (pd_op op_mod opd_mod (pd_callTy cd_int call_intU rfl T.n_int bb_int (pda_cons (pd_var (pv 3)) pda_nil)) pd_int) pd_int) (pd_op op_mulU opd_mul pd_int (pd_var (pv 1)))) (pd_op op_mulU opd_mul pd_int (pd_callTy cd_int call_intU rfl T.n_int bb_int (pda_cons (pd_cmp op_ltU opd_lt (pd_var (pv 2)) pd_int (nomark _)) pda_nil)))) pd_int))
    (pdf_ret (pda_cons (pd_callB cd_max2 (call_max2 rfl) rfl T.n_max bb_max (pda_cons pd_int (pda_cons (pd_op op_sub opd_sub (pd_var (pv 3)) (pd_op op_powW opd_powW pd_int pd_int)) pda_nil))) (pda_cons (pd_op op_mod opd_mod (pd_callTy cd_int call_intU rfl T.n_int bb_int (pda_cons (pd_var (pv 4)) pda_nil)) pd_int) (pda_cons pd_int pda_nil)))))))), ?_⟩
  rintro ds ⟨ns, i, rfl, i0, i1⟩
  walk_at "dl"
  have c1 : ∀ {a b : Int}, -(2 ^ 64) < a → a < 2 ^ 64 → (CMul a b ∨ CMulW a b) := fun h1 h2 => Or.inl (Or.inl ⟨h1, h2⟩)
  have c2 : ∀ {a b : Int}, -(2 ^ 64) < b → b < 2 ^ 64 → (CMul a b ∨ CMulW a b) := fun h1 h2 => Or.inl (Or.inr ⟨h1, h2⟩)
  have p1 : CPowW 10 59 := ⟨by decide, by decide +kernel⟩
  have p2 : CPowW 100000000000000000000000000000000000000000000000000000000000 11 := ⟨by decide, by decide +kernel⟩
  have p3 : CPowW 10 18 := ⟨by decide, by decide +kernel⟩
  refine ⟨c1 (by decide) (by decide), ?_⟩
  by_cases q : (ns.length : Int) ≤ i
  · exact Or.inl ⟨q, p1, p2, c2 (by decide) (by decide), c1 (by decide) (by decide), c1 (by decide) (by decide), p3, by decide⟩
  · have hj : i.toNat < ns.length := by omega
    refine Or.inr ⟨by omega, ns[i.toNat], ?_, p1, p2, c2 (by decide) (by decide), c1 (by decide) (by decide), c1 (by decide) (by decide), p3, by decide⟩
    have e : atI ns ((i.toNat : Nat) : Int) = some ns[i.toNat] := by rw [DL.atI_nat]; exact List.getElem?_eq_getElem hj
    rwa [show ((i.toNat : Nat) : Int) = i by omega] at e
end
end K82

namespace K82
open PySem PySem.Spec PyProof.Rows L2 DL
open TL

local macro_rules
  | `(tactic| walk_at "dl") => `(tactic| simp [dRet, dRetN, dAnd, dOr, dNot, dIf, dCB, dChain, dBin, dC, dVar, dCons, dNil, dStar, dTup, dLst, dSl, dPart, dNoPart, qIxL, qIxT, qIxS, qIxD, qIxR, qLenR, qLenS, qLenT, qLenL, qCutL, qCutT, qCutS, qAddI, qAddS, qAddT, qAddL, qSub, qMulI, qMulT, qMulL, qMod, qFdiv, qLtI, qLtS, qLeI, qLeS, qGtI, qGeI, qGtS, qGeS, qIntI, qIntB, qIntS, qLst1, qLst2, qTup1, qTup2, qStrI, qStrS, qIs1, qIs2, qIs3, qIs4, qIs5, qIs6, qIs7, qIs8, qIs9, qIs10, qIs11, qIs12, qIs13, qIs14, qIs15, qIs16, qIs17, qIs18, qIs19, qIs20, qIs21, qIs22, qIs23, qIs24, qIs25, qIs26, qIs27, qIs28, qIs29, qIs30, qIs31, qIs32, qIs33, qIs34, qIs35, qPowW, qAbs, qMax2, qMin2, qMulS, qLstS, qLstUL, qLstUT, atI_0, atI_1, atI_2, atI_3, atI_m1, dIsN, dNotN, DL.isNon, dNotT, dAndT, dOrT, dBoolT, dCmpT, dIfS, dSeq, dDrop, dAsg, dAsgS, mTup, mCons, mNil, mName, dNext, dBreak, dCont, dPar, dMatch, dCase, dCasesNil, dCall, dLstI, dTupI, dStrI, dRng1, dRng2, dFor, dM1, isStrD, isLstD, startM, shw, hid, SD.shw, SD.hid, dLc, stepD, wipeD, dName, dTrue, signsD, qKs, qKi, eq_strI, eq_intI, ne_strI, ne_intI, in_str2, in_sg, dIn, dNotIn, dNegI, dRaise, seqOf])

abbrev s_law : Stmt := top 63
abbrev N_law : List Str := ["_law_script", "_law_at", "_law_dice_here", "_law_turn", "_law_thing", "_law_text", "_law_many", "_law_six", "_law_some", "_law_told", "_law_sign"]
theorem sc_law : FnScope N_law ["_law_script"] (defScope s_law) := ⟨rfl, rfl, rfl, by decide +kernel, rfl, by decide +kernel, by decide +kernel⟩


def thingL : List Ln := [⟨["read", "go", "if"], none⟩, ⟨["look", "read", "look"], none⟩, ⟨["if", "if", "go"], some 4⟩, ⟨["go"], some 0⟩]
def T0 : Str := "read go if\nlook read look\nif if go 4\ngo 0"
theorem v0 : validR thingL = true := by decide +kernel
theorem t0 : textR thingL = T0 := by decide +kernel
def L16 : List Ln := List.replicate 16 ⟨["go"], some 16⟩
def T16 : Str := Txt.join "\n" (List.replicate 16 "go 16")
theorem v16 : validR L16 = true := by decide +kernel
theorem t16 : textR L16 = T16 := by decide +kernel
def six (c : Nat) : Str := "if a " ++ sg c ++ " 0"
def L6 : List Ln := [97, 98, 99, 100, 101, 102].map fun c => ⟨["if", "a", sg c], some 0⟩
def T6 : Str := Txt.join "\n" ([97, 98, 99, 100, 101, 102].map six)
theorem v6 : validR L6 = true := by decide +kernel
theorem t6 : textR L6 = T6 := by decide +kernel
theorem n6 : nTested L6 = 6 := by decide +kernel
theorem vR0 : validR [] = true := by decide +kernel
theorem wf_of {ls : List Ln} (hv : validR ls = true) : ∀ l ∈ ls, l.Wf := fun l hl => by
  unfold validR at hv
  simp only [Bool.and_eq_true, decide_eq_true_eq, List.all_eq_true] at hv
  exact okL_wf (hv.2.1 l hl)
theorem ask_text {K : PySem.W.Frag} {ls : List Ln} {P : PQ} (hv : validR ls = true) (p : P (.str (textR ls))) : p_reader_text K [rdD K ls] P (fun _ => False) := Or.inl ⟨ls, rfl, wf_of hv, hv, p⟩
theorem ask_read {K : PySem.W.Frag} {t : Str} {ls : List Ln} {P : PQ} (hv : validR ls = true) (e : textR ls = t) (p : P (rdD K ls)) : p_read_reader K [.str t] P (fun _ => False) := by
  obtain ⟨h1, h2⟩ := textR_tx (wf_of hv) hv
  subst e
  have sz : sizeLine = 16777216 := by decide
  have rt := rd_text hv
  exact Or.inl ⟨_, rfl, by omega, h2, fun ls' e => (by rw [rt] at e; cases e; exact p), fun e => (by rw [rt] at e; cases e)⟩
theorem ask_eq {K : PySem.W.Frag} {ls : List Ln} {P : PQ} (hv : validR ls = true) (p : P (.bl true)) : p_eq K [rdD K ls, rdD K ls] P := ⟨ls, ls, rfl, wf_of hv, wf_of hv, by rw [decide_eq_true rfl]; exact p⟩
theorem init_thing : g_init [D.tup [D.str "read", D.str "go", D.str "if"], D.tup [D.str "look", D.str "read", D.str "look"], D.tup [D.str "if", D.str "if", D.str "go", D.int 4], D.tup [D.str "go", D.int 0]] [lnsD thingL] := ⟨thingL, rfl, wf_of v0, v0, rfl⟩
theorem init_none : g_init [] [lnsD []] := ⟨[], rfl, wf_of vR0, vR0, rfl⟩
theorem fold_app {α : Type} (a : Array α) : ∀ (n : Nat) (acc : Array α), ((List.replicate n a).foldl (· ++ ·) acc).toList = acc.toList ++ (List.replicate n a.toList).flatten
  | 0, acc => by simp
  | n + 1, acc => by
    rw [List.replicate_succ, List.foldl_cons, fold_app a n, List.replicate_succ, List.flatten_cons, Array.toList_append, List.append_assoc]
theorem tl_rep (c n : Nat) : tl (repS (sg c) n) = List.replicate n c := by
  show ((List.replicate n (sg c).cps).foldl (· ++ ·) #[]).toList = _
  rw [fold_app]
  show ([] : List Nat) ++ (List.replicate n [c]).flatten = _
  rw [List.nil_append]
  induction n with
  | zero => rfl
  | succ n ih => rw [List.replicate_succ, List.replicate_succ, List.flatten_cons, ih]; rfl
theorem rep_tx (c n : Nat) : (repS (sg c) n).length = n ∧ ∀ d ∈ tl (repS (sg c) n), d = c := by
  rw [len_tl, tl_rep, List.length_replicate]
  exact ⟨rfl, fun d hd => List.eq_of_mem_replicate hd⟩
theorem tl_go : tl ("go " : Str) = [103, 111, 32] := by decide +kernel
theorem rd_go {y : Str} (hy : ∀ c ∈ tl y, c = 48 ∨ c = 57) (hl : 40 < y.length) : rd ("go " ++ y) = none := by
  have e1 : ("go " : Str) ++ y = Txt.join " " ["go", y] := by
    refine ext_tl ?_
    rw [join_eq, tl_join, tl_append, tl_go, bl_tl]
    have e2 : tl ("go" : Str) = [103, 111] := by decide +kernel
    show _ = tl "go" ++ ([32] ++ tl y)
    rw [e2]
    rfl
  have w1 : Txt.split ("go " ++ y) " " = (["go", y] : List Str) := by
    rw [e1]
    refine split_join bl_tl bl_k (by simp) fun p hp => ?_
    simp only [List.mem_cons, List.not_mem_nil, or_false] at hp
    rcases hp with rfl | rfl
    · exact (free_go (.inr rfl)).1
    · intro h
      have := hy _ h
      omega
  have w2 : Txt.split ("go " ++ y) "\n" = (["go " ++ y] : List Str) := by
    have e3 : Txt.join "\n" ["go " ++ y] = "go " ++ y := by rw [join_eq]; rfl
    have := split_join (ps := ["go " ++ y]) nl_tl nl_k (by simp) fun p hp => by
      cases List.mem_singleton.mp hp
      rw [tl_append, tl_go]
      intro h
      rcases List.mem_append.mp h with h | h
      · revert h; decide
      · have := hy _ h
        omega
    rwa [e3] at this
  have ne : ("go " : Str) ++ y ≠ "" := fun e => by
    have := congrArg Str.length e
    rw [len_tl, tl_append, tl_go, List.length_append] at this
    have z : ("" : Str).length = 0 := by decide +kernel
    rw [z] at this
    simp at this
  unfold rd wordsOf
  rw [if_neg ne, w2]
  show (match List.mapM lineOf [Txt.split ("go " ++ y) " "] with
    | none => none
    | some ls => if (validR ls && decide (textR ls = "go " ++ y)) = true then some ls else none) = none
  rw [w1]
  have n1 : isNum y = false := by
    unfold isNum
    rw [decide_eq_false (show ¬ y.length ≤ 40 by omega), Bool.false_and, Bool.and_false]
  have l1 : lineOf ["go", y] = none := by
    rw [lineOf_cons, if_pos (by decide +kernel)]
    show (if isNum y = true then _ else none) = none
    rw [n1]
    rfl
  rw [List.mapM_cons, l1]
  rfl
theorem go_tx {c n : Nat} (hc : c = 48 ∨ c = 57) (h1 : 40 < n) (h2 : n ≤ 5000) : ("go " ++ repS (sg c) n : Str).length ≤ 6000 ∧ okS ("go " ++ repS (sg c) n) ∧ rd ("go " ++ repS (sg c) n) = none := by
  obtain ⟨l, m⟩ := rep_tx c n
  refine ⟨?_, okS_iff.mpr fun d hd => ?_, rd_go (fun d hd => by rw [m d hd]; exact hc) (by omega)⟩
  · rw [len_tl, tl_append, tl_go, List.length_append, ← len_tl, l]
    simp only [List.length_cons, List.length_nil]
    omega
  · rw [tl_append, tl_go] at hd
    rcases List.mem_append.mp hd with hd | hd
    · simp only [List.mem_cons, List.not_mem_nil, or_false] at hd
      omega
    · have := m d hd
      omega
theorem nine : (Str.ofString "9") = sg 57 := by decide +kernel
theorem zero0 : (Str.ofString "0") = sg 48 := by decide +kernel
theorem len9 : (repS (Str.ofString "9") 5000).length = 5000 := by rw [nine]; exact (rep_tx 57 5000).1
theorem len0 : (repS (Str.ofString "0") 41).length = 41 := by rw [zero0]; exact (rep_tx 48 41).1
theorem go9 : ("go " ++ repS (Str.ofString "9") 5000 : Str).length ≤ 6000 ∧ okS ("go " ++ repS (Str.ofString "9") 5000) ∧ rd ("go " ++ repS (Str.ofString "9") 5000) = none := by rw [nine]; exact go_tx (.inr rfl) (by decide) (by decide)
theorem go0 : ("go " ++ repS (Str.ofString "0") 41 : Str).length ≤ 6000 ∧ okS ("go " ++ repS (Str.ofString "0") 41) ∧ rd ("go " ++ repS (Str.ofString "0") 41) = none := by rw [zero0]; exact go_tx (.inl rfl) (by decide) (by decide)
theorem bad_texts (x : D) (h : x ∈ [D.str (T16 ++ "\ngo 16"), D.str (T6 ++ "\nif a g 0"), D.str "go 2", D.str "go -1", D.str "go 00", D.str "go +0", D.str "go 0_0", D.str "go", D.str "go 0 ", D.str " go 0", D.str "read a", D.str "read a b c", D.str "read A b", D.str "read a  b", D.str "look a b\n", D.str "if a b", D.str "if a b c", D.str "if a b 01", D.str "go 0\n\ngo 0", D.str "Go 0", D.str ("go " ++ repS (Str.ofString "0") 41), D.str ("go " ++ repS (Str.ofString "9") 5000), D.str "read abcdefghi b", D.str "IF a b 0", D.str "read a b 0", D.str "go a", D.str "\n", D.str "go 0\n", D.str " ", D.str "go 0 0"]) : ∃ t : Str, x = .str t ∧ t.length ≤ 6000 ∧ okS t ∧ rd t = none := by
  simp only [List.mem_cons, List.not_mem_nil, or_false] at h
  rcases h with h | h | h | h | h | h | h | h | h | h | h | h | h | h | h | h | h | h | h | h | h | h | h | h | h | h | h | h | h | h
  all_goals subst h
  rotate_left 20
  · exact ⟨_, rfl, go0⟩
  · exact ⟨_, rfl, go9⟩
  all_goals exact ⟨_, rfl, by decide +kernel, by unfold okS; decide +kernel, by decide +kernel⟩
theorem forD_items {p : Nat} {body : DSt} {e : MEnds} {E : XD → MS → Prop} (δ0 : MS) : ∀ (xs : List D), (∀ x ∈ xs, ∀ e' : MEnds, e'.nx (δ0.set p (some (.dat x))) → body (δ0.set p (some (.dat x))) e' E) → (∀ δ, e.nx δ) → dForL (mName p) body xs δ0 e E := by
  have key : ∀ (xs : List D) (δ : MS), (∀ y, δ.set p y = δ0.set p y) → (∀ x ∈ xs, ∀ e' : MEnds, e'.nx (δ0.set p (some (.dat x))) → body (δ0.set p (some (.dat x))) e' E) → (∀ δ, e.nx δ) → dForL (mName p) body xs δ e E := by
    intro xs
    induction xs with
    | nil => exact fun δ _ _ h => h δ
    | cons x xs ih =>
      intro δ hδ hs hk
      show body (δ.set p (some (.dat x))) _ E
      rw [hδ]
      refine hs x List.mem_cons_self _ ?_
      exact ih _ (fun y => by rw [List.set_set]) (fun z hz => hs z (List.mem_cons_of_mem _ hz)) hk
  exact fun xs => key xs δ0 (fun _ => rfl)
theorem rangeD0_at {n j : Nat} {x : D} (h : (rangeD 0 n)[j]? = some x) : j < n ∧ x = .int (j : Nat) := by
  have h1 := (List.getElem?_eq_some_iff.mp h).1
  rw [rangeD_len] at h1
  refine ⟨h1, ?_⟩
  unfold rangeD at h
  rw [List.getElem?_map, List.getElem?_range h1] at h
  have := Option.some.inj h
  rw [← this]
  show D.int (0 + (j : Int)) = _
  rw [Int.zero_add]

section
variable {P : Program} {w : World} {K : PySem.W.Frag} {mg : Str → Option Value} {base : Heap}

theorem ok_law (T : Txt K mg) {f0 : Addr} {fd0 : FuncData} (F : Fun K "law" "law" s_law f0 fd0) (hc0 : fd0.code = .ref (He.cT K ("law", none)).1) (c_read_reader : CalG P w K mg base (L2.CX P w) 11 "read_reader" ["text"] (p_read_reader K)) (c_law_right : Cal P w K mg base 14 "_law_right" ["_law_dice_here"] p_law_right) (c_reader_text : CalG P w K mg base (L2.CX P w) 5 "reader_text" ["reader"] (p_reader_text K)) (dice : ∃ f fd, FnOk P w K mg base CX0 4 f fd ["_law_script", "_law_at"] (SpDie K g_dice) ∧ mg "_law_dice" = some (.ref f) ∧ PySem.W.keepIn K (.ref f) = true ∧ Binds K fd ["_law_script", "_law_at"] []) (FM : FD K mg "_law_met" s_law_met ["_law_call"]) (B : Tbl K mg base)
    (hI : FnR P w K mg base CX0 8 (mt K "Reader" "__init__") (SpMk K (ca K "Reader") ["own_lines"] g_init))
    (m_lines : MetG P w K mg base CX0 4 (He5.wf K (ca K "Reader") "property" "lines") ["self"] (fun ds R _ => p_lines K ds R)) (m_tested : MetG P w K mg base CX0 5 (He5.wf K (ca K "Reader") "property" "tested") ["self"] (fun ds R _ => p_tested K ds R)) (m_eq : MetG P w K mg base CX0 4 (mt K "Reader" "__eq__") ["self", "other"] (fun ds R _ => p_eq K ds R)) :
    FnOk P w K mg base CX0 31 f0 fd0 ["_law_script"] (SpLaw K 63) := by
  obtain ⟨fDi, fdDi, FDi, mDi, kDi, bDi⟩ := dice
  refine law_of F hc0 sc_law (fun f A outer s H E hr => ?_)
  refine ⟨_, (pds0_cons (pds0_for PassesOwn.never rfl (pdi_rng1 (pi_range1 rfl T.n_range (pda_cons (pd_callB cd_max2 (call_max2 rfl) rfl T.n_max bb_max (pda_cons pd_int (pda_cons (pd_callB cd_min2 (call_min2 rfl) rfl T.n_min bb_min (pda_cons pd_int (pda_cons (pd_callB cd_len call_len rfl T.n_len bb_len (pda_cons (pd_var (pv 0)) pda_nil)) pda_nil))) pda_nil))) pda_nil))) (pdg_name (pg_name (i := 1) sc_law.nd rfl (Or.inl rfl))) (pds0_dice (i := 2) sc_law.nd rfl (Or.inl rfl) FDi (hr.mono (by decide)) mDi kDi bDi (pda_cons (pd_var (pv 0)) (pda_cons (pd_var (pv 1)) pda_nil)) (pds_one (pds_for PassesOwnAt.never rfl (pdi_rng1 (pi_range1 rfl T.n_range (pda_cons pd_int pda_nil))) (pdg_name (pg_name (i := 3) sc_law.nd rfl (Or.inl rfl))) (pds_one (pds_if (pdt_not (pdt_val (pd_cal c_law_right (hr.mono (by decide)) (pda_cons (pd_var (pv 2)) pda_nil)))) (pds_one (pds_ret pd_bl)) pds_nil))))))
   (pds0_of (pds_cons (pds_set (i := 4) sc_law.nd rfl (Or.inl rfl) (pd_make T.R.mkr hI (hr.mono (by decide)) rfl T.g_Reader (pda_cons (pd_tup (pda_cons pd_str (pda_cons pd_str (pda_cons pd_str pda_nil)))) (pda_cons (pd_tup (pda_cons pd_str (pda_cons pd_str (pda_cons pd_str pda_nil)))) (pda_cons (pd_tup (pda_cons pd_str (pda_cons pd_str (pda_cons pd_str (pda_cons pd_int pda_nil))))) (pda_cons (pd_tup (pda_cons pd_str (pda_cons pd_int pda_nil))) pda_nil))))))
    (pds_cons (pds_set (i := 5) sc_law.nd rfl (Or.inl rfl) pd_str)
    (pds_cons (pds_if (PW.pt (pdw_or (pdt_cmp (op_neU hr) opd_ne (pd_lst (pda_cons (pd_cal c_reader_text.calm (hr.mono (by decide)) (pda_cons (pd_var (pv 4)) pda_nil)) (pda_cons (pd_cal c_reader_text.calm (hr.mono (by decide)) (pda_cons (pd_make0 T.R.mkr hI (hr.mono (by decide)) rfl T.g_Reader) pda_nil)) pda_nil))) (pd_lst (pda_cons (pd_var (pv 5)) (pda_cons pd_str pda_nil))) (nomark _)) (pdw_or1 (pdt_cmp (op_ownNe m_eq (hr.mono (by decide)) T.R.ne T.R.sub T.R.eqm T.R.eqf) opd_own (pd_cal c_read_reader.calm (hr.mono (by decide)) (pda_cons (pd_var (pv 5)) pda_nil)) (pd_var (pv 4)) (nomark _))))) (pds_one (pds_ret pd_bl)) pds_nil)
    (pds_cons (pds_if (pdt_cmp (op_ownNe m_eq (hr.mono (by decide)) T.R.ne T.R.sub T.R.eqm T.R.eqf) opd_own (pd_cal c_read_reader.calm (hr.mono (by decide)) (pda_cons pd_str pda_nil)) (pd_make0 T.R.mkr hI (hr.mono (by decide)) rfl T.g_Reader) (nomark _)) (pds_one (pds_ret pd_bl)) pds_nil)
    (pds_cons (pds_set (i := 6) sc_law.nd rfl (Or.inl rfl) (pd_m1 md_join (pe_join pd_str (pd_op op_mulU opd_mul (pd_lst (pda_cons pd_str pda_nil)) pd_int))))
    (pds_cons (pds_set (i := 7) sc_law.nd rfl (Or.inl rfl) (pd_m1 md_join (pe_join pd_str (pd_lc (own := [("_law_sign", 10)]) (g := (gName 10)) (gd := (dName 10)) rfl sc_law.nd (pdi_str pd_str) (blkOk_by (N := N_law) (sc := (defScope s_law)) (own := [("_law_sign", 10)]) (by decide +kernel)) (fun _ _ _ _ _ => (pg_name (i := 10) sc_law.nd rfl (Or.inl rfl))) tgw_name (fun _ _ _ _ _ => pdts_nil) (fun _ _ _ _ _ => (pd_op op_addU opd_add (pd_op op_addU opd_add pd_str (pd_var (pv 10))) pd_str))))))
    (pds_cons (pds_if (PW.pt (pdw_or (pdt_cmp (op_neU hr) opd_ne (pd_prop (pd_cal c_read_reader.calm (hr.mono (by decide)) (pda_cons (pd_var (pv 6)) pda_nil)) T.R.cls T.R.lines m_lines (hr.mono (by decide))) (pd_op op_mulU opd_mul (pd_tup (pda_cons (pd_tup (pda_cons pd_str (pda_cons pd_int pda_nil))) pda_nil)) pd_int) (nomark _)) (pdw_or1 (pdt_cmp (op_neU hr) opd_ne (pd_callB cd_len call_len rfl T.n_len bb_len (pda_cons (pd_prop (pd_cal c_read_reader.calm (hr.mono (by decide)) (pda_cons (pd_var (pv 7)) pda_nil)) T.R.cls T.R.tested m_tested (hr.mono (by decide))) pda_nil)) pd_int (nomark _))))) (pds_one (pds_ret pd_bl)) pds_nil)
    (pds_cons (pds_set (i := 8) sc_law.nd rfl (Or.inl rfl) (pd_lst (pda_cons (pd_op op_addU opd_add (pd_var (pv 6)) pd_str) (pda_cons (pd_op op_addU opd_add (pd_var (pv 7)) pd_str) (pda_cons pd_str (pda_cons pd_str (pda_cons pd_str (pda_cons pd_str (pda_cons pd_str (pda_cons pd_str (pda_cons pd_str (pda_cons pd_str pda_nil))))))))))))
    (pds_cons (pds_set (i := 8) sc_law.nd rfl (Or.inl rfl) (pd_op op_addU opd_add (pd_var (pv 8)) (pd_lst (pda_cons pd_str (pda_cons pd_str (pda_cons pd_str (pda_cons pd_str (pda_cons pd_str (pda_cons pd_str (pda_cons pd_str (pda_cons pd_str pda_nil)))))))))))
    (pds_cons (pds_set (i := 8) sc_law.nd rfl (Or.inl rfl) (pd_op op_addU opd_add (pd_var (pv 8)) (pd_lst (pda_cons pd_str (pda_cons pd_str (pda_cons (pd_op op_addU opd_add pd_str (pd_op op_mulS opd_mulS pd_str pd_int)) (pda_cons (pd_op op_addU opd_add pd_str (pd_op op_mulS opd_mulS pd_str pd_int)) (pda_cons pd_str (pda_cons pd_str pda_nil)))))))))
    (pds_cons (pds_set (i := 8) sc_law.nd rfl (Or.inl rfl) (pd_op op_addU opd_add (pd_var (pv 8)) (pd_lst (pda_cons pd_str (pda_cons pd_str (pda_cons pd_str (pda_cons pd_str (pda_cons pd_str (pda_cons pd_str pda_nil)))))))))
    (pds_cons (pds_for PassesOwnAt.never rfl (pdi_list (pd_var (pv 8))) (pdg_name (pg_name (i := 9) sc_law.nd rfl (Or.inr rfl))) (pds_one (pds_if (pdt_cmp (op_neU hr) opd_ne (pd_told (k := 11) T FM rfl B.law rfl cx_qual m_law B.u_law (hr.mono (by decide)) (LamX.lamS_by (sc := defScope s_law) (by decide +kernel)) rfl (fun _ _ _ _ _ => rfl) (fun A1 o1 s1 H1 E1 f1 c1 hr1 => (pd_calP c_read_reader (fun σ => passAt (L2.takes_of rfl rfl rfl rfl) σ) (hr1.mono (by decide)) (pda_cons (pd_var (pv 9)) pda_nil)))) pd_str (nomark _)) (pds_one (pds_ret pd_bl)) pds_nil)))
    (pds_one (pds_ret pd_bl)))))))))))))))), ?_⟩
  intro ns hns
  unfold dMulS dMet dOwnC dProp dMake dDice
  walk_at "dl"
  have hb : ∀ x : Int, x = (if 1 < if (ns.length : Int) < 5 then (ns.length : Int) else 5 then if (ns.length : Int) < 5 then (ns.length : Int) else 5 else 1) → 1 ≤ x ∧ x ≤ 5 := fun x hx => by
    rw [hx]
    split <;> split <;> omega
  generalize (if 1 < if (ns.length : Int) < 5 then (ns.length : Int) else 5 then if (ns.length : Int) < 5 then (ns.length : Int) else 5 else 1) = m at hb ⊢
  obtain ⟨m1, m2⟩ := hb m rfl
  refine ⟨by omega, by omega, ?_⟩
  refine forD_any (I := fun i δ => ∃ a c : Option Int, δ = [some (.dat (.scr ns)), a.map (fun i => .dat (.int i)), none, c.map (fun i => .dat (.int i)), none, none, none, none, none, none, none]) (rangeD 0 m.toNat) 0 _ ⟨none, none, rfl⟩ (fun j x δ e' hx hi hn _ _ _ => ?_) (fun δ' hi => ?_)
  · obtain ⟨a, c, rfl⟩ := hi
    have hj := rangeD0_at hx
    obtain ⟨hj, rfl⟩ := hj
    unfold mName
    have hj : j < 5 := by omega
    refine ⟨fun i s h => ?_, ⟨ns, j, rfl, by omega, by omega⟩, ?_⟩
    · cases c with
      | none =>
        match i, h with
        | 0, h => cases h; exact ⟨_, rfl⟩
        | 1, h => cases h; exact ⟨_, rfl⟩
        | 2, h => cases h
        | 3, h => cases h
        | 4, h => cases h
        | 5, h => cases h
        | 6, h => cases h
        | 7, h => cases h
        | 8, h => cases h
        | 9, h => cases h
        | 10, h => cases h
        | i + 11, h => simp at h
      | some c =>
        match i, h with
        | 0, h => cases h; exact ⟨_, rfl⟩
        | 1, h => cases h; exact ⟨_, rfl⟩
        | 2, h => cases h
        | 3, h => cases h; exact ⟨_, rfl⟩
        | 4, h => cases h
        | 5, h => cases h
        | 6, h => cases h
        | 7, h => cases h
        | 8, h => cases h
        | 9, h => cases h
        | 10, h => cases h
        | i + 11, h => simp at h
    · refine forD_any (I := fun i δ => ∃ c : Option Int, δ = [some (.dat (.scr ns)), some (.dat (.int j)), some (.dat .die), c.map (fun i => .dat (.int i)), none, none, none, none, none, none, none]) (rangeD 0 4) 0 _ ⟨c, rfl⟩ (fun i x δ e2 hx hi hn2 _ _ _ => ?_) (fun δ' hi => ?_)
      · obtain ⟨c, rfl⟩ := hi
        obtain ⟨hi4, hx2⟩ := rangeD0_at hx
        subst hx2
        walk_at "dl"
        exact ⟨rfl, Or.inr ⟨rfl, hn2 _ ⟨some i, rfl⟩⟩⟩
      · obtain ⟨c, rfl⟩ := hi
        refine hn _ ⟨some j, c, ?_⟩
        cases c <;> rfl
  · obtain ⟨a, c, rfl⟩ := hi
    walk_at "dl"
    refine ⟨by decide, by decide, by decide, _, init_thing, ask_text v0 ⟨_, init_none, ask_text vR0 ⟨by decide, ?_⟩⟩⟩
    refine dNe_lstS (a := [textR thingL, textR []]) (b := [T0, ""]) (by rw [t0, textR_nil]; decide +kernel) (by decide +kernel) ?_
    refine ⟨by rw [t0, textR_nil, decide_eq_true rfl]; rfl, ask_read v0 t0 ⟨⟨_, _, rfl⟩, ask_eq v0 ⟨rfl, ask_read vR0 textR_nil ⟨_, init_none, ⟨_, _, rfl⟩, ask_eq vR0 ⟨rfl, by decide, by decide, ?_⟩⟩⟩⟩⟩
    refine ⟨_, List.replicate 16 "go 16", rfl, Or.inl rfl, by decide +kernel, ?_⟩
    refine lcD_mapL (f := fun c => D.str (six c)) (Str.ofString "abcdef").cps.toList (fun c hc k hk => ?_) (by decide) ?_
    · walk_at "dl"
      have l1 : ("if a " : Str).length = 5 := by decide +kernel
      have l2 : (" 0" : Str).length = 2 := by decide +kernel
      have l3 : (sg c).length = 1 := rfl
      have l4 : (("if a " : Str) ++ sg c).length = 6 := by rw [len_tl, tl_append, List.length_append, ← len_tl, ← len_tl, l1, l3]
      have sz : sizeLine = 16777216 := by decide
      exact ⟨by rw [l1, l3]; omega, by rw [l4, l2]; omega, hk⟩
    refine ⟨_, (Str.ofString "abcdef").cps.toList.map six, rfl, Or.inl (by rw [List.map_map]; rfl), by decide +kernel, ?_⟩
    refine ask_read v16 t16 ⟨⟨_, _, rfl⟩, L16, rfl, by decide, by decide, ?_⟩
    show dNe (lnsD L16) (lnsD L16) _
    refine dEq_lns (wf_of v16) (wf_of v16) ⟨_, rfl, by rw [decide_eq_true rfl]; rfl, ?_⟩
    refine ask_read v6 t6 ?_
    refine ⟨⟨_, _, rfl⟩, L6, rfl, wf_of v6, v6, fun ys hy => ?_⟩
    have hy6 : (ys.map tupK).length = 6 := by rw [List.length_map, hy, n6]
    show dLen [D.tup (ys.map tupK)] _
    rw [qLenT, hy6]
    refine dNe_int ⟨rfl, ?_⟩
    show _ ∧ dAdd _ _ _
    refine ⟨by decide +kernel, ?_⟩
    show _ ∧ _
    refine ⟨by decide +kernel, by decide, by decide, by decide, by decide +kernel, by decide +kernel, ?_, by decide +kernel, by decide +kernel, ?_, by decide, by decide, by decide, by decide, ?_⟩
    · have l1 : ("go " : Str).length = 3 := by decide +kernel
      have sz : sizeLine = 16777216 := by decide
      rw [len0, l1]
      omega
    · have l1 : ("go " : Str).length = 3 := by decide +kernel
      have sz : sizeLine = 16777216 := by decide
      rw [len9, l1]
      omega
    refine forD_items _ _ (fun x hx e' hn => ?_) (fun _ => trivial)
    obtain ⟨t, rfl, tlen, tok, tn⟩ := bad_texts x hx
    have sz : sizeLine = 16777216 := by decide
    walk_at "dl"
    refine Or.inl ⟨t, rfl, by omega, tok, fun ls e => (by rw [tn] at e; cases e), fun _ => ⟨_, rfl, "parse", Or.inr ⟨rfl, rfl⟩, ?_⟩⟩
    exact Or.inl ⟨rfl, hn⟩
end
end K82

/-! The data layer, part 23: a head's facts: names, defs at any address, a Bool, tables of code objects. -/
namespace DL
open PySem PySem.Spec PyProof.Rows L2 He
/-- what the head tells of K, a part of the heap h -/
structure SaysH (fa : List Fa) (fn : List He5.DefA) (tf : List Defn) (ex : PySem.W.Frag → Bool) (h : Heap) (K : PySem.W.Frag) : Prop where
  a : He5.SaysA fa fn K
  more : ex K = true
  hd : ∀ p ∈ tf, PySem.W.codeHdIn K (cT K p).1 (cT K p).2 = true
  out : ∀ p ∈ tf, K.lookup (cT K p).2 = none
  empty : ∀ p ∈ tf, h.get? (cT K p).2 = some { cls := .none, data := .fields #[] }
abbrev AlH : Type := He.AlD × Bool
def obsH (n : Nat) (fa : List Fa) (fn : List He5.DefA) (tf : List Defn) (ex : PySem.W.Frag → Bool) (g : Addr → Option Obj) : AlH := (He5.obsA fa fn (frT g (He5.asA g n)), ex (frT g (He5.asA g n)) && tabsB g tf (frT g (He5.asA g n)))
theorem saysH_of {n : Nat} {fa : List Fa} {fn : List He5.DefA} {tf : List Defn} {ex : PySem.W.Frag → Bool} {h : Heap} (e : obsH n fa fn tf ex h.get? = (He5.valA fn, true)) : SaysH fa fn tf ex h (frT h.get? (He5.asA h.get? n)) := by
  have e1 : He5.obsA fa fn (frT h.get? (He5.asA h.get? n)) = He5.valA fn := congrArg (fun z : AlH => z.1) e
  have e2 : (ex (frT h.get? (He5.asA h.get? n)) && tabsB h.get? tf (frT h.get? (He5.asA h.get? n))) = true := congrArg (fun z : AlH => z.2) e
  obtain ⟨h1, h2⟩ := ba e2
  have key : ∀ p ∈ tf, PySem.W.codeHdIn (frT h.get? (He5.asA h.get? n)) (cT (frT h.get? (He5.asA h.get? n)) p).1 (cT (frT h.get? (He5.asA h.get? n)) p).2 = true ∧ ∃ o, h.get? (cT (frT h.get? (He5.asA h.get? n)) p).2 = some o ∧ emptyTab o = true := fun p hp => by
    obtain ⟨h3, h4⟩ := ba (List.all_eq_true.mp h2 p hp)
    refine ⟨h3, ?_⟩
    cases q : h.get? (cT (frT h.get? (He5.asA h.get? n)) p).2 with
    | none =>
      rw [q] at h4
      cases h4
    | some o =>
      rw [q] at h4
      exact ⟨o, rfl, h4⟩
  exact ⟨e1, h1, fun p hp => (key p hp).1, fun p hp => by
    obtain ⟨_, o, q, z⟩ := key p hp
    exact frT_none q z, fun p hp => by
    obtain ⟨_, o, q, z⟩ := key p hp
    rw [q, emptyTab_eq z]⟩
def hookH (n : Nat) (fa : List Fa) (fn : List He5.DefA) (tf : List Defn) (ex : PySem.W.Frag → Bool) : PySem.W.Hook where
  α := AlH
  obs := fun s => obsH n fa fn tf ex s.heap.get?
  val := fun _ => (He5.valA fn, true)
  says := fun _ h => ∃ K : PySem.W.Frag, K.In h ∧ SaysH fa fn tf ex h K
  of := fun _ _ e => ⟨_, frT_in, saysH_of e⟩
  keeps := fun _ _ _ ⟨K, hK, c⟩ k => ⟨K, PySem.W.Frag.In.keeps hK k, ⟨c.a, c.more, c.hd, c.out, fun p hp => k _ _ (c.empty p hp)⟩⟩
theorem obsH_eq {n : Nat} {fa : List Fa} {fn : List He5.DefA} {tf : List Defn} {ex : PySem.W.Frag → Bool} {g : Addr → Option Obj} {s : Shared} (h : ∀ a, g a = s.heap.get? a) : obsH n fa fn tf ex g = (hookH n fa fn tf ex).obs s := by
  have e : g = s.heap.get? := funext h
  rw [e] <;> rfl
section
variable {fa : List Fa} {fn : List He5.DefA} {K : PySem.W.Frag}
theorem saysA_facts (c : He5.SaysA fa fn K) {f : Fa} (h : f ∈ fa) : f.ok K = true := by
  obtain ⟨i, hi, e⟩ := List.mem_iff_getElem.mp h
  exact c.fact i (f := f) (by rw [List.getElem?_eq_getElem hi, e])
theorem saysA_defs (c : He5.SaysA fa fn K) {d : He5.DefA} (h : d ∈ fn) : ∃ fd, FunD K d.name d.qual d.params d.body d.scope (d.dvs K) (d.kws K) (d.at_ K) fd := by
  obtain ⟨i, hi, e⟩ := List.mem_iff_getElem.mp h
  exact c.def_ i (d := d) (by rw [List.getElem?_eq_getElem hi, e])
/-- a def's code object -/
theorem code_of {x : Str} {st : Stmt} {fd : FuncData} (F : Fun K x x st (ga K x) fd) : fd.code = .ref (cT K (x, none)).1 := by
  obtain ⟨oc, od, kV, doc, pm, an, cdv, ct, osl, e, lk, hcd⟩ := F.ex
  obtain ⟨c, hc⟩ := codeIn_ref hcd
  have h1 : fd.code = .ref c := by
    rw [e]
    exact hc
  have h2 : codeOf K (x, none) = c := codeOf_eq lk h1
  show fd.code = .ref (codeOf K (x, none))
  rw [h2, h1]
end
end DL

namespace K82
open PySem PySem.Spec PyProof.Rows L2 DL
open He

set_option maxHeartbeats 0

def d_is_integer : He5.DefA := { at_ := fun K => ga K "is_integer", name := "is_integer", qual := "is_integer", params := defArgs s_is_integer, body := defBody s_is_integer, scope := defScope s_is_integer }
def d_is_name : He5.DefA := { at_ := fun K => ga K "is_name", name := "is_name", qual := "is_name", params := defArgs s_is_name, body := defBody s_is_name, scope := defScope s_is_name }
def d_is_target : He5.DefA := { at_ := fun K => ga K "is_target", name := "is_target", qual := "is_target", params := defArgs s_is_target, body := defBody s_is_target, scope := defScope s_is_target }
def d_is_line : He5.DefA := { at_ := fun K => ga K "is_line", name := "is_line", qual := "is_line", params := defArgs s_is_line, body := defBody s_is_line, scope := defScope s_is_line }
def d_tested_in : He5.DefA := { at_ := fun K => ga K "tested_in", name := "tested_in", qual := "tested_in", params := defArgs s_tested_in, body := defBody s_tested_in, scope := defScope s_tested_in }
def d_require_lines : He5.DefA := { at_ := fun K => ga K "require_lines", name := "require_lines", qual := "require_lines", params := defArgs s_require_lines, body := defBody s_require_lines, scope := defScope s_require_lines }
def d_require_text : He5.DefA := { at_ := fun K => ga K "require_text", name := "require_text", qual := "require_text", params := defArgs s_require_text, body := defBody s_require_text, scope := defScope s_require_text }
def d_require_equal_text : He5.DefA := { at_ := fun K => ga K "require_equal_text", name := "require_equal_text", qual := "require_equal_text", params := defArgs s_require_equal_text, body := defBody s_require_equal_text, scope := defScope s_require_equal_text }
def d_integer_in : He5.DefA := { at_ := fun K => ga K "integer_in", name := "integer_in", qual := "integer_in", params := defArgs s_integer_in, body := defBody s_integer_in, scope := defScope s_integer_in }
def d_words_of_lines : He5.DefA := { at_ := fun K => ga K "words_of_lines", name := "words_of_lines", qual := "words_of_lines", params := defArgs s_words_of_lines, body := defBody s_words_of_lines, scope := defScope s_words_of_lines }
def d_line_text : He5.DefA := { at_ := fun K => ga K "line_text", name := "line_text", qual := "line_text", params := defArgs s_line_text, body := defBody s_line_text, scope := defScope s_line_text }
def d_line_of : He5.DefA := { at_ := fun K => ga K "line_of", name := "line_of", qual := "line_of", params := defArgs s_line_of, body := defBody s_line_of, scope := defScope s_line_of }
def d_reader_text : He5.DefA := { at_ := fun K => ga K "reader_text", name := "reader_text", qual := "reader_text", params := defArgs s_reader_text, body := defBody s_reader_text, scope := defScope s_reader_text }
def d_read_reader : He5.DefA := { at_ := fun K => ga K "read_reader", name := "read_reader", qual := "read_reader", params := defArgs s_read_reader, body := defBody s_read_reader, scope := defScope s_read_reader }
def d_law_dice : He5.DefA := { at_ := fun K => ga K "_law_dice", name := "_law_dice", qual := "_law_dice", params := defArgs s_law_dice, body := defBody s_law_dice, scope := defScope s_law_dice }
def d_law_roll : He5.DefA := { at_ := fun K => ga K "_law_roll", name := "_law_roll", qual := "_law_roll", params := defArgs s_law_roll, body := defBody s_law_roll, scope := defScope s_law_roll }
def d_law_one_of : He5.DefA := { at_ := fun K => ga K "_law_one_of", name := "_law_one_of", qual := "_law_one_of", params := defArgs s_law_one_of, body := defBody s_law_one_of, scope := defScope s_law_one_of }
def d_law_name : He5.DefA := { at_ := fun K => ga K "_law_name", name := "_law_name", qual := "_law_name", params := defArgs s_law_name, body := defBody s_law_name, scope := defScope s_law_name }
def d_law_names : He5.DefA := { at_ := fun K => ga K "_law_names", name := "_law_names", qual := "_law_names", params := defArgs s_law_names, body := defBody s_law_names, scope := defScope s_law_names }
def d_law_line : He5.DefA := { at_ := fun K => ga K "_law_line", name := "_law_line", qual := "_law_line", params := defArgs s_law_line, body := defBody s_law_line, scope := defScope s_law_line }
def d_law_lines : He5.DefA := { at_ := fun K => ga K "_law_lines", name := "_law_lines", qual := "_law_lines", params := defArgs s_law_lines, body := defBody s_law_lines, scope := defScope s_law_lines }
def d_law_lines_text : He5.DefA := { at_ := fun K => ga K "_law_lines_text", name := "_law_lines_text", qual := "_law_lines_text", params := defArgs s_law_lines_text, body := defBody s_law_lines_text, scope := defScope s_law_lines_text }
def d_law_met : He5.DefA := { at_ := fun K => ga K "_law_met", name := "_law_met", qual := "_law_met", params := defArgs s_law_met, body := defBody s_law_met, scope := defScope s_law_met }
def d_law_odd_text : He5.DefA := { at_ := fun K => ga K "_law_odd_text", name := "_law_odd_text", qual := "_law_odd_text", params := defArgs s_law_odd_text, body := defBody s_law_odd_text, scope := defScope s_law_odd_text }
def d_law_near : He5.DefA := { at_ := fun K => ga K "_law_near", name := "_law_near", qual := "_law_near", params := defArgs s_law_near, body := defBody s_law_near, scope := defScope s_law_near }
def d_law_is_name : He5.DefA := { at_ := fun K => ga K "_law_is_name", name := "_law_is_name", qual := "_law_is_name", params := defArgs s_law_is_name, body := defBody s_law_is_name, scope := defScope s_law_is_name }
def d_law_number : He5.DefA := { at_ := fun K => ga K "_law_number", name := "_law_number", qual := "_law_number", params := defArgs s_law_number, body := defBody s_law_number, scope := defScope s_law_number }
def d_law_line_read : He5.DefA := { at_ := fun K => ga K "_law_line_read", name := "_law_line_read", qual := "_law_line_read", params := defArgs s_law_line_read, body := defBody s_law_line_read, scope := defScope s_law_line_read }
def d_law_lines_read : He5.DefA := { at_ := fun K => ga K "_law_lines_read", name := "_law_lines_read", qual := "_law_lines_read", params := defArgs s_law_lines_read, body := defBody s_law_lines_read, scope := defScope s_law_lines_read }
def d_law_read : He5.DefA := { at_ := fun K => ga K "_law_read", name := "_law_read", qual := "_law_read", params := defArgs s_law_read, body := defBody s_law_read, scope := defScope s_law_read }
def d_law_near_right : He5.DefA := { at_ := fun K => ga K "_law_near_right", name := "_law_near_right", qual := "_law_near_right", params := defArgs s_law_near_right, body := defBody s_law_near_right, scope := defScope s_law_near_right }
def d_law_right : He5.DefA := { at_ := fun K => ga K "_law_right", name := "_law_right", qual := "_law_right", params := defArgs s_law_right, body := defBody s_law_right, scope := defScope s_law_right }
def d_law : He5.DefA := { at_ := fun K => ga K "law", name := "law", qual := "law", params := defArgs s_law, body := defBody s_law, scope := defScope s_law }
def d_Reader_init : He5.DefA := { at_ := fun K => ma K (ga K "Reader") "__init__", name := "__init__", qual := "Reader.__init__", params := defArgs s_Reader_init, body := defBody s_Reader_init, scope := defScope s_Reader_init }
def d_Reader_of : He5.DefA := { at_ := fun K => He5.wf K (ga K "Reader") "classmethod" "of", name := "of", qual := "Reader.of", params := defArgs s_Reader_of, body := defBody s_Reader_of, scope := defScope s_Reader_of }
def d_Reader_lines : He5.DefA := { at_ := fun K => He5.wf K (ga K "Reader") "property" "lines", name := "lines", qual := "Reader.lines", params := defArgs s_Reader_lines, body := defBody s_Reader_lines, scope := defScope s_Reader_lines }
def d_Reader_tested : He5.DefA := { at_ := fun K => He5.wf K (ga K "Reader") "property" "tested", name := "tested", qual := "Reader.tested", params := defArgs s_Reader_tested, body := defBody s_Reader_tested, scope := defScope s_Reader_tested }
def d_Reader_eq : He5.DefA := { at_ := fun K => ma K (ga K "Reader") "__eq__", name := "__eq__", qual := "Reader.__eq__", params := defArgs s_Reader_eq, body := defBody s_Reader_eq, scope := defScope s_Reader_eq }
def fn1 : List He5.DefA := [d_is_integer, d_is_name, d_is_target, d_is_line, d_tested_in, d_require_lines, d_require_text, d_require_equal_text, d_integer_in, d_words_of_lines, d_line_text, d_line_of, d_reader_text, d_read_reader, d_law_dice, d_law_roll, d_law_one_of, d_law_name, d_law_names, d_law_line]
def fn2 : List He5.DefA := [d_law_lines, d_law_lines_text, d_law_met, d_law_odd_text, d_law_near, d_law_is_name, d_law_number, d_law_line_read, d_law_lines_read, d_law_read, d_law_near_right, d_law_right, d_law, d_Reader_init, d_Reader_of, d_Reader_lines, d_Reader_tested, d_Reader_eq]
def fn : List He5.DefA := fn1 ++ fn2
def fa1 : List Fa := [.free "isinstance", .free "len", .free "all", .free "int", .free "bool", .free "str", .free "tuple", .free "list", .free "sorted", .free "set", .free "range", .free "abs", .free "max", .free "min", .str "LETTERS" "abcdefghijklmnopqrstuvwxyz", .int "MAX_LETTERS" 8, .int "MAX_LINES" 16, .int "MAX_TESTED" 6, .str "IF_readers" "if", .str "GO_readers" "go", .str "FIGURES" "0123456789", .int "MAX_FIGURES" 40, .str "BLANK" " ", .str "NEWLINE" "\n", .str "IF_formats" "if", .str "GO_formats" "go"]
def fa2 : List Fa := [.glo "InvalidMover", .glo "InvalidReader", .glo "InvalidStore", .glo "InvalidOperation", .glo "ParseError", .glo "MoveError", .glo "Reader", .keep "InvalidMover", .keep "InvalidReader", .keep "InvalidStore", .keep "InvalidOperation", .keep "ParseError", .keep "MoveError", .keep "Reader", .exc "InvalidReader", .exc "ParseError", .exm "InvalidReader" "InvalidReader" true, .exm "ParseError" "ParseError" true, .exm "InvalidReader" "MoveError" true, .exm "ParseError" "MoveError" true, .cls "Reader", .noat "Reader" "own_lines", .mkr "Reader"]
def fa3 : List Fa := [.glo "is_integer", .glo "is_name", .glo "is_target", .glo "is_line", .glo "tested_in", .glo "require_lines", .glo "require_text", .glo "require_equal_text", .glo "integer_in", .glo "words_of_lines", .glo "line_text", .glo "line_of", .glo "reader_text", .glo "read_reader", .glo "_law_dice", .glo "_law_roll", .glo "_law_one_of", .glo "_law_name", .glo "_law_names", .glo "_law_line", .glo "_law_lines", .glo "_law_lines_text", .glo "_law_met", .glo "_law_odd_text", .glo "_law_near", .glo "_law_is_name", .glo "_law_number", .glo "_law_line_read", .glo "_law_lines_read", .glo "_law_read", .glo "_law_near_right", .glo "_law_right", .glo "law"]
def fa : List Fa := fa1 ++ (fa2 ++ fa3)
def tf : List Defn := [("law", none), ("_law_right", none)]
def x0 (K : PySem.W.Frag) : Bool := decide ((cT K ("law", none)).2 ≠ (cT K ("_law_right", none)).2)
def x1 (K : PySem.W.Frag) : Bool := eqO (PySem.W.specialIn K (.builtin "object.__class__") "__get__") (some (some (.builtin "getset_descriptor.__get__")))
def x2 (K : PySem.W.Frag) : Bool := decide (PySem.W.takesIn K (.builtin "object.__class__") = some true)
def x3 (K : PySem.W.Frag) : Bool := eqO (PySem.W.findIn K (.ref (ga K "InvalidReader")) "__getattribute__") (some (some (.builtin "BaseException.__getattribute__")))
def x4 (K : PySem.W.Frag) : Bool := eqO (PySem.W.findIn K (.ref (ga K "InvalidReader")) "__getattr__") (some none)
def x5 (K : PySem.W.Frag) : Bool := PySem.W.hasDictIn K (ga K "InvalidReader")
def x6 (K : PySem.W.Frag) : Bool := eqO (PySem.W.findIn K (.ref (ga K "InvalidReader")) "__class__") (some (some (.builtin "object.__class__")))
def x7 (K : PySem.W.Frag) : Bool := decide (PySem.W.mroIn K (ga K "InvalidReader") (.type "object") = some true)
def x8 (K : PySem.W.Frag) : Bool := decide (PySem.W.kitOne K (.ref (ga K "InvalidReader")) (.ref (ga K "InvalidMover")) = some false)
def x9 (K : PySem.W.Frag) : Bool := decide (PySem.W.kitOne K (.ref (ga K "InvalidReader")) (.ref (ga K "InvalidReader")) = some true)
def x10 (K : PySem.W.Frag) : Bool := decide (PySem.W.kitOne K (.ref (ga K "InvalidReader")) (.ref (ga K "InvalidStore")) = some false)
def x11 (K : PySem.W.Frag) : Bool := decide (PySem.W.kitOne K (.ref (ga K "InvalidReader")) (.ref (ga K "InvalidOperation")) = some false)
def x12 (K : PySem.W.Frag) : Bool := decide (PySem.W.kitOne K (.ref (ga K "InvalidReader")) (.ref (ga K "ParseError")) = some false)
def x13 (K : PySem.W.Frag) : Bool := eqO (PySem.W.findIn K (.ref (ga K "ParseError")) "__getattribute__") (some (some (.builtin "BaseException.__getattribute__")))
def x14 (K : PySem.W.Frag) : Bool := eqO (PySem.W.findIn K (.ref (ga K "ParseError")) "__getattr__") (some none)
def x15 (K : PySem.W.Frag) : Bool := PySem.W.hasDictIn K (ga K "ParseError")
def x16 (K : PySem.W.Frag) : Bool := eqO (PySem.W.findIn K (.ref (ga K "ParseError")) "__class__") (some (some (.builtin "object.__class__")))
def x17 (K : PySem.W.Frag) : Bool := decide (PySem.W.mroIn K (ga K "ParseError") (.type "object") = some true)
def x18 (K : PySem.W.Frag) : Bool := decide (PySem.W.kitOne K (.ref (ga K "ParseError")) (.ref (ga K "InvalidMover")) = some false)
def x19 (K : PySem.W.Frag) : Bool := decide (PySem.W.kitOne K (.ref (ga K "ParseError")) (.ref (ga K "InvalidReader")) = some false)
def x20 (K : PySem.W.Frag) : Bool := decide (PySem.W.kitOne K (.ref (ga K "ParseError")) (.ref (ga K "InvalidStore")) = some false)
def x21 (K : PySem.W.Frag) : Bool := decide (PySem.W.kitOne K (.ref (ga K "ParseError")) (.ref (ga K "InvalidOperation")) = some false)
def x22 (K : PySem.W.Frag) : Bool := decide (PySem.W.kitOne K (.ref (ga K "ParseError")) (.ref (ga K "ParseError")) = some true)
def x23 (K : PySem.W.Frag) : Bool := eqO (PySem.W.findIn K (.ref (ga K "Reader")) "__class__") (some (some (.builtin "object.__class__")))
def x24 (K : PySem.W.Frag) : Bool := decide (PySem.W.mroIn K (ga K "Reader") (.type "object") = some true)
def x25 (K : PySem.W.Frag) : Bool := decide (PySem.W.kitOne K (.ref (ga K "Reader")) (.ref (ga K "Reader")) = some true)
def x26 (K : PySem.W.Frag) : Bool := decide (PySem.W.kitOne K (.type "NoneType") (.ref (ga K "Reader")) = some false)
def x27 (K : PySem.W.Frag) : Bool := decide (PySem.W.kitOne K (.type "bool") (.ref (ga K "Reader")) = some false)
def x28 (K : PySem.W.Frag) : Bool := decide (PySem.W.kitOne K (.type "int") (.ref (ga K "Reader")) = some false)
def x29 (K : PySem.W.Frag) : Bool := decide (PySem.W.kitOne K (.type "str") (.ref (ga K "Reader")) = some false)
def x30 (K : PySem.W.Frag) : Bool := decide (PySem.W.kitOne K (.type "tuple") (.ref (ga K "Reader")) = some false)
def x31 (K : PySem.W.Frag) : Bool := decide (PySem.W.kitOne K (.type "list") (.ref (ga K "Reader")) = some false)
def x32 (K : PySem.W.Frag) : Bool := decide (PySem.W.kitOne K (.type "dict") (.ref (ga K "Reader")) = some false)
def x33 (K : PySem.W.Frag) : Bool := decide (PySem.W.kitOne K (.ref (ga K "Reader")) (.type "str") = some false)
def x34 (K : PySem.W.Frag) : Bool := PySem.W.readsIn K (ga K "Reader") (.type "type")
def x35 (K : PySem.W.Frag) : Bool := eqO (PySem.W.specialIn K (.ref (ga K "Reader")) "__getattribute__") (some (some (.builtin "type.__getattribute__")))
def x36 (K : PySem.W.Frag) : Bool := He5.wrapB K (ga K "Reader") "classmethod" "classmethod.__get__" "of"
def x37 (K : PySem.W.Frag) : Bool := PySem.W.fnIn K (He5.wf K (ga K "Reader") "classmethod" "of")
def x38 (K : PySem.W.Frag) : Bool := eqO (PySem.W.findIn K (.ref (ga K "Reader")) "lines") (some (some (.ref (ma K (ga K "Reader") "lines"))))
def x39 (K : PySem.W.Frag) : Bool := eqO (PySem.W.specialIn K (.ref (ma K (ga K "Reader") "lines")) "__get__") (some (some (.builtin "property.__get__")))
def x40 (K : PySem.W.Frag) : Bool := decide (PySem.W.takesIn K (.ref (ma K (ga K "Reader") "lines")) = some true)
def x41 (K : PySem.W.Frag) : Bool := (match PySem.W.recIn K (ma K (ga K "Reader") "lines") "property" with | some (.ref _ :: _) => true | _ => false)
def x42 (K : PySem.W.Frag) : Bool := eqO (PySem.W.findIn K (.ref (ga K "Reader")) "tested") (some (some (.ref (ma K (ga K "Reader") "tested"))))
def x43 (K : PySem.W.Frag) : Bool := eqO (PySem.W.specialIn K (.ref (ma K (ga K "Reader") "tested")) "__get__") (some (some (.builtin "property.__get__")))
def x44 (K : PySem.W.Frag) : Bool := decide (PySem.W.takesIn K (.ref (ma K (ga K "Reader") "tested")) = some true)
def x45 (K : PySem.W.Frag) : Bool := (match PySem.W.recIn K (ma K (ga K "Reader") "tested") "property" with | some (.ref _ :: _) => true | _ => false)
def x46 (K : PySem.W.Frag) : Bool := eqO (PySem.W.findIn K (.ref (ga K "Reader")) "__ne__") (some (some (.builtin "object.__ne__")))
def x47 (K : PySem.W.Frag) : Bool := decide (PySem.W.subIn K (.ref (ga K "Reader")) (.type "object") = some true)
def x48 (K : PySem.W.Frag) : Bool := eqO (PySem.W.findIn K (.ref (ga K "Reader")) "__eq__") (some (some (.ref (ma K (ga K "Reader") "__eq__"))))
def x49 (K : PySem.W.Frag) : Bool := PySem.W.isFn K (.ref (ma K (ga K "Reader") "__eq__"))
def ex (K : PySem.W.Frag) : Bool := x0 K && (x1 K && (x2 K && (x3 K && (x4 K && (x5 K && (x6 K && (x7 K && (x8 K && (x9 K && (x10 K && (x11 K && (x12 K && (x13 K && (x14 K && (x15 K && (x16 K && (x17 K && (x18 K && (x19 K && (x20 K && (x21 K && (x22 K && (x23 K && (x24 K && (x25 K && (x26 K && (x27 K && (x28 K && (x29 K && (x30 K && (x31 K && (x32 K && (x33 K && (x34 K && (x35 K && (x36 K && (x37 K && (x38 K && (x39 K && (x40 K && (x41 K && (x42 K && (x43 K && (x44 K && (x45 K && (x46 K && (x47 K && (x48 K && (x49 K)))))))))))))))))))))))))))))))))))))))))))))))))
def nm0 : List Str := ["_wall", "MoveError", "InvalidMover", "InvalidReader", "InvalidStore", "InvalidOperation", "ParseError", "InvalidNumber", "LETTERS", "MAX_LETTERS", "is_integer", "is_name", "MAX_LINES", "MAX_TESTED", "IF_readers", "GO_readers", "is_target", "is_line", "tested_in", "pairs_in", "require_lines", "later_line", "later_lines", "require_at", "Reader", "FIGURES", "MAX_FIGURES", "BLANK", "NEWLINE", "IF_formats"]
def nm1 : List Str := ["GO_formats", "require_text", "require_equal_text", "integer_in", "words_of_lines", "line_text", "line_of", "reader_text", "read_reader", "_law_dice", "_law_roll", "_law_one_of", "_law_mixed", "_law_name", "_law_names", "_law_line", "_law_lines", "_law_lines_text", "_law_met", "_law_odd_text", "_law_near", "_law_is_name", "_law_number", "_law_line_read", "_law_lines_read", "_law_read", "_law_near_right", "_law_right"]
def nms : List Str := nm0 ++ nm1
abbrev R : PySem.W.OpenRow := PySem.W.OpenLaw.row PySem.Challenge.rw_asunmoved_k82_texts_of_readers
abbrev hk : PySem.W.Hook := hookH 5 fa fn tf ex
def ob (s : PySem.W.SharedT) : AlH := obsH 5 fa fn tf ex (HandSHeadRun.getT s)
theorem ob_eq (s : PySem.W.SharedT) : ob s = hk.obs s.abs := obsH_eq (HandSHeadRun.getT_eq s)

theorem run (w : World) : HandSHeadRun.RunEq R (PySem.W.view R.prog [63]) hk ob 20000 nms w := by
  intro os
  kernel_rfl
end K82

namespace K82
open PySem PySem.Spec PyProof.Rows L2 DL
open He

section
variable {K : PySem.W.Frag} {h : Heap} {mg : Str → Option Value}
theorem fa_at (c : He5.SaysA fa fn K) (i : Nat) {f : Fa} (e : fa[i]? = some f) : f.ok K = true := c.fact i e
theorem ex_parts (e : ex K = true) : x0 K = true ∧ x1 K = true ∧ x2 K = true ∧ x3 K = true ∧ x4 K = true ∧ x5 K = true ∧ x6 K = true ∧ x7 K = true ∧ x8 K = true ∧ x9 K = true ∧ x10 K = true ∧ x11 K = true ∧ x12 K = true ∧ x13 K = true ∧ x14 K = true ∧ x15 K = true ∧ x16 K = true ∧ x17 K = true ∧ x18 K = true ∧ x19 K = true ∧ x20 K = true ∧ x21 K = true ∧ x22 K = true ∧ x23 K = true ∧ x24 K = true ∧ x25 K = true ∧ x26 K = true ∧ x27 K = true ∧ x28 K = true ∧ x29 K = true ∧ x30 K = true ∧ x31 K = true ∧ x32 K = true ∧ x33 K = true ∧ x34 K = true ∧ x35 K = true ∧ x36 K = true ∧ x37 K = true ∧ x38 K = true ∧ x39 K = true ∧ x40 K = true ∧ x41 K = true ∧ x42 K = true ∧ x43 K = true ∧ x44 K = true ∧ x45 K = true ∧ x46 K = true ∧ x47 K = true ∧ x48 K = true ∧ x49 K = true := by
  unfold ex at e
  simpa only [Bool.and_eq_true] using e
theorem rec_ok {p : Addr} (e : (match PySem.W.recIn K p "property" with | some (.ref _ :: _) => true | _ => false) = true) : ∃ rest, PySem.W.recIn K p "property" = some (.ref (match PySem.W.recIn K p "property" with | some (.ref f :: _) => f | _ => 0) :: rest) := by
  split at e
  · rename_i f r q
    exact ⟨r, by rw [q]⟩
  · cases e
theorem txt_of (X : K.In h) (G : h.Ns mainGlobals mg) (c : SaysH fa fn tf ex h K) : Txt K mg := by
  obtain ⟨b0, b1, b2, b3, b4, b5, b6, b7, b8, b9, b10, b11, b12, b13, b14, b15, b16, b17, b18, b19, b20, b21, b22, b23, b24, b25, b26, b27, b28, b29, b30, b31, b32, b33, b34, b35, b36, b37, b38, b39, b40, b41, b42, b43, b44, b45, b46, b47, b48, b49⟩ := ex_parts c.more
  exact {
    n_isinstance := free_ok X G (c.a.fact 0 (f := .free "isinstance") rfl),
    n_len := free_ok X G (c.a.fact 1 (f := .free "len") rfl),
    n_all := free_ok X G (c.a.fact 2 (f := .free "all") rfl),
    n_int := free_ok X G (c.a.fact 3 (f := .free "int") rfl),
    n_bool := free_ok X G (c.a.fact 4 (f := .free "bool") rfl),
    n_str := free_ok X G (c.a.fact 5 (f := .free "str") rfl),
    n_tuple := free_ok X G (c.a.fact 6 (f := .free "tuple") rfl),
    n_list := free_ok X G (c.a.fact 7 (f := .free "list") rfl),
    n_sorted := free_ok X G (c.a.fact 8 (f := .free "sorted") rfl),
    n_set := free_ok X G (c.a.fact 9 (f := .free "set") rfl),
    n_range := free_ok X G (c.a.fact 10 (f := .free "range") rfl),
    n_abs := free_ok X G (c.a.fact 11 (f := .free "abs") rfl),
    n_max := free_ok X G (c.a.fact 12 (f := .free "max") rfl),
    n_min := free_ok X G (c.a.fact 13 (f := .free "min") rfl),
    c_LETTERS := (let ⟨t, e⟩ := str_ok X G (c.a.fact 14 (f := .str "LETTERS" "abcdefghijklmnopqrstuvwxyz") rfl); ⟨_, e, ⟨t, rfl⟩⟩),
    c_MAX_LETTERS := (let ⟨t, e⟩ := int_ok X G (c.a.fact 15 (f := .int "MAX_LETTERS" 8) rfl); ⟨_, e, ⟨t, rfl⟩⟩),
    c_MAX_LINES := (let ⟨t, e⟩ := int_ok X G (c.a.fact 16 (f := .int "MAX_LINES" 16) rfl); ⟨_, e, ⟨t, rfl⟩⟩),
    c_MAX_TESTED := (let ⟨t, e⟩ := int_ok X G (c.a.fact 17 (f := .int "MAX_TESTED" 6) rfl); ⟨_, e, ⟨t, rfl⟩⟩),
    c_IF_readers := (let ⟨t, e⟩ := str_ok X G (c.a.fact 18 (f := .str "IF_readers" "if") rfl); ⟨_, e, ⟨t, rfl⟩⟩),
    c_GO_readers := (let ⟨t, e⟩ := str_ok X G (c.a.fact 19 (f := .str "GO_readers" "go") rfl); ⟨_, e, ⟨t, rfl⟩⟩),
    c_FIGURES := (let ⟨t, e⟩ := str_ok X G (c.a.fact 20 (f := .str "FIGURES" "0123456789") rfl); ⟨_, e, ⟨t, rfl⟩⟩),
    c_MAX_FIGURES := (let ⟨t, e⟩ := int_ok X G (c.a.fact 21 (f := .int "MAX_FIGURES" 40) rfl); ⟨_, e, ⟨t, rfl⟩⟩),
    c_BLANK := (let ⟨t, e⟩ := str_ok X G (c.a.fact 22 (f := .str "BLANK" " ") rfl); ⟨_, e, ⟨t, rfl⟩⟩),
    c_NEWLINE := (let ⟨t, e⟩ := str_ok X G (c.a.fact 23 (f := .str "NEWLINE" "\n") rfl); ⟨_, e, ⟨t, rfl⟩⟩),
    c_IF_formats := (let ⟨t, e⟩ := str_ok X G (c.a.fact 24 (f := .str "IF_formats" "if") rfl); ⟨_, e, ⟨t, rfl⟩⟩),
    c_GO_formats := (let ⟨t, e⟩ := str_ok X G (c.a.fact 25 (f := .str "GO_formats" "go") rfl); ⟨_, e, ⟨t, rfl⟩⟩),
    g_InvalidMover := glo_ok X G (c.a.fact 26 (f := .glo "InvalidMover") rfl),
    kp_InvalidMover := keep_ok (c.a.fact 33 (f := .keep "InvalidMover") rfl),
    g_InvalidReader := glo_ok X G (c.a.fact 27 (f := .glo "InvalidReader") rfl),
    kp_InvalidReader := keep_ok (c.a.fact 34 (f := .keep "InvalidReader") rfl),
    g_InvalidStore := glo_ok X G (c.a.fact 28 (f := .glo "InvalidStore") rfl),
    kp_InvalidStore := keep_ok (c.a.fact 35 (f := .keep "InvalidStore") rfl),
    g_InvalidOperation := glo_ok X G (c.a.fact 29 (f := .glo "InvalidOperation") rfl),
    kp_InvalidOperation := keep_ok (c.a.fact 36 (f := .keep "InvalidOperation") rfl),
    g_ParseError := glo_ok X G (c.a.fact 30 (f := .glo "ParseError") rfl),
    kp_ParseError := keep_ok (c.a.fact 37 (f := .keep "ParseError") rfl),
    g_MoveError := glo_ok X G (c.a.fact 31 (f := .glo "MoveError") rfl),
    kp_MoveError := keep_ok (c.a.fact 38 (f := .keep "MoveError") rfl),
    g_Reader := glo_ok X G (c.a.fact 32 (f := .glo "Reader") rfl),
    kp_Reader := keep_ok (c.a.fact 39 (f := .keep "Reader") rfl),
    x_InvalidReader := (exc_ok (c.a.fact 40 (f := .exc "InvalidReader") rfl)).1,
    s_InvalidReader := (exc_ok (c.a.fact 40 (f := .exc "InvalidReader") rfl)).2.2.1,
    t_InvalidReader := (exc_ok (c.a.fact 40 (f := .exc "InvalidReader") rfl)).2.2.2,
    x_ParseError := (exc_ok (c.a.fact 41 (f := .exc "ParseError") rfl)).1,
    s_ParseError := (exc_ok (c.a.fact 41 (f := .exc "ParseError") rfl)).2.2.1,
    t_ParseError := (exc_ok (c.a.fact 41 (f := .exc "ParseError") rfl)).2.2.2,
    e_InvalidReader := exm_ok (c.a.fact 42 (f := .exm "InvalidReader" "InvalidReader" true) rfl),
    em_InvalidReader := exm_ok (c.a.fact 44 (f := .exm "InvalidReader" "MoveError" true) rfl),
    e_ParseError := exm_ok (c.a.fact 43 (f := .exm "ParseError" "ParseError" true) rfl),
    em_ParseError := exm_ok (c.a.fact 45 (f := .exm "ParseError" "MoveError" true) rfl),
    xc_InvalidReader := ⟨(eqO_ok b3), (eqO_ok b4), (exc_ok (c.a.fact 40 (f := .exc "InvalidReader") rfl)).2.2.1, b5, (eqO_ok b6), (eqO_ok b1), (of_decide_eq_true b2), (of_decide_eq_true b7)⟩,
    ki_InvalidReader_InvalidMover := (of_decide_eq_true b8),
    ki_InvalidReader_InvalidReader := (of_decide_eq_true b9),
    ki_InvalidReader_InvalidStore := (of_decide_eq_true b10),
    ki_InvalidReader_InvalidOperation := (of_decide_eq_true b11),
    ki_InvalidReader_ParseError := (of_decide_eq_true b12),
    xc_ParseError := ⟨(eqO_ok b13), (eqO_ok b14), (exc_ok (c.a.fact 41 (f := .exc "ParseError") rfl)).2.2.1, b15, (eqO_ok b16), (eqO_ok b1), (of_decide_eq_true b2), (of_decide_eq_true b17)⟩,
    ki_ParseError_InvalidMover := (of_decide_eq_true b18),
    ki_ParseError_InvalidReader := (of_decide_eq_true b19),
    ki_ParseError_InvalidStore := (of_decide_eq_true b20),
    ki_ParseError_InvalidOperation := (of_decide_eq_true b21),
    ki_ParseError_ParseError := (of_decide_eq_true b22),
    kit_Reader := ⟨⟨cls_ok (c.a.fact 46 (f := .cls "Reader") rfl), (eqO_ok b23), (eqO_ok b1), (of_decide_eq_true b2), (of_decide_eq_true b24)⟩, (of_decide_eq_true b25), (fun a ha => by
    simp only [List.mem_cons, List.not_mem_nil, or_false] at ha
    rcases ha with rfl | rfl | rfl | rfl | rfl | rfl | rfl
    · exact (of_decide_eq_true b26)
    · exact (of_decide_eq_true b27)
    · exact (of_decide_eq_true b28)
    · exact (of_decide_eq_true b29)
    · exact (of_decide_eq_true b30)
    · exact (of_decide_eq_true b31)
    · exact (of_decide_eq_true b32))⟩,
    R := ⟨cls_ok (c.a.fact 46 (f := .cls "Reader") rfl), noat_ok (c.a.fact 47 (f := .noat "Reader" "own_lines") rfl), mkr_ok (c.a.fact 48 (f := .mkr "Reader") rfl), ⟨b34, (eqO_ok b35)⟩, He5.cmet_of b36 b37, ⟨(eqO_ok b38), (eqO_ok b39), (of_decide_eq_true b40), rec_ok b41⟩, ⟨(eqO_ok b42), (eqO_ok b43), (of_decide_eq_true b44), rec_ok b45⟩, (eqO_ok b46), (of_decide_eq_true b33), (of_decide_eq_true b47), (eqO_ok b48), b49⟩ }
theorem fd_is_integer (X : K.In h) (G : h.Ns mainGlobals mg) (c : SaysH fa fn tf ex h K) : FDL K mg "is_integer" s_is_integer ["value"] := by
  obtain ⟨fd, F⟩ := c.a.def_ 0 (d := d_is_integer) rfl
  have Ff := He5.fun_of (x := "is_integer") (qual := "is_integer") (st := s_is_integer) (f := ga K "is_integer") F
  exact ⟨_, fd, Ff, glo_ok X G (c.a.fact 49 (f := .glo "is_integer") rfl), F.bindsN fun _ _ _ _ _ _ us hl => match us, hl with | [_], _ => rfl, code_of Ff⟩
theorem fd_is_name (X : K.In h) (G : h.Ns mainGlobals mg) (c : SaysH fa fn tf ex h K) : FDL K mg "is_name" s_is_name ["value"] := by
  obtain ⟨fd, F⟩ := c.a.def_ 1 (d := d_is_name) rfl
  have Ff := He5.fun_of (x := "is_name") (qual := "is_name") (st := s_is_name) (f := ga K "is_name") F
  exact ⟨_, fd, Ff, glo_ok X G (c.a.fact 50 (f := .glo "is_name") rfl), F.bindsN fun _ _ _ _ _ _ us hl => match us, hl with | [_], _ => rfl, code_of Ff⟩
theorem fd_is_target (X : K.In h) (G : h.Ns mainGlobals mg) (c : SaysH fa fn tf ex h K) : FDL K mg "is_target" s_is_target ["value", "size"] := by
  obtain ⟨fd, F⟩ := c.a.def_ 2 (d := d_is_target) rfl
  have Ff := He5.fun_of (x := "is_target") (qual := "is_target") (st := s_is_target) (f := ga K "is_target") F
  exact ⟨_, fd, Ff, glo_ok X G (c.a.fact 51 (f := .glo "is_target") rfl), F.bindsN fun _ _ _ _ _ _ us hl => match us, hl with | [_, _], _ => rfl, code_of Ff⟩
theorem fd_is_line (X : K.In h) (G : h.Ns mainGlobals mg) (c : SaysH fa fn tf ex h K) : FDL K mg "is_line" s_is_line ["value", "size"] := by
  obtain ⟨fd, F⟩ := c.a.def_ 3 (d := d_is_line) rfl
  have Ff := He5.fun_of (x := "is_line") (qual := "is_line") (st := s_is_line) (f := ga K "is_line") F
  exact ⟨_, fd, Ff, glo_ok X G (c.a.fact 52 (f := .glo "is_line") rfl), F.bindsN fun _ _ _ _ _ _ us hl => match us, hl with | [_, _], _ => rfl, code_of Ff⟩
theorem fd_tested_in (X : K.In h) (G : h.Ns mainGlobals mg) (c : SaysH fa fn tf ex h K) : FDL K mg "tested_in" s_tested_in ["lines"] := by
  obtain ⟨fd, F⟩ := c.a.def_ 4 (d := d_tested_in) rfl
  have Ff := He5.fun_of (x := "tested_in") (qual := "tested_in") (st := s_tested_in) (f := ga K "tested_in") F
  exact ⟨_, fd, Ff, glo_ok X G (c.a.fact 53 (f := .glo "tested_in") rfl), F.bindsN fun _ _ _ _ _ _ us hl => match us, hl with | [_], _ => rfl, code_of Ff⟩
theorem fd_require_lines (X : K.In h) (G : h.Ns mainGlobals mg) (c : SaysH fa fn tf ex h K) : FDL K mg "require_lines" s_require_lines ["lines"] := by
  obtain ⟨fd, F⟩ := c.a.def_ 5 (d := d_require_lines) rfl
  have Ff := He5.fun_of (x := "require_lines") (qual := "require_lines") (st := s_require_lines) (f := ga K "require_lines") F
  exact ⟨_, fd, Ff, glo_ok X G (c.a.fact 54 (f := .glo "require_lines") rfl), F.bindsN fun _ _ _ _ _ _ us hl => match us, hl with | [_], _ => rfl, code_of Ff⟩
theorem fd_require_text (X : K.In h) (G : h.Ns mainGlobals mg) (c : SaysH fa fn tf ex h K) : FDL K mg "require_text" s_require_text ["text"] := by
  obtain ⟨fd, F⟩ := c.a.def_ 6 (d := d_require_text) rfl
  have Ff := He5.fun_of (x := "require_text") (qual := "require_text") (st := s_require_text) (f := ga K "require_text") F
  exact ⟨_, fd, Ff, glo_ok X G (c.a.fact 55 (f := .glo "require_text") rfl), F.bindsN fun _ _ _ _ _ _ us hl => match us, hl with | [_], _ => rfl, code_of Ff⟩
theorem fd_require_equal_text (X : K.In h) (G : h.Ns mainGlobals mg) (c : SaysH fa fn tf ex h K) : FDL K mg "require_equal_text" s_require_equal_text ["one", "other"] := by
  obtain ⟨fd, F⟩ := c.a.def_ 7 (d := d_require_equal_text) rfl
  have Ff := He5.fun_of (x := "require_equal_text") (qual := "require_equal_text") (st := s_require_equal_text) (f := ga K "require_equal_text") F
  exact ⟨_, fd, Ff, glo_ok X G (c.a.fact 56 (f := .glo "require_equal_text") rfl), F.bindsN fun _ _ _ _ _ _ us hl => match us, hl with | [_, _], _ => rfl, code_of Ff⟩
theorem fd_integer_in (X : K.In h) (G : h.Ns mainGlobals mg) (c : SaysH fa fn tf ex h K) : FDL K mg "integer_in" s_integer_in ["word"] := by
  obtain ⟨fd, F⟩ := c.a.def_ 8 (d := d_integer_in) rfl
  have Ff := He5.fun_of (x := "integer_in") (qual := "integer_in") (st := s_integer_in) (f := ga K "integer_in") F
  exact ⟨_, fd, Ff, glo_ok X G (c.a.fact 57 (f := .glo "integer_in") rfl), F.bindsN fun _ _ _ _ _ _ us hl => match us, hl with | [_], _ => rfl, code_of Ff⟩
theorem fd_words_of_lines (X : K.In h) (G : h.Ns mainGlobals mg) (c : SaysH fa fn tf ex h K) : FDL K mg "words_of_lines" s_words_of_lines ["text"] := by
  obtain ⟨fd, F⟩ := c.a.def_ 9 (d := d_words_of_lines) rfl
  have Ff := He5.fun_of (x := "words_of_lines") (qual := "words_of_lines") (st := s_words_of_lines) (f := ga K "words_of_lines") F
  exact ⟨_, fd, Ff, glo_ok X G (c.a.fact 58 (f := .glo "words_of_lines") rfl), F.bindsN fun _ _ _ _ _ _ us hl => match us, hl with | [_], _ => rfl, code_of Ff⟩
theorem fd_line_text (X : K.In h) (G : h.Ns mainGlobals mg) (c : SaysH fa fn tf ex h K) : FDL K mg "line_text" s_line_text ["line"] := by
  obtain ⟨fd, F⟩ := c.a.def_ 10 (d := d_line_text) rfl
  have Ff := He5.fun_of (x := "line_text") (qual := "line_text") (st := s_line_text) (f := ga K "line_text") F
  exact ⟨_, fd, Ff, glo_ok X G (c.a.fact 59 (f := .glo "line_text") rfl), F.bindsN fun _ _ _ _ _ _ us hl => match us, hl with | [_], _ => rfl, code_of Ff⟩
theorem fd_line_of (X : K.In h) (G : h.Ns mainGlobals mg) (c : SaysH fa fn tf ex h K) : FDL K mg "line_of" s_line_of ["words"] := by
  obtain ⟨fd, F⟩ := c.a.def_ 11 (d := d_line_of) rfl
  have Ff := He5.fun_of (x := "line_of") (qual := "line_of") (st := s_line_of) (f := ga K "line_of") F
  exact ⟨_, fd, Ff, glo_ok X G (c.a.fact 60 (f := .glo "line_of") rfl), F.bindsN fun _ _ _ _ _ _ us hl => match us, hl with | [_], _ => rfl, code_of Ff⟩
theorem fd_reader_text (X : K.In h) (G : h.Ns mainGlobals mg) (c : SaysH fa fn tf ex h K) : FDL K mg "reader_text" s_reader_text ["reader"] := by
  obtain ⟨fd, F⟩ := c.a.def_ 12 (d := d_reader_text) rfl
  have Ff := He5.fun_of (x := "reader_text") (qual := "reader_text") (st := s_reader_text) (f := ga K "reader_text") F
  exact ⟨_, fd, Ff, glo_ok X G (c.a.fact 61 (f := .glo "reader_text") rfl), F.bindsN fun _ _ _ _ _ _ us hl => match us, hl with | [_], _ => rfl, code_of Ff⟩
theorem fd_read_reader (X : K.In h) (G : h.Ns mainGlobals mg) (c : SaysH fa fn tf ex h K) : FDL K mg "read_reader" s_read_reader ["text"] := by
  obtain ⟨fd, F⟩ := c.a.def_ 13 (d := d_read_reader) rfl
  have Ff := He5.fun_of (x := "read_reader") (qual := "read_reader") (st := s_read_reader) (f := ga K "read_reader") F
  exact ⟨_, fd, Ff, glo_ok X G (c.a.fact 62 (f := .glo "read_reader") rfl), F.bindsN fun _ _ _ _ _ _ us hl => match us, hl with | [_], _ => rfl, code_of Ff⟩
theorem fd_law_dice (X : K.In h) (G : h.Ns mainGlobals mg) (c : SaysH fa fn tf ex h K) : FDL K mg "_law_dice" s_law_dice ["_law_script", "_law_at"] := by
  obtain ⟨fd, F⟩ := c.a.def_ 14 (d := d_law_dice) rfl
  have Ff := He5.fun_of (x := "_law_dice") (qual := "_law_dice") (st := s_law_dice) (f := ga K "_law_dice") F
  exact ⟨_, fd, Ff, glo_ok X G (c.a.fact 63 (f := .glo "_law_dice") rfl), F.bindsN fun _ _ _ _ _ _ us hl => match us, hl with | [_, _], _ => rfl, code_of Ff⟩
theorem fd_law_roll (X : K.In h) (G : h.Ns mainGlobals mg) (c : SaysH fa fn tf ex h K) : FDL K mg "_law_roll" s_law_roll ["_law_dice_here", "_law_total"] := by
  obtain ⟨fd, F⟩ := c.a.def_ 15 (d := d_law_roll) rfl
  have Ff := He5.fun_of (x := "_law_roll") (qual := "_law_roll") (st := s_law_roll) (f := ga K "_law_roll") F
  exact ⟨_, fd, Ff, glo_ok X G (c.a.fact 64 (f := .glo "_law_roll") rfl), F.bindsN fun _ _ _ _ _ _ us hl => match us, hl with | [_, _], _ => rfl, code_of Ff⟩
theorem fd_law_one_of (X : K.In h) (G : h.Ns mainGlobals mg) (c : SaysH fa fn tf ex h K) : FDL K mg "_law_one_of" s_law_one_of ["_law_dice_here", "_law_items"] := by
  obtain ⟨fd, F⟩ := c.a.def_ 16 (d := d_law_one_of) rfl
  have Ff := He5.fun_of (x := "_law_one_of") (qual := "_law_one_of") (st := s_law_one_of) (f := ga K "_law_one_of") F
  exact ⟨_, fd, Ff, glo_ok X G (c.a.fact 65 (f := .glo "_law_one_of") rfl), F.bindsN fun _ _ _ _ _ _ us hl => match us, hl with | [_, _], _ => rfl, code_of Ff⟩
theorem fd_law_name (X : K.In h) (G : h.Ns mainGlobals mg) (c : SaysH fa fn tf ex h K) : FDL K mg "_law_name" s_law_name ["_law_dice_here"] := by
  obtain ⟨fd, F⟩ := c.a.def_ 17 (d := d_law_name) rfl
  have Ff := He5.fun_of (x := "_law_name") (qual := "_law_name") (st := s_law_name) (f := ga K "_law_name") F
  exact ⟨_, fd, Ff, glo_ok X G (c.a.fact 66 (f := .glo "_law_name") rfl), F.bindsN fun _ _ _ _ _ _ us hl => match us, hl with | [_], _ => rfl, code_of Ff⟩
theorem fd_law_names (X : K.In h) (G : h.Ns mainGlobals mg) (c : SaysH fa fn tf ex h K) : FDL K mg "_law_names" s_law_names ["_law_dice_here", "_law_many"] := by
  obtain ⟨fd, F⟩ := c.a.def_ 18 (d := d_law_names) rfl
  have Ff := He5.fun_of (x := "_law_names") (qual := "_law_names") (st := s_law_names) (f := ga K "_law_names") F
  exact ⟨_, fd, Ff, glo_ok X G (c.a.fact 67 (f := .glo "_law_names") rfl), F.bindsN fun _ _ _ _ _ _ us hl => match us, hl with | [_, _], _ => rfl, code_of Ff⟩
theorem fd_law_line (X : K.In h) (G : h.Ns mainGlobals mg) (c : SaysH fa fn tf ex h K) : FDL K mg "_law_line" s_law_line ["_law_dice_here", "_law_size", "_law_words"] := by
  obtain ⟨fd, F⟩ := c.a.def_ 19 (d := d_law_line) rfl
  have Ff := He5.fun_of (x := "_law_line") (qual := "_law_line") (st := s_law_line) (f := ga K "_law_line") F
  exact ⟨_, fd, Ff, glo_ok X G (c.a.fact 68 (f := .glo "_law_line") rfl), F.bindsN fun _ _ _ _ _ _ us hl => match us, hl with | [_, _, _], _ => rfl, code_of Ff⟩
theorem fd_law_lines (X : K.In h) (G : h.Ns mainGlobals mg) (c : SaysH fa fn tf ex h K) : FDL K mg "_law_lines" s_law_lines ["_law_dice_here"] := by
  obtain ⟨fd, F⟩ := c.a.def_ 20 (d := d_law_lines) rfl
  have Ff := He5.fun_of (x := "_law_lines") (qual := "_law_lines") (st := s_law_lines) (f := ga K "_law_lines") F
  exact ⟨_, fd, Ff, glo_ok X G (c.a.fact 69 (f := .glo "_law_lines") rfl), F.bindsN fun _ _ _ _ _ _ us hl => match us, hl with | [_], _ => rfl, code_of Ff⟩
theorem fd_law_lines_text (X : K.In h) (G : h.Ns mainGlobals mg) (c : SaysH fa fn tf ex h K) : FDL K mg "_law_lines_text" s_law_lines_text ["_law_lines_here"] := by
  obtain ⟨fd, F⟩ := c.a.def_ 21 (d := d_law_lines_text) rfl
  have Ff := He5.fun_of (x := "_law_lines_text") (qual := "_law_lines_text") (st := s_law_lines_text) (f := ga K "_law_lines_text") F
  exact ⟨_, fd, Ff, glo_ok X G (c.a.fact 70 (f := .glo "_law_lines_text") rfl), F.bindsN fun _ _ _ _ _ _ us hl => match us, hl with | [_], _ => rfl, code_of Ff⟩
theorem fd_law_met (X : K.In h) (G : h.Ns mainGlobals mg) (c : SaysH fa fn tf ex h K) : FDL K mg "_law_met" s_law_met ["_law_call"] := by
  obtain ⟨fd, F⟩ := c.a.def_ 22 (d := d_law_met) rfl
  have Ff := He5.fun_of (x := "_law_met") (qual := "_law_met") (st := s_law_met) (f := ga K "_law_met") F
  exact ⟨_, fd, Ff, glo_ok X G (c.a.fact 71 (f := .glo "_law_met") rfl), F.bindsN fun _ _ _ _ _ _ us hl => match us, hl with | [_], _ => rfl, code_of Ff⟩
theorem fd_law_odd_text (X : K.In h) (G : h.Ns mainGlobals mg) (c : SaysH fa fn tf ex h K) : FDL K mg "_law_odd_text" s_law_odd_text ["_law_dice_here"] := by
  obtain ⟨fd, F⟩ := c.a.def_ 23 (d := d_law_odd_text) rfl
  have Ff := He5.fun_of (x := "_law_odd_text") (qual := "_law_odd_text") (st := s_law_odd_text) (f := ga K "_law_odd_text") F
  exact ⟨_, fd, Ff, glo_ok X G (c.a.fact 72 (f := .glo "_law_odd_text") rfl), F.bindsN fun _ _ _ _ _ _ us hl => match us, hl with | [_], _ => rfl, code_of Ff⟩
theorem fd_law_near (X : K.In h) (G : h.Ns mainGlobals mg) (c : SaysH fa fn tf ex h K) : FDL K mg "_law_near" s_law_near ["_law_dice_here", "_law_text"] := by
  obtain ⟨fd, F⟩ := c.a.def_ 24 (d := d_law_near) rfl
  have Ff := He5.fun_of (x := "_law_near") (qual := "_law_near") (st := s_law_near) (f := ga K "_law_near") F
  exact ⟨_, fd, Ff, glo_ok X G (c.a.fact 73 (f := .glo "_law_near") rfl), F.bindsN fun _ _ _ _ _ _ us hl => match us, hl with | [_, _], _ => rfl, code_of Ff⟩
theorem fd_law_is_name (X : K.In h) (G : h.Ns mainGlobals mg) (c : SaysH fa fn tf ex h K) : FDL K mg "_law_is_name" s_law_is_name ["_law_word"] := by
  obtain ⟨fd, F⟩ := c.a.def_ 25 (d := d_law_is_name) rfl
  have Ff := He5.fun_of (x := "_law_is_name") (qual := "_law_is_name") (st := s_law_is_name) (f := ga K "_law_is_name") F
  exact ⟨_, fd, Ff, glo_ok X G (c.a.fact 74 (f := .glo "_law_is_name") rfl), F.bindsN fun _ _ _ _ _ _ us hl => match us, hl with | [_], _ => rfl, code_of Ff⟩
theorem fd_law_number (X : K.In h) (G : h.Ns mainGlobals mg) (c : SaysH fa fn tf ex h K) : FDL K mg "_law_number" s_law_number ["_law_word"] := by
  obtain ⟨fd, F⟩ := c.a.def_ 26 (d := d_law_number) rfl
  have Ff := He5.fun_of (x := "_law_number") (qual := "_law_number") (st := s_law_number) (f := ga K "_law_number") F
  exact ⟨_, fd, Ff, glo_ok X G (c.a.fact 75 (f := .glo "_law_number") rfl), F.bindsN fun _ _ _ _ _ _ us hl => match us, hl with | [_], _ => rfl, code_of Ff⟩
theorem fd_law_line_read (X : K.In h) (G : h.Ns mainGlobals mg) (c : SaysH fa fn tf ex h K) : FDL K mg "_law_line_read" s_law_line_read ["_law_line_here", "_law_size"] := by
  obtain ⟨fd, F⟩ := c.a.def_ 27 (d := d_law_line_read) rfl
  have Ff := He5.fun_of (x := "_law_line_read") (qual := "_law_line_read") (st := s_law_line_read) (f := ga K "_law_line_read") F
  exact ⟨_, fd, Ff, glo_ok X G (c.a.fact 76 (f := .glo "_law_line_read") rfl), F.bindsN fun _ _ _ _ _ _ us hl => match us, hl with | [_, _], _ => rfl, code_of Ff⟩
theorem fd_law_lines_read (X : K.In h) (G : h.Ns mainGlobals mg) (c : SaysH fa fn tf ex h K) : FDL K mg "_law_lines_read" s_law_lines_read ["_law_text"] := by
  obtain ⟨fd, F⟩ := c.a.def_ 28 (d := d_law_lines_read) rfl
  have Ff := He5.fun_of (x := "_law_lines_read") (qual := "_law_lines_read") (st := s_law_lines_read) (f := ga K "_law_lines_read") F
  exact ⟨_, fd, Ff, glo_ok X G (c.a.fact 77 (f := .glo "_law_lines_read") rfl), F.bindsN fun _ _ _ _ _ _ us hl => match us, hl with | [_], _ => rfl, code_of Ff⟩
theorem fd_law_read (X : K.In h) (G : h.Ns mainGlobals mg) (c : SaysH fa fn tf ex h K) : FDL K mg "_law_read" s_law_read ["_law_text"] := by
  obtain ⟨fd, F⟩ := c.a.def_ 29 (d := d_law_read) rfl
  have Ff := He5.fun_of (x := "_law_read") (qual := "_law_read") (st := s_law_read) (f := ga K "_law_read") F
  exact ⟨_, fd, Ff, glo_ok X G (c.a.fact 78 (f := .glo "_law_read") rfl), F.bindsN fun _ _ _ _ _ _ us hl => match us, hl with | [_], _ => rfl, code_of Ff⟩
theorem fd_law_near_right (X : K.In h) (G : h.Ns mainGlobals mg) (c : SaysH fa fn tf ex h K) : FDL K mg "_law_near_right" s_law_near_right ["_law_text"] := by
  obtain ⟨fd, F⟩ := c.a.def_ 30 (d := d_law_near_right) rfl
  have Ff := He5.fun_of (x := "_law_near_right") (qual := "_law_near_right") (st := s_law_near_right) (f := ga K "_law_near_right") F
  exact ⟨_, fd, Ff, glo_ok X G (c.a.fact 79 (f := .glo "_law_near_right") rfl), F.bindsN fun _ _ _ _ _ _ us hl => match us, hl with | [_], _ => rfl, code_of Ff⟩
theorem fd_law_right (X : K.In h) (G : h.Ns mainGlobals mg) (c : SaysH fa fn tf ex h K) : FDL K mg "_law_right" s_law_right ["_law_dice_here"] := by
  obtain ⟨fd, F⟩ := c.a.def_ 31 (d := d_law_right) rfl
  have Ff := He5.fun_of (x := "_law_right") (qual := "_law_right") (st := s_law_right) (f := ga K "_law_right") F
  exact ⟨_, fd, Ff, glo_ok X G (c.a.fact 80 (f := .glo "_law_right") rfl), F.bindsN fun _ _ _ _ _ _ us hl => match us, hl with | [_], _ => rfl, code_of Ff⟩
theorem fd_law (X : K.In h) (G : h.Ns mainGlobals mg) (c : SaysH fa fn tf ex h K) : FDL K mg "law" s_law ["_law_script"] := by
  obtain ⟨fd, F⟩ := c.a.def_ 32 (d := d_law) rfl
  have Ff := He5.fun_of (x := "law") (qual := "law") (st := s_law) (f := ga K "law") F
  exact ⟨_, fd, Ff, glo_ok X G (c.a.fact 81 (f := .glo "law") rfl), F.bindsN fun _ _ _ _ _ _ us hl => match us, hl with | [_], _ => rfl, code_of Ff⟩
theorem fm_Reader_init (c : SaysH fa fn tf ex h K) : ∃ fd, Fun K "__init__" "Reader.__init__" s_Reader_init (ma K (ga K "Reader") "__init__") fd := by
  obtain ⟨fd, F⟩ := c.a.def_ 33 (d := d_Reader_init) rfl
  have Ff := He5.fun_of (x := "__init__") (qual := "Reader.__init__") (st := s_Reader_init) (f := ma K (ga K "Reader") "__init__") F
  exact ⟨fd, Ff⟩
theorem fm_Reader_of (c : SaysH fa fn tf ex h K) : ∃ fd, Fun K "of" "Reader.of" s_Reader_of (He5.wf K (ga K "Reader") "classmethod" "of") fd ∧ Binds K fd ["cls", "lines"] [] := by
  obtain ⟨fd, F⟩ := c.a.def_ 34 (d := d_Reader_of) rfl
  have Ff := He5.fun_of (x := "of") (qual := "Reader.of") (st := s_Reader_of) (f := He5.wf K (ga K "Reader") "classmethod" "of") F
  exact ⟨fd, Ff, F.bindsN fun _ _ _ _ _ _ us hl => match us, hl with | [_, _], _ => rfl⟩
theorem fm_Reader_lines (c : SaysH fa fn tf ex h K) : ∃ fd, Fun K "lines" "Reader.lines" s_Reader_lines (He5.wf K (ga K "Reader") "property" "lines") fd ∧ Binds K fd ["self"] [] := by
  obtain ⟨fd, F⟩ := c.a.def_ 35 (d := d_Reader_lines) rfl
  have Ff := He5.fun_of (x := "lines") (qual := "Reader.lines") (st := s_Reader_lines) (f := He5.wf K (ga K "Reader") "property" "lines") F
  exact ⟨fd, Ff, F.bindsN fun _ _ _ _ _ _ us hl => match us, hl with | [_], _ => rfl⟩
theorem fm_Reader_tested (c : SaysH fa fn tf ex h K) : ∃ fd, Fun K "tested" "Reader.tested" s_Reader_tested (He5.wf K (ga K "Reader") "property" "tested") fd ∧ Binds K fd ["self"] [] := by
  obtain ⟨fd, F⟩ := c.a.def_ 36 (d := d_Reader_tested) rfl
  have Ff := He5.fun_of (x := "tested") (qual := "Reader.tested") (st := s_Reader_tested) (f := He5.wf K (ga K "Reader") "property" "tested") F
  exact ⟨fd, Ff, F.bindsN fun _ _ _ _ _ _ us hl => match us, hl with | [_], _ => rfl⟩
theorem fm_Reader_eq (c : SaysH fa fn tf ex h K) : ∃ fd, Fun K "__eq__" "Reader.__eq__" s_Reader_eq (ma K (ga K "Reader") "__eq__") fd ∧ Binds K fd ["self", "other"] [] := by
  obtain ⟨fd, F⟩ := c.a.def_ 37 (d := d_Reader_eq) rfl
  have Ff := He5.fun_of (x := "__eq__") (qual := "Reader.__eq__") (st := s_Reader_eq) (f := ma K (ga K "Reader") "__eq__") F
  exact ⟨fd, Ff, F.bindsN fun _ _ _ _ _ _ us hl => match us, hl with | [_, _], _ => rfl⟩
theorem fdl {x : Str} {st : Stmt} {ps : List Str} (F : FDL K mg x st ps) : FD K mg x st ps := by
  obtain ⟨f, fd, a, b, c, _⟩ := F
  exact ⟨f, fd, a, b, c⟩
end
theorem law_binds {K : PySem.W.Frag} {f0 : Addr} {fd0 : FuncData} (F : Fun K "law" "law" s_law f0 fd0) (s : Shared) (u : Value) : BindsTo s fd0 ⟨[u], []⟩ [("_law_script", u)] := by
  obtain ⟨oc, od, kV, doc, pm, an, cdv, ct, osl, e, lk, hcd⟩ := F.ex
  subst e
  exact .of_eq rfl
theorem law_at {P : Program} {w : World} {K : PySem.W.Frag} {h base : Heap} {mg : Str → Option Value} {f0 : Addr} {fd0 : FuncData} (X : K.In h) (G : h.Ns mainGlobals mg) (c : SaysH fa fn tf ex h K) (F : Fun K "law" "law" s_law f0 fd0) (hc0 : fd0.code = .ref (cT K ("law", none)).1)
    (tb : ∀ p ∈ tf, LamX.TabB base mg (cT K p).1 (cT K p).2) : FnOk P w K mg base CX0 31 f0 fd0 ["_law_script"] (SpLaw K 63) := by
  have T := txt_of X G c
  have B : Tbl K mg base := ⟨tb _ List.mem_cons_self, tb _ (List.mem_cons_of_mem _ List.mem_cons_self), by
    obtain ⟨b0, b1, b2, b3, b4, b5, b6, b7, b8, b9, b10, b11, b12, b13, b14, b15, b16, b17, b18, b19, b20, b21, b22, b23, b24, b25, b26, b27, b28, b29, b30, b31, b32, b33, b34, b35, b36, b37, b38, b39, b40, b41, b42, b43, b44, b45, b46, b47, b48, b49⟩ := ex_parts c.more
    exact of_decide_eq_true b0⟩
  have c_is_integer := ok_is_integer (P := P) (w := w) (base := base) T (fdl (fd_is_integer X G c))
  have c_is_name := ok_is_name (P := P) (w := w) (base := base) T (fdl (fd_is_name X G c))
  have c_is_target := ok_is_target (P := P) (w := w) (base := base) T (fdl (fd_is_target X G c)) c_is_integer
  have c_is_line := ok_is_line (P := P) (w := w) (base := base) T (fdl (fd_is_line X G c)) c_is_target c_is_name
  have c_tested_in := ok_tested_in (P := P) (w := w) (base := base) T (fdl (fd_tested_in X G c))
  have c_require_lines := ok_require_lines (P := P) (w := w) (base := base) T (fdl (fd_require_lines X G c)) c_tested_in c_is_line
  have c_require_text := ok_require_text (P := P) (w := w) (base := base) T (fdl (fd_require_text X G c))
  have c_require_equal_text := ok_require_equal_text (P := P) (w := w) (base := base) T (fdl (fd_require_equal_text X G c))
  have c_integer_in := ok_integer_in (P := P) (w := w) (base := base) T (fdl (fd_integer_in X G c))
  have c_words_of_lines := ok_words_of_lines (P := P) (w := w) (base := base) T (fdl (fd_words_of_lines X G c))
  have c_line_text := ok_line_text (P := P) (w := w) (base := base) T (fdl (fd_line_text X G c))
  have c_line_of := ok_line_of (P := P) (w := w) (base := base) T (fdl (fd_line_of X G c)) c_integer_in
  obtain ⟨fdi, Fi⟩ := fm_Reader_init c
  have hI := rd_init (P := P) (w := w) (base := base) T Fi c_require_lines.zc.calm
  obtain ⟨fdo, Fo, bo⟩ := fm_Reader_of c
  have m_of := rd_of (P := P) (w := w) (base := base) T Fo bo c_require_lines hI
  obtain ⟨fdl_, Fl, bl⟩ := fm_Reader_lines c
  have m_lines := rd_lines (P := P) (w := w) (base := base) T Fl bl
  obtain ⟨fdt, Ft, bt⟩ := fm_Reader_tested c
  have m_tested := rd_tested (P := P) (w := w) (base := base) T Ft bt c_tested_in
  obtain ⟨fde, Fe, be⟩ := fm_Reader_eq c
  have m_eq := rd_eq (P := P) (w := w) (base := base) T Fe be
  have c_reader_text := ok_reader_text (P := P) (w := w) (base := base) T (fdl (fd_reader_text X G c)) c_line_text
  have c_read_reader := ok_read_reader (P := P) (w := w) (base := base) T (fdl (fd_read_reader X G c)) c_require_text c_require_equal_text c_reader_text c_line_of c_words_of_lines m_of
  have c_law_roll := ok_law_roll (P := P) (w := w) (base := base) T (fdl (fd_law_roll X G c))
  have c_law_one_of := ok_law_one_of (P := P) (w := w) (base := base) T (fdl (fd_law_one_of X G c)) c_law_roll
  have c_law_name := ok_law_name (P := P) (w := w) (base := base) T (fdl (fd_law_name X G c)) c_law_roll c_law_one_of
  have c_law_names := ok_law_names (P := P) (w := w) (base := base) T (fdl (fd_law_names X G c)) c_law_one_of c_law_roll c_law_name
  have c_law_line := ok_law_line (P := P) (w := w) (base := base) T (fdl (fd_law_line X G c)) c_law_roll c_law_one_of
  have c_law_lines := ok_law_lines (P := P) (w := w) (base := base) T (fdl (fd_law_lines X G c)) c_law_one_of c_law_names c_law_line
  have c_law_lines_text := ok_law_lines_text (P := P) (w := w) (base := base) T (fdl (fd_law_lines_text X G c))
  have c_law_odd_text := ok_law_odd_text (P := P) (w := w) (base := base) T (fdl (fd_law_odd_text X G c)) c_law_one_of
  have c_law_near := ok_law_near (P := P) (w := w) (base := base) T (fdl (fd_law_near X G c)) c_law_one_of c_law_roll
  have c_law_is_name := ok_law_is_name (P := P) (w := w) (base := base) T (fdl (fd_law_is_name X G c))
  have c_law_number := ok_law_number (P := P) (w := w) (base := base) T (fdl (fd_law_number X G c))
  have c_law_line_read := ok_law_line_read (P := P) (w := w) (base := base) T (fdl (fd_law_line_read X G c)) c_law_number c_law_is_name
  have c_law_lines_read := ok_law_lines_read (P := P) (w := w) (base := base) T (fdl (fd_law_lines_read X G c)) c_law_line_read
  have c_law_read := ok_law_read (P := P) (w := w) (base := base) T (fdl (fd_law_read X G c)) c_read_reader
  have c_law_near_right := ok_law_near_right (P := P) (w := w) (base := base) T (fdl (fd_law_near_right X G c)) c_law_lines_read c_law_read c_reader_text.calm m_lines
  have FM := (fdl (fd_law_met X G c))
  have c_law_right := ok_law_right (P := P) (w := w) (base := base) T (fd_law_right X G c) c_law_lines c_read_reader c_law_lines_text c_reader_text c_law_one_of c_law_odd_text c_law_near_right c_law_near FM B m_of m_lines m_eq
  have dice := ok_law_dice (P := P) (w := w) (base := base) T (fdl (fd_law_dice X G c))
  exact ok_law T F hc0 c_read_reader c_law_right c_reader_text dice FM B hI m_lines m_tested m_eq
end K82
open PySem PySem.W PySem.Calls PyProof.Rows
set_option maxHeartbeats 0 in
theorem PySem.Challenge.cw_asunmoved_k82_texts_of_readers_holds : PySem.Challenge.rw_asunmoved_k82_texts_of_readers.Holds := by
  w_on; o_law
  refine HandSHeadRun.head_any (r := OpenLaw.row PySem.Challenge.rw_asunmoved_k82_texts_of_readers) (q := view (OpenLaw.row PySem.Challenge.rw_asunmoved_k82_texts_of_readers).prog [63]) (H := K82.hk) (ob := K82.ob) (M := 20000) (loose := K82.nms) (d := HandSHeadRun.topDef (OpenLaw.row PySem.Challenge.rw_asunmoved_k82_texts_of_readers).prog 63) (kwd := []) K82.ob_eq
    (by kernel_rfl) (fun s => by kernel_rfl) K82.run (by kernel_rfl) (by kernel_rfl) (by kernel_rfl) (by rfl) (by first | assumption | decide +kernel) (by decide +kernel) ⟨rfl, rfl, rfl, rfl, rfl, by decide +kernel⟩ ?hw ?hc
  case hw => w_witness2
  case hc =>
    refine LamX.walk_ofTsE (l := PySem.Challenge.rw_asunmoved_k82_texts_of_readers) (n := 63) (k := 31) (x := "_law_script") (CX := fun _ => L2.CX0) rfl (by decide) (by kernel_rfl) ⟨rfl, by decide, by decide⟩ ?F (fun _ _ _ _ _ z => z)
    intro w mg fa h Y G hmg0
    obtain ⟨K, KX, c⟩ := Y
    have hmg : mg ("law" : PySem.Str) = some (.ref fa) := by
      have e : (HandSHeadRun.topDef (OpenLaw.row PySem.Challenge.rw_asunmoved_k82_texts_of_readers).prog 63).name = ("law" : PySem.Str) := by kernel_rfl
      rw [← e]
      exact hmg0
    obtain ⟨f0, fd0, F, hf, hb, hc0⟩ := K82.fd_law KX G c
    rw [hmg] at hf
    cases hf
    refine ⟨K, KX, fd0, K82.tf.map (He.cT K), DL.SpLaw K 63, fun p hp => ?_, fun p hp => ?_, fun p hp => ?_, fun s u => ?_, fun H a ns hl _ ht hs => ⟨a, ns, rfl, hs, hl, ?_, fun _ => rfl⟩, fun base _ _ tb => K82.law_at KX G c F hc0 fun p hp => tb _ (List.mem_map.mpr ⟨p, hp, rfl⟩)⟩
    · obtain ⟨q, hq, rfl⟩ := List.mem_map.mp hp
      exact c.empty q hq
    · obtain ⟨q, hq, rfl⟩ := List.mem_map.mp hp
      exact c.out q hq
    · obtain ⟨q, hq, rfl⟩ := List.mem_map.mp hp
      exact PySem.W.codeHd_of_K KX (c.hd q hq)
    · exact K82.law_binds F s u
    · intro p hp
      have ht := fun q hq => ht (He.cT K q) (List.mem_map.mpr ⟨q, hq, rfl⟩)
      unfold DL.TBS DL.tblAt at hp
      simp only [List.mem_cons, List.not_mem_nil, or_false] at hp
      rcases hp with rfl | rfl
      · exact LamX.TabS.nil (ht ("law", none) List.mem_cons_self)
      · exact LamX.TabS.nil (ht ("_law_right", none) (List.mem_cons_of_mem _ List.mem_cons_self))
