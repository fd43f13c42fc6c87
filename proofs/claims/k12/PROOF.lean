import PyProof.Rows.All
import Wide.All
import OpenK.AllK
import Wide.FinOn
import HandS.ForMost
import HandS.Exc
import HandS.ExcOwn
import HandS.TryOnly
import HandS.WordsExc
import HandS.Defaults
import HandS.HeadHook1
import HandS.HeadHook2
import HandS.TupAny
import HandS.IsInst
import HandS.Deep
import HandS.Style
import HandS.Zip
import HandS.Iter
import HandS.Conv
import KE.KDictZip
import KE.GoesEnum
import HandS.DictComp
import HandS.NoneIn
import HandS.More
import KE.KStateDown
import HandS.Head0
import HandS.Head1
import HandS.Head2
import HandS.HeadEnd
import PySem.Challenge.RW_lackruns_k12_whole_all_between_earliest
set_option Elab.async false
set_option linter.all false
set_option maxRecDepth 100000
set_option maxHeartbeats 4000000
namespace DL
open PySem PySem.Spec PyProof.Rows L2

abbrev St := L2.St
/-! ## pure side: results, slots, mirrors -/
abbrev D := PyData
inductive Res (ε α : Type) where
  | ok (a : α)
  | exc (c : Str) (e : ε)
  | bad
/-- a slot of a frame: nothing known; frozen data; a list of its own (it may be changed); a list of the caller's (it may be changed) -/
inductive Sl where
  | un | dat (d : D) | own (ds : List D) | cel (ds : List D) | scr (ns : List Int) | dic (kvs : List (D × D)) | nst (rows : List (List D))
abbrev Ev := List Sl
abbrev M (α : Type) := Ev → Res Ev (α × Ev)
inductive Fl where
  | nx | rt (d : D) | ro (ds : List D) | bk | ct
abbrev MS := M Fl

def mPure {α : Type} (a : α) : M α := fun e => .ok (a, e)
def mBad {α : Type} : M α := fun _ => .bad
def bindR {α β : Type} (r : Res Ev (α × Ev)) (k : α → M β) : Res Ev (β × Ev) := match r with
  | .ok (a, e) => k a e
  | .exc c e => .exc c e
  | .bad => .bad
def mBind {α β : Type} (m : M α) (k : α → M β) : M β := fun e => bindR (m e) k
def mOpt {α : Type} (o : Option α) : M α := fun e => match o with
  | some a => .ok (a, e)
  | none => .bad

def wpR {α : Type} (r : Res Ev (α × Ev)) (Q : α → Ev → Prop) (E : Str → Ev → Prop) : Prop := match r with
  | .ok (a, e) => Q a e
  | .exc c e => E c e
  | .bad => False
theorem wpR.mono {α : Type} {r : Res Ev (α × Ev)} {Q Q' : α → Ev → Prop} {E E' : Str → Ev → Prop} (h : wpR r Q E) (hq : ∀ a e, Q a e → Q' a e) (he : ∀ c e, E c e → E' c e) : wpR r Q' E' := by
  cases r with
  | ok p => exact hq _ _ h
  | exc c e => exact he _ _ h
  | bad => exact h
theorem wpR.bind {α β : Type} {r : Res Ev (α × Ev)} {k : α → M β} {Q : β → Ev → Prop} {E : Str → Ev → Prop} (h : wpR (bindR r k) Q E) : wpR r (fun a e => wpR (k a e) Q E) E := by
  cases r with
  | ok p => exact h
  | exc c e => exact h
  | bad => exact h
theorem wpR.opt {α : Type} {o : Option α} {e : Ev} {Q : α → Ev → Prop} {E : Str → Ev → Prop} (h : wpR (mOpt o e) Q E) : ∃ a, o = some a ∧ Q a e := by
  cases o with
  | none => exact h.elim
  | some a => exact ⟨a, rfl, h⟩

/-! ## heaps -/
abbrev Sub (G H : Hp) : Prop := Same G H
theorem rd_mono {G G' : Hp} (s : Sub G G') {a : Addr} {u : HO} (h : Rd G a u) : Rd G' a u := by
  rcases h with h | ⟨o, h⟩
  · exact .inl (s _ _ h)
  · exact .inr ⟨o, s _ _ h⟩
/-- {None: x} -/
def noneD (a : Addr) (x : V) : Heap → Prop := fun h => (a == sysModules) = false ∧ ∃ (o : Obj) (en : DictEntry) (ep : Nat), h.get? a = some o ∧ o.ExactDict ∧ o.data = .dict #[en] ep ∧ en.key = .none ∧ en.hash = reduceHash 0xFCA86420 ∧ RelV x en.val
mutual
inductive Dt (G : Hp) : V → D → Prop
  | non : Dt G .non .none
  | bl (b : Bool) : Dt G (.bl b) (.bool b)
  | int (i : Int) : Dt G (.int i) (.int i)
  | str (x : Str) : Dt G (.str x) (.str x)
  | lst {a : Addr} {xs : List V} {ds : List D} : Rd G a (.lst xs) → DtAll G xs ds → Dt G (.ref a) (.list ds)
  | tup {a : Addr} {xs : List V} {ds : List D} : Rd G a (.tup xs) → DtAll G xs ds → Dt G (.ref a) (.tuple ds)
  | dic {a : Addr} {o : Obj} {ks : List (Key × V)} {ds : List (D × D)} : G a = some (.frz o (.dK ks)) → DtKv G ks ds → Dt G (.ref a) (.dict ds)
  | dicN {a : Addr} {o : Obj} {x : V} {d : D} : G a = some (.frz o (.ext (noneD a x))) → Dt G x d → Dt G (.ref a) (.dict [(.none, d)])
inductive DtAll (G : Hp) : List V → List D → Prop
  | nil : DtAll G [] []
  | cons {v : V} {vs : List V} {d : D} {ds : List D} : Dt G v d → DtAll G vs ds → DtAll G (v :: vs) (d :: ds)
/-- keys (whole numbers) and their values -/
inductive DtKv (G : Hp) : List (Key × V) → List (D × D) → Prop
  | nil : DtKv G [] []
  | cons (i : Int) {v : V} {ks : List (Key × V)} {d : D} {ds : List (D × D)} : Dt G v d → DtKv G ks ds → DtKv G ((.inl i, v) :: ks) ((.int i, d) :: ds)
end
mutual
theorem dt_dp {K : PySem.W.Frag} {G : Hp} : ∀ (d : D) (v : V), Dt G v d → d.canLay0 = true → Dp K G v d
  | .none, _, h, _ => by cases h; exact .non
  | .bool b, _, h, _ => by cases h; exact .bl b
  | .int i, _, h, _ => by cases h; exact .int i
  | .str x, _, h, _ => by cases h; exact .str x
  | .list ds, _, h, c => by
    cases h with
    | lst hs ha => exact .lst (.inl hs) (dtAll_dp ds _ ha (by unfold PyData.canLay0 at c; exact c))
  | .tuple ds, _, h, c => by
    cases h with
    | tup hs ha => exact .tup (.inl hs) (dtAll_dp ds _ ha (by unfold PyData.canLay0 at c; exact c))
  | .dict _, _, h, c => by unfold PyData.canLay0 at c; cases c
theorem dtAll_dp {K : PySem.W.Frag} {G : Hp} : ∀ (ds : List D) (vs : List V), DtAll G vs ds → PyData.canLayAll0 ds = true → DpAll K G vs ds
  | [], _, h, _ => by cases h; exact .nil
  | d :: ds, _, h, c => by
    unfold PyData.canLayAll0 at c
    obtain ⟨c1, c2⟩ := Bool.and_eq_true_iff.mp c
    cases h with
    | cons h1 h2 => exact .cons (dt_dp d _ h1 c1) (dtAll_dp ds _ h2 c2)
end
mutual
theorem dp_mono {G G' : Hp} (s : Sub G G') : ∀ (d : D) (v : V), Dt G v d → Dt G' v d
  | .none, _, h => by cases h; exact .non
  | .bool b, _, h => by cases h; exact .bl b
  | .int i, _, h => by cases h; exact .int i
  | .str x, _, h => by cases h; exact .str x
  | .list ds, _, h => by
    cases h with
    | lst hs ha => exact .lst (rd_mono s hs) (dpAll_mono s ds _ ha)
  | .tuple ds, _, h => by
    cases h with
    | tup hs ha => exact .tup (rd_mono s hs) (dpAll_mono s ds _ ha)
  | .dict ds, _, h => by
    cases h with
    | dic hs ha => exact .dic (s _ _ hs) (dtKv_mono s ds _ ha)
    | dicN hs ha => exact .dicN (s _ _ hs) (dp_mono s _ _ ha)
theorem dpAll_mono {G G' : Hp} (s : Sub G G') : ∀ (ds : List D) (vs : List V), DtAll G vs ds → DtAll G' vs ds
  | [], _, h => by cases h; exact .nil
  | d :: ds, _, h => by
    cases h with
    | cons h1 h2 => exact .cons (dp_mono s d _ h1) (dpAll_mono s ds _ h2)
theorem dtKv_mono {G G' : Hp} (s : Sub G G') : ∀ (ds : List (D × D)) (ks : List (Key × V)), DtKv G ks ds → DtKv G' ks ds
  | [], _, h => by cases h; exact .nil
  | (k, d) :: ds, _, h => by
    cases h with
    | cons i h1 h2 => exact .cons i (dp_mono s d _ h1) (dtKv_mono s ds _ h2)
end
theorem Dt.mono {G G' : Hp} (s : Sub G G') {v : V} {d : D} (h : Dt G v d) : Dt G' v d := dp_mono s d v h
theorem DtAll.mono {G G' : Hp} (s : Sub G G') {vs : List V} {ds : List D} (h : DtAll G vs ds) : DtAll G' vs ds := dpAll_mono s ds vs h
theorem dpAll_len {G : Hp} : ∀ {vs : List V} {ds : List D}, DtAll G vs ds → vs.length = ds.length
  | [], _, h => by cases h; rfl
  | v :: vs, _, h => by
    cases h with
    | cons h1 h2 => exact congrArg Nat.succ (dpAll_len h2)
theorem dpAll_get {G : Hp} : ∀ {vs : List V} {ds : List D} {i : Nat} {d : D}, DtAll G vs ds → ds[i]? = some d → ∃ v, vs[i]? = some v ∧ Dt G v d
  | [], _, _, _, h, e => by cases h; simp at e
  | v :: vs, _, i, d, h, e => by
    cases h with
    | cons h1 h2 =>
      cases i with
      | zero =>
        simp at e
        subst e
        exact ⟨v, rfl, h1⟩
      | succ i =>
        obtain ⟨u, e1, e2⟩ := dpAll_get (i := i) h2 (by simpa using e)
        exact ⟨u, by simpa using e1, e2⟩
theorem dpAll_get' {G : Hp} : ∀ {vs : List V} {ds : List D} {i : Nat} {v : V}, DtAll G vs ds → vs[i]? = some v → ∃ d, ds[i]? = some d ∧ Dt G v d
  | [], _, _, _, h, e => by simp at e
  | v :: vs, _, i, u, h, e => by
    cases h with
    | @cons _ _ d ds h1 h2 =>
      cases i with
      | zero =>
        simp at e
        subst e
        exact ⟨d, rfl, h1⟩
      | succ i =>
        obtain ⟨u, e1, e2⟩ := dpAll_get' (i := i) h2 (by simpa using e)
        exact ⟨u, by simpa using e1, e2⟩
theorem dpAll_app {G : Hp} : ∀ {vs us : List V} {ds es : List D}, DtAll G vs ds → DtAll G us es → DtAll G (vs ++ us) (ds ++ es)
  | [], _, _, _, h, g => by cases h; exact g
  | v :: vs, us, _, es, h, g => by
    cases h with
    | cons h1 h2 => exact .cons h1 (dpAll_app h2 g)
theorem dpAll_take {G : Hp} : ∀ {vs : List V} {ds : List D} (n : Nat), DtAll G vs ds → DtAll G (vs.take n) (ds.take n)
  | _, _, 0, h => by simpa using DtAll.nil
  | _, _, n + 1, h => by
    cases h with
    | nil => simpa using DtAll.nil
    | cons h1 h2 => exact .cons h1 (dpAll_take n h2)
theorem dpAll_drop {G : Hp} : ∀ {vs : List V} {ds : List D} (n : Nat), DtAll G vs ds → DtAll G (vs.drop n) (ds.drop n)
  | _, _, 0, h => by simpa using h
  | _, _, n + 1, h => by
    cases h with
    | nil => simpa using DtAll.nil
    | cons h1 h2 => exact dpAll_drop n h2
theorem dpAll_rev {G : Hp} : ∀ {vs : List V} {ds : List D}, DtAll G vs ds → DtAll G vs.reverse ds.reverse
  | [], _, h => by cases h; exact .nil
  | v :: vs, _, h => by
    cases h with
    | cons h1 h2 =>
      rw [List.reverse_cons, List.reverse_cons]
      exact dpAll_app (dpAll_rev h2) (.cons h1 .nil)
theorem dpAll_set {G : Hp} {v : V} {d : D} (h0 : Dt G v d) : ∀ {vs : List V} {ds : List D} (i : Nat), DtAll G vs ds → DtAll G (vs.set i v) (ds.set i d)
  | [], _, _, h => by cases h; exact .nil
  | u :: vs, _, i, h => by
    cases h with
    | cons h1 h2 =>
      cases i with
      | zero => exact .cons h0 h2
      | succ i => exact .cons h1 (dpAll_set h0 i h2)

/-- the frozen part and the heap grow: nothing that stood is changed, what is newly frozen is new -/
structure Grow (G H G' H' : Hp) : Prop where
  sub : Sub G G'
  in' : Sub G' H'
  keep : Sub H H'
  new : ∀ a o, G' a = some o → G a = some o ∨ H a = none
theorem Grow.refl {G H : Hp} (s : Sub G H) : Grow G H G H := ⟨Same.refl _, s, Same.refl _, fun _ _ h => .inl h⟩
theorem Grow.trans {G H G1 H1 G2 H2 : Hp} (a : Grow G H G1 H1) (b : Grow G1 H1 G2 H2) : Grow G H G2 H2 :=
  ⟨a.sub.trans b.sub, b.in', a.keep.trans b.keep, fun x o h => by
    rcases b.new x o h with h | h
    · exact a.new x o h
    · exact .inr (a.keep.free h)⟩
theorem sub_upd {H : Hp} {p : Addr} {o : HO} (h : H p = none) : Sub H (upd H p o) := fun b x e => by
  rw [upd_ne (ne_of_none e h)]
  exact e
theorem upd_sub {G H : Hp} {p : Addr} {o : HO} (s : Sub G H) : Sub (upd G p o) (upd H p o) := fun b x e => by
  by_cases hb : b = p
  · subst hb; rw [upd_same] at e; rw [upd_same]; exact e
  · rw [upd_ne hb] at e; rw [upd_ne hb]; exact s _ _ e
/-- a new object is laid and frozen -/
theorem Grow.laid {G H : Hp} {p : Addr} {o : HO} (s : Sub G H) (h : H p = none) : Grow G H (upd G p o) (upd H p o) :=
  ⟨sub_upd (s.free h), upd_sub s, sub_upd h, fun a x e => by
    by_cases hb : a = p
    · subst hb; exact .inr h
    · rw [upd_ne hb] at e; exact .inl e⟩
/-- a new object is laid, not frozen -/
theorem Grow.laid' {G H : Hp} {p : Addr} {o : HO} (s : Sub G H) (h : H p = none) : Grow G H G (upd H p o) :=
  ⟨Same.refl _, s.trans (sub_upd h), sub_upd h, fun a x e => .inl e⟩

/-! ## frames -/
/-- the entry: the heap, the frozen part, the caller's lists by slot -/
structure Bs where
  H0 : Hp
  G0 : Hp
  ca : Nat → Option Addr
/-- lists of one's own within a list -/
def RowsOk (b : Bs) (G H : Hp) : List Addr → List (List D) → Prop
  | [], [] => True
  | r :: rs, ds :: rows => (∃ vs, H r = some (.lst vs) ∧ DtAll G vs ds ∧ G r = none ∧ b.H0 r = none) ∧ RowsOk b G H rs rows
  | _, _ => False
def SlOk (K : PySem.W.Frag) (b : Bs) (G H : Hp) (i : Nat) (v : Option V) : Sl → Prop
  | .un => True
  | .dat d => ∃ x, v = some x ∧ Dt G x d
  | .own ds => ∃ a vs, v = some (.ref a) ∧ H a = some (.lst vs) ∧ DtAll G vs ds ∧ G a = none ∧ b.H0 a = none
  | .cel ds => ∃ a vs, v = some (.ref a) ∧ H a = some (.lst vs) ∧ DtAll G vs ds ∧ G a = none ∧ b.ca i = some a
  | .scr ns => ∃ a, v = some (.ref a) ∧ SqL K G a (ns.map V.int)
  | .dic kvs => ∃ a ks, v = some (.ref a) ∧ H a = some (.dK ks) ∧ DtKv G ks kvs ∧ G a = none ∧ b.H0 a = none
  | .nst rows => ∃ a rs, v = some (.ref a) ∧ H a = some (.lst (rs.map V.ref)) ∧ RowsOk b G H rs rows ∧ G a = none ∧ b.H0 a = none ∧ a ∉ rs ∧ rs.Nodup
def isOwn : Sl → Bool
  | .own _ => true
  | .cel _ => true
  | .dic _ => true
  | _ => false
/-- the slot i owns the list at a -/
def OwnI (σ : St) (env : Ev) (i : Nat) (a : Addr) : Prop := (∃ s, env[i]? = some s ∧ isOwn s = true) ∧ σ[i]? = some (some (.ref a))
def OwnAt (σ : St) (env : Ev) (a : Addr) : Prop := ∃ i, OwnI σ env i a
structure Fr (K : PySem.W.Frag) (b : Bs) (G H : Hp) (σ : St) (env : Ev) : Prop where
  sub : Sub G H
  base : ∀ a o, b.H0 a = some o → (∀ i, b.ca i ≠ some a) → H a = some o
  sub0 : Sub b.G0 G
  low : ∀ a o, G a = some o → b.G0 a = some o ∨ b.H0 a = none
  celH : ∀ i a, b.ca i = some a → H a ≠ none
  len : env.length = σ.length
  slot : ∀ i s, env[i]? = some s → ∃ v, σ[i]? = some v ∧ SlOk K b G H i v s
  inj : ∀ i j a, OwnI σ env i a → OwnI σ env j a → i = j
  nst : ∀ (i : Nat) (rows : List (List D)) (a : Addr) (rs : List Addr), env[i]? = some (.nst rows) → σ[i]? = some (some (.ref a)) → H a = some (.lst (rs.map V.ref)) → ¬ OwnAt σ env a ∧ ∀ r ∈ rs, ¬ OwnAt σ env r

/-- an address that is no part of a list of lists -/
def NoNst (σ : St) (env : Ev) (H : Hp) (x : Addr) : Prop := ∀ (i : Nat) (rows : List (List D)), env[i]? = some (.nst rows) → ∃ (a : Addr) (rs : List Addr), σ[i]? = some (some (.ref a)) ∧ H a = some (.lst (rs.map V.ref)) ∧ x ≠ a ∧ x ∉ rs
theorem RowsOk.mem {b : Bs} {G H : Hp} : ∀ {rs : List Addr} {rows : List (List D)}, RowsOk b G H rs rows → ∀ r ∈ rs, ∃ ds vs, H r = some (.lst vs) ∧ DtAll G vs ds ∧ G r = none ∧ b.H0 r = none
  | [], _, _, r, h => nomatch h
  | _ :: _, [], h, _, _ => h.elim
  | r :: rs, ds :: rows, ⟨⟨vs, h⟩, h5⟩, x, hx => by
    rcases List.mem_cons.mp hx with e | hx
    · subst e; exact ⟨ds, vs, h⟩
    · exact h5.mem x hx
/-- an expression's step: from env, G, H to env', G', H' (the slots as they are) -/
structure Step (σ : St) (env env' : Ev) (G H G' H' : Hp) : Prop where
  sub : Sub G G'
  keep : ∀ a o, H a = some o → ¬ OwnAt σ env a → H' a = some o
  dom : ∀ a, H a ≠ none → H' a ≠ none
  new : ∀ a o, G' a = some o → G a = some o ∨ H a = none ∨ OwnAt σ env a
  own : ∀ a, OwnAt σ env' a → OwnAt σ env a
  nn : ∀ x, NoNst σ env H x → NoNst σ env' H' x
theorem Step.refl {σ : St} {env : Ev} {G H : Hp} : Step σ env env G H G H :=
  ⟨Same.refl _, fun _ _ h _ => h, fun _ h => h, fun _ _ h => .inl h, fun _ h => h, fun _ h => h⟩
theorem Step.trans {σ : St} {e0 e1 e2 : Ev} {G H G1 H1 G2 H2 : Hp} (a : Step σ e0 e1 G H G1 H1) (b : Step σ e1 e2 G1 H1 G2 H2) : Step σ e0 e2 G H G2 H2 where
  sub := a.sub.trans b.sub
  keep := fun x o h n => b.keep x o (a.keep x o h n) fun q => n (a.own x q)
  dom := fun x h => b.dom x (a.dom x h)
  new := fun x o h => by
    rcases b.new x o h with h | h | h
    · exact a.new x o h
    · refine .inr (.inl ?_)
      cases q : H x with
      | none => rfl
      | some u => exact absurd h (a.dom x (by rw [q]; intro z; cases z))
    · exact .inr (.inr (a.own x h))
  own := fun x h => a.own x (b.own x h)
  nn := fun x h => b.nn x (a.nn x h)
theorem Step.grow {σ : St} {env : Ev} {G H G' H' : Hp} (g : Grow G H G' H') : Step σ env env G H G' H' :=
  ⟨g.sub, fun a o h _ => g.keep a o h, fun a h q => h (g.keep.free q), fun a o h => (g.new a o h).elim .inl fun z => .inr (.inl z), fun _ h => h, fun x h i rows e => let ⟨a, rs, h1, h2, h3⟩ := h i rows e; ⟨a, rs, h1, g.keep _ _ h2, h3⟩⟩
theorem Grow.nofrz {G H G' H' : Hp} (g : Grow G H G' H') {a : Addr} {o : HO} (h : H a = some o) (h3 : G a = none) : G' a = none := by
  cases q : G' a with
  | none => rfl
  | some u =>
    rcases g.new a u q with z | z
    · rw [h3] at z; cases z
    · rw [h] at z; cases z
theorem RowsOk.keep {b : Bs} {G H G' H' : Hp} (k : ∀ r o, H r = some o → H' r = some o) (s : Sub G G') (n : ∀ r o, H r = some o → G r = none → G' r = none) : ∀ {rs : List Addr} {rows : List (List D)}, RowsOk b G H rs rows → RowsOk b G' H' rs rows
  | [], [], _ => trivial
  | [], _ :: _, h => h.elim
  | _ :: _, [], h => h.elim
  | r :: rs, ds :: rows, ⟨⟨vs, h1, h2, h3, h4⟩, h5⟩ => ⟨⟨vs, k _ _ h1, dpAll_mono s _ _ h2, n _ _ h1 h3, h4⟩, h5.keep k s n⟩
theorem RowsOk.keepM {b : Bs} {G H G' H' : Hp} (s : Sub G G') (n : ∀ r o, H r = some o → G r = none → G' r = none) : ∀ {rs : List Addr} {rows : List (List D)}, (∀ r ∈ rs, ∀ o, H r = some o → H' r = some o) → RowsOk b G H rs rows → RowsOk b G' H' rs rows
  | [], [], _, _ => trivial
  | [], _ :: _, _, h => h.elim
  | _ :: _, [], _, h => h.elim
  | r :: rs, ds :: rows, k, ⟨⟨vs, h1, h2, h3, h4⟩, h5⟩ => ⟨⟨vs, k r (.head _) _ h1, dpAll_mono s _ _ h2, n _ _ h1 h3, h4⟩, h5.keepM s n fun r h => k r (.tail _ h)⟩
theorem RowsOk.frz {b : Bs} {G H G' : Hp} (s : Sub G G') : ∀ {rs : List Addr} {rows : List (List D)}, RowsOk b G H rs rows → (∀ r ∈ rs, G' r = G r) → RowsOk b G' H rs rows
  | [], [], _, _ => trivial
  | [], _ :: _, h, _ => h.elim
  | _ :: _, [], h, _ => h.elim
  | r :: rs, ds :: rows, ⟨⟨vs, h1, h2, h3, h4⟩, h5⟩, n => ⟨⟨vs, h1, dpAll_mono s _ _ h2, (n r (.head _)).trans h3, h4⟩, h5.frz s fun r h => n r (.tail _ h)⟩
theorem SlOk.grow {K : PySem.W.Frag} {b : Bs} {G H G' H' : Hp} {i : Nat} {v : Option V} {s : Sl} (g : Grow G H G' H') (h : SlOk K b G H i v s) : SlOk K b G' H' i v s := by
  cases s with
  | un => trivial
  | dat d => obtain ⟨x, e, hd⟩ := h; exact ⟨x, e, dp_mono g.sub _ _ hd⟩
  | own ds =>
    obtain ⟨a, vs, e, h1, h2, h3, h4⟩ := h
    refine ⟨a, vs, e, g.keep _ _ h1, dpAll_mono g.sub _ _ h2, ?_, h4⟩
    cases q : G' a with
    | none => rfl
    | some o =>
      rcases g.new a o q with z | z
      · rw [h3] at z; cases z
      · rw [h1] at z; cases z
  | cel ds =>
    obtain ⟨a, vs, e, h1, h2, h3, h4⟩ := h
    refine ⟨a, vs, e, g.keep _ _ h1, dpAll_mono g.sub _ _ h2, ?_, h4⟩
    cases q : G' a with
    | none => rfl
    | some o =>
      rcases g.new a o q with z | z
      · rw [h3] at z; cases z
      · rw [h1] at z; cases z
  | scr ns => obtain ⟨a, e, h1⟩ := h; exact ⟨a, e, g.sub.seq h1⟩
  | dic kvs =>
    obtain ⟨a, ks, e, h1, h2, h3, h4⟩ := h
    exact ⟨a, ks, e, g.keep _ _ h1, dtKv_mono g.sub _ _ h2, g.nofrz h1 h3, h4⟩
  | nst rows =>
    obtain ⟨a, rs, e, h1, h2, h3, h4, h5⟩ := h
    exact ⟨a, rs, e, g.keep _ _ h1, h2.keep (fun r o z => g.keep r o z) g.sub (fun r o z1 z2 => g.nofrz z1 z2), g.nofrz h1 h3, h4, h5⟩
theorem map_ref_inj {xs ys : List Addr} (h : xs.map V.ref = ys.map V.ref) : xs = ys := by
  induction xs generalizing ys with
  | nil => cases ys with
    | nil => rfl
    | cons y ys => cases h
  | cons x xs ih => cases ys with
    | nil => cases h
    | cons y ys =>
      rw [List.map_cons, List.map_cons] at h
      injection h with h1 h2
      injection h1 with h1
      rw [h1, ih h2]
/-- what is not tracked is no part of one -/
theorem Fr.noNstG {K : PySem.W.Frag} {b : Bs} {G H H' : Hp} {σ : St} {env : Ev} (f : Fr K b G H σ env) (k : ∀ c o, H c = some o → H' c = some o) {x : Addr} (h : H x = none) : NoNst σ env H' x := fun i rows h1 => by
  obtain ⟨v, e, a, rs, e', q, hr, _⟩ := f.slot i _ h1
  subst e'
  refine ⟨a, rs, e, k _ _ q, fun z => ?_, fun z => ?_⟩
  · subst z; rw [q] at h; cases h
  · obtain ⟨_, _, z1, _⟩ := hr.mem x z
    rw [h] at z1; cases z1
theorem Fr.noNst {K : PySem.W.Frag} {b : Bs} {G H : Hp} {σ : St} {env : Ev} (f : Fr K b G H σ env) {x : Addr} (h : H x = none) : NoNst σ env H x := f.noNstG (fun _ _ q => q) h
/-- what is owned is no part of one -/
theorem Fr.ownNst {K : PySem.W.Frag} {b : Bs} {G H : Hp} {σ : St} {env : Ev} (f : Fr K b G H σ env) {x : Addr} (h : OwnAt σ env x) : NoNst σ env H x := fun i rows h1 => by
  obtain ⟨v, e, a, rs, e', q, hr, _⟩ := f.slot i _ h1
  subst e'
  exact ⟨a, rs, e, q, fun z => (f.nst i rows a rs h1 e q).1 (z ▸ h), fun z => (f.nst i rows a rs h1 e q).2 x z h⟩
theorem NoNst.at {σ : St} {env : Ev} {H : Hp} {x : Addr} (n : NoNst σ env H x) {i : Nat} {rows : List (List D)} {a : Addr} {rs : List Addr} (h1 : env[i]? = some (.nst rows)) (h2 : σ[i]? = some (some (.ref a))) (h3 : H a = some (.lst (rs.map V.ref))) : x ≠ a ∧ x ∉ rs := by
  obtain ⟨a', rs', e1, e2, e3⟩ := n i rows h1
  rw [h2] at e1; cases e1
  rw [h3] at e2
  have := map_ref_inj (HO.lst.inj (Option.some.inj e2))
  subst this
  exact e3
theorem Fr.h0none {K : PySem.W.Frag} {b : Bs} {G H : Hp} {σ : St} {env : Ev} (f : Fr K b G H σ env) {a : Addr} (h : H a = none) : b.H0 a = none := by
  cases q : b.H0 a with
  | none => rfl
  | some o =>
    by_cases c : ∃ i, b.ca i = some a
    · obtain ⟨i, hi⟩ := c
      exact absurd h (f.celH i a hi)
    · rw [f.base a o q fun i hi => c ⟨i, hi⟩] at h; cases h
theorem Fr.grow {K : PySem.W.Frag} {b : Bs} {G H G' H' : Hp} {σ : St} {env : Ev} (f : Fr K b G H σ env) (g : Grow G H G' H') : Fr K b G' H' σ env where
  sub := g.in'
  base := fun a o h n => g.keep a o (f.base a o h n)
  sub0 := f.sub0.trans g.sub
  low := fun a o h => (g.new a o h).elim (f.low a o) fun z => .inr (f.h0none z)
  celH := fun i a h q => f.celH i a h (g.keep.free q)
  len := f.len
  slot := fun i s h => let ⟨v, e, q⟩ := f.slot i s h; ⟨v, e, q.grow g⟩
  inj := f.inj
  nst := fun i rows a rs h1 h2 h3 => by
    obtain ⟨v, e, a', rs', e', q, _⟩ := f.slot i _ h1
    rw [h2] at e; cases e; cases e'
    have := g.keep _ _ q
    rw [h3] at this
    injection this with this
    injection this with this
    rw [this] at h3
    exact f.nst i rows a rs h1 h2 (by rw [this]; exact q)
/-- what a slot owns is tracked and not frozen -/
theorem Fr.own {K : PySem.W.Frag} {b : Bs} {G H : Hp} {σ : St} {env : Ev} (f : Fr K b G H σ env) {a : Addr} (h : OwnAt σ env a) : (∃ o, H a = some o) ∧ G a = none := by
  obtain ⟨i, ⟨s, hs, ho⟩, hv⟩ := h
  obtain ⟨v, e, q⟩ := f.slot i s hs
  rw [hv] at e
  cases s with
  | un => cases ho
  | dat d => cases ho
  | scr ns => cases ho
  | own ds =>
    obtain ⟨a', vs, e', h1, _, h3, _⟩ := q
    rw [e'] at e; cases e
    exact ⟨⟨_, h1⟩, h3⟩
  | cel ds =>
    obtain ⟨a', vs, e', h1, _, h3, _⟩ := q
    rw [e'] at e; cases e
    exact ⟨⟨_, h1⟩, h3⟩
  | dic kvs =>
    obtain ⟨a', vs, e', h1, _, h3, _⟩ := q
    rw [e'] at e; cases e
    exact ⟨⟨_, h1⟩, h3⟩
  | nst rows => cases ho
theorem Fr.fresh {K : PySem.W.Frag} {b : Bs} {G H : Hp} {σ : St} {env : Ev} (f : Fr K b G H σ env) {a : Addr} (h : H a = none) : ¬ OwnAt σ env a := fun q => by
  obtain ⟨⟨vs, e⟩, _⟩ := f.own q
  rw [h] at e; cases e

/-! ## readings -/
def clsV (K : PySem.W.Frag) (c : Str) : Value := .ref (He.ga K c)
end DL

namespace DL
open PySem PySem.Spec PyProof.Rows L2

def tE (K : PySem.W.Frag) (W : WX) (m : M D) : TE := fun σ H Q => ∃ b G env, Fr K b G H σ env ∧
  wpR (m env) (fun d env' => ∀ v G' H', Fr K b G' H' σ env' → Step σ env env' G H G' H' → Dt G' v d → Q v H') (fun c env' => ∀ G' H', Fr K b G' H' σ env' → W (clsV K c) none σ H')
def tT (K : PySem.W.Frag) (W : WX) (m : M Bool) : TT := fun σ H Q => ∃ b G env, Fr K b G H σ env ∧
  wpR (m env) (fun d env' => ∀ G' H', Fr K b G' H' σ env' → Step σ env env' G H G' H' → Q d H') (fun c env' => ∀ G' H', Fr K b G' H' σ env' → W (clsV K c) none σ H')
def tL (K : PySem.W.Frag) (W : WX) (m : M (List D)) : TA := fun σ H Q => ∃ b G env, Fr K b G H σ env ∧
  wpR (m env) (fun ds env' => ∀ vs G' H', Fr K b G' H' σ env' → Step σ env env' G H G' H' → DtAll G' vs ds → Q vs H') (fun c env' => ∀ G' H', Fr K b G' H' σ env' → W (clsV K c) none σ H')
/-- a list of one's own comes of it -/
structure Fresh (b : Bs) (σ : St) (env env' : Ev) (G' H H' : Hp) (a : Addr) (ds : List D) : Prop where
  at_ : ∃ vs, H' a = some (.lst vs) ∧ DtAll G' vs ds
  nofrz : G' a = none
  noown : ¬ OwnAt σ env' a
  h0 : b.H0 a = none
  was : H a = none ∨ OwnAt σ env a
  nn : NoNst σ env' H' a
def tO (K : PySem.W.Frag) (W : WX) (m : M (List D)) : TE := fun σ H Q => ∃ b G env, Fr K b G H σ env ∧
  wpR (m env) (fun ds env' => ∀ a G' H', Fr K b G' H' σ env' → Step σ env env' G H G' H' → Fresh b σ env env' G' H H' a ds → Q (.ref a) H') (fun c env' => ∀ G' H', Fr K b G' H' σ env' → W (clsV K c) none σ H')
abbrev JE (X : Cx) (W : WX) (e : Expr) (m : M D) : Prop := PE X e (tE X.K W m)
abbrev JT (X : Cx) (W : WX) (e : Expr) (m : M Bool) : Prop := PT X e (tT X.K W m)
abbrev JW (X : Cx) (W : WX) (e : Expr) (m : M Bool) : Prop := PW X e (tT X.K W m)
abbrev JL (X : Cx) (W : WX) (es : List Expr) (m : M (List D)) : Prop := PA X es (tL X.K W m)
abbrev JO (X : Cx) (W : WX) (e : Expr) (m : M (List D)) : Prop := PE X e (tO X.K W m)
theorem PE.imp {X : Cx} {e : Expr} {t t' : TE} (h : PE X e t) (i : ∀ σ H Q, t' σ H Q → t σ H Q) : PE X e t' := ⟨fun p s σ H Q I q => h.run p s σ H Q I (i σ H Q q)⟩
theorem PT.imp {X : Cx} {e : Expr} {t t' : TT} (h : PT X e t) (i : ∀ σ H Q, t' σ H Q → t σ H Q) : PT X e t' := ⟨fun p s σ H Q I q => h.run p s σ H Q I (i σ H Q q)⟩
theorem PW.imp {X : Cx} {e : Expr} {t t' : TT} (h : PW X e t) (i : ∀ σ H Q, t' σ H Q → t σ H Q) : PW X e t' := ⟨fun wh p s σ H Q I q => h.run wh p s σ H Q I (i σ H Q q)⟩
theorem PA.imp {X : Cx} {e : List Expr} {t t' : TA} (h : PA X e t) (i : ∀ σ H Q, t' σ H Q → t σ H Q) : PA X e t' := ⟨fun pos p s σ H Q I q => h.run pos p s σ H Q I (i σ H Q q)⟩
theorem PS.imp {X : Cx} {e : Stmt} {t t' : TS} (h : PS X e t) (i : ∀ σ H Q, t' Q σ H → t Q σ H) : PS X e t' := ⟨fun p s σ H Q I q => h.run p s σ H Q I (i σ H Q q)⟩
theorem PSs.imp {X : Cx} {e : List Stmt} {t t' : TS} (h : PSs X e t) (i : ∀ σ H Q, t' Q σ H → t Q σ H) : PSs X e t' := ⟨fun p s σ H Q I q => h.run p s σ H Q I (i σ H Q q)⟩

section
variable {K : PySem.W.Frag} {W : WX} {σ : St} {H : Hp}
/-- one expression, then a value's operation that only grows the heap -/
theorem tE_one {α : Type} {ma : M D} {k : D → M α} {Q : VK} {b : Bs} {G : Hp} {env : Ev} {F : α → Ev → Prop} {Ee : Str → Ev → Prop} (fr : Fr K b G H σ env) (h : wpR (mBind ma k env) F Ee)
    (hq : ∀ d e1 v G1 H1, Fr K b G1 H1 σ e1 → Step σ env e1 G H G1 H1 → Dt G1 v d → wpR (k d e1) F Ee → Q v H1) (he : ∀ c e1, Ee c e1 → ∀ G' H', Fr K b G' H' σ e1 → W (clsV K c) none σ H') : tE K W ma σ H Q :=
  ⟨b, G, env, fr, (wpR.bind h).mono (fun d e1 h2 v G1 H1 fr1 st1 dp1 => hq d e1 v G1 H1 fr1 st1 dp1 h2) he⟩
theorem tT_one {α : Type} {ma : M Bool} {k : Bool → M α} {Q : Bool → Hp → Prop} {b : Bs} {G : Hp} {env : Ev} {F : α → Ev → Prop} {Ee : Str → Ev → Prop} (fr : Fr K b G H σ env) (h : wpR (mBind ma k env) F Ee)
    (hq : ∀ d e1 G1 H1, Fr K b G1 H1 σ e1 → Step σ env e1 G H G1 H1 → wpR (k d e1) F Ee → Q d H1) (he : ∀ c e1, Ee c e1 → ∀ G' H', Fr K b G' H' σ e1 → W (clsV K c) none σ H') : tT K W ma σ H Q :=
  ⟨b, G, env, fr, (wpR.bind h).mono (fun d e1 h2 G1 H1 fr1 st1 => hq d e1 G1 H1 fr1 st1 h2) he⟩
theorem tL_one {α : Type} {ma : M (List D)} {k : List D → M α} {Q : List V → Hp → Prop} {b : Bs} {G : Hp} {env : Ev} {F : α → Ev → Prop} {Ee : Str → Ev → Prop} (fr : Fr K b G H σ env) (h : wpR (mBind ma k env) F Ee)
    (hq : ∀ ds e1 vs G1 H1, Fr K b G1 H1 σ e1 → Step σ env e1 G H G1 H1 → DtAll G1 vs ds → wpR (k ds e1) F Ee → Q vs H1) (he : ∀ c e1, Ee c e1 → ∀ G' H', Fr K b G' H' σ e1 → W (clsV K c) none σ H') : tL K W ma σ H Q :=
  ⟨b, G, env, fr, (wpR.bind h).mono (fun d e1 h2 v G1 H1 fr1 st1 dp1 => hq d e1 v G1 H1 fr1 st1 dp1 h2) he⟩
end

/-! ### names, constants -/
def mVar (i : Nat) : M D := fun e => match e[i]? with
  | some (.dat d) => .ok (d, e)
  | _ => .bad
section
variable {X : Cx} {W : WX} {pos : Pos}
theorem je_var (i : Nat) {x : Str} (hN : X.N[i]? = some x := by rfl) (hv : Vis X.env.scope x := by first | exact Or.inl rfl | exact Or.inr (Or.inl rfl) | exact Or.inr (Or.inr rfl)) (hd : (x == ("__debug__" : Str)) = false := by decide)
    (hcd : (x == ("__classdict__" : Str)) = false := by decide) : JE X W (.Name x pos) (mVar i) := by
  refine PE.imp (pe_var hN hv hd hcd) fun σ H Q h => ?_
  obtain ⟨b, G, env, fr, h⟩ := h
  unfold mVar at h
  cases he : env[i]? with
  | none => rw [he] at h; exact h.elim
  | some s =>
    rw [he] at h
    cases s with
    | dat d =>
      obtain ⟨v, e, x, e2, hd⟩ := fr.slot i _ he
      subst e2
      exact ⟨x, e, h x G H fr .refl hd⟩
    | _ => exact h.elim
theorem je_int {i : Int} {k : Nat} : JE X W (.Constant (.int i) k pos) (mPure (.int i)) := PE.imp pe_int fun σ H Q ⟨b, G, env, fr, h⟩ => h _ G H fr .refl (.int i)
theorem je_str {x : Str} {k : Nat} : JE X W (.Constant (.str x) k pos) (mPure (.str x)) := PE.imp pe_str fun σ H Q ⟨b, G, env, fr, h⟩ => h _ G H fr .refl (.str x)
theorem je_non {k : Nat} : JE X W (.Constant .none k pos) (mPure .none) := PE.imp pe_non fun σ H Q ⟨b, G, env, fr, h⟩ => h _ G H fr .refl .non
theorem je_bl {c : Bool} {k : Nat} : JE X W (.Constant (.bool c) k pos) (mPure (.bool c)) := PE.imp pe_bl fun σ H Q ⟨b, G, env, fr, h⟩ => h _ G H fr .refl (.bl c)
/-- a module's constant -/
theorem je_glob {x : Str} {i : Int} (hg : Gl X x) (hm : ∃ t, X.mg x = some (.int i t)) (hdb : (x == ("__debug__" : Str)) = false := by decide) : JE X W (.Name x pos) (mPure (.int i)) := by
  obtain ⟨t, hm⟩ := hm
  exact PE.imp (pe_glob (v := .int i) hg hm ⟨t, rfl⟩ hdb) fun σ H Q ⟨b, G, env, fr, h⟩ => h _ G H fr .refl (.int i)
theorem je_globS {x : Str} {z : Str} (hg : Gl X x) (hm : ∃ t, X.mg x = some (.str z t)) (hdb : (x == ("__debug__" : Str)) = false := by decide) : JE X W (.Name x pos) (mPure (.str z)) := by
  obtain ⟨t, hm⟩ := hm
  exact PE.imp (pe_glob (v := .str z) hg hm ⟨t, rfl⟩ hdb) fun σ H Q ⟨b, G, env, fr, h⟩ => h _ G H fr .refl (.str z)
end

/-! ### operators -/
/-- an operation by values computes f -/
def OpD (r : R2) (f : D → D → Option D) : Prop := ∀ (G H : Hp) (x y : V) (dx dy d : D) (Q : VK), Sub G H → Dt G x dx → Dt G y dy → f dx dy = some d →
  (∀ z G' H', Grow G H G' H' → Dt G' z d → Q z H') → r x y H Q
def mOp (f : D → D → Option D) (ma mb : M D) : M D := mBind ma fun x => mBind mb fun y => mOpt (f x y)
section
variable {X : Cx} {W : WX} {a b c : Expr} {ma mb mc : M D} {pos : Pos}
theorem tOp_of {K : PySem.W.Frag} {r : R2} {f : D → D → Option D} (od : OpD r f) {σ : St} {H : Hp} {Q : VK} (h : tE K W (mOp f ma mb) σ H Q) : tOp r (tE K W ma) (tE K W mb) σ H Q := by
  obtain ⟨b, G, env, fr, h⟩ := h
  refine tE_one fr h (fun d e1 v G1 H1 fr1 st1 dp1 h1 => tE_one fr1 h1 (fun d2 e2 v2 G2 H2 fr2 st2 dp2 h2 => ?_) (fun c e he => he)) (fun c e he => he)
  obtain ⟨z, hz, h3⟩ := wpR.opt h2
  exact od G2 H2 v v2 d d2 z Q fr2.sub (dp1.mono st2.sub) dp2 hz fun u G' H' g dz => h3 u G' H' (fr2.grow g) ((st1.trans st2).trans (.grow g)) dz
theorem je_op {op : Operator} {r : R2} {f : D → D → Option D} (ho : OpR X (binaryOp op) r) (od : OpD r f) (ha : JE X W a ma) (hb : JE X W b mb) : JE X W (.BinOp a op b pos) (mOp f ma mb) :=
  PE.imp (pe_op ho ha hb) fun _ _ _ h => tOp_of od h
/-- a comparison by values computes f -/
def CmpD (r : R2) (f : D → D → Option Bool) : Prop := ∀ (G H : Hp) (x y : V) (dx dy : D) (k : Bool) (Q : VK), Sub G H → Dt G x dx → Dt G y dy → f dx dy = some k → Q (.bl k) H → r x y H Q
def mCmp (f : D → D → Option Bool) (ma mb : M D) : M Bool := mBind ma fun x => mBind mb fun y => mOpt (f x y)
def mB (m : M Bool) : M D := mBind m fun k => mPure (.bool k)
theorem tCmp_of {K : PySem.W.Frag} {r : R2} {f : D → D → Option Bool} (od : CmpD r f) {σ : St} {H : Hp} {Q : Bool → Hp → Prop} (h : tT K W (mCmp f ma mb) σ H Q) : tOp r (tE K W ma) (tE K W mb) σ H (fun x H' => ∃ k, x = .bl k ∧ Q k H') := by
  obtain ⟨b, G, env, fr, h⟩ := h
  refine tE_one fr h (fun d e1 v G1 H1 fr1 st1 dp1 h1 => tE_one fr1 h1 (fun d2 e2 v2 G2 H2 fr2 st2 dp2 h2 => ?_) (fun c e he => he)) (fun c e he => he)
  obtain ⟨z, hz, h3⟩ := wpR.opt h2
  exact od G2 H2 v v2 d d2 z _ fr2.sub (dp1.mono st2.sub) dp2 hz ⟨_, rfl, h3 G2 H2 fr2 (st1.trans st2)⟩
theorem jt_cmp {op : CmpOp} {r : R2} {f : D → D → Option Bool} (ho : OpR X (compareOp op) r) (od : CmpD r f) (ha : JE X W a ma) (hb : JE X W b mb) (hm : behindInMarks op b = false) : JT X W (.Compare a [op] [b] pos) (mCmp f ma mb) :=
  PT.imp (pt_cmpR ho ha hb hm) fun _ _ _ h => tCmp_of od h
/-- a test's mirror as a value's -/
theorem tB_of {K : PySem.W.Frag} {m : M Bool} {σ : St} {H : Hp} {Q : VK} (h : tE K W (mB m) σ H Q) : tT K W m σ H fun k H' => Q (.bl k) H' := by
  obtain ⟨b, G, env, fr, h⟩ := h
  exact tT_one fr h (fun d e1 G1 H1 fr1 st1 h1 => h1 _ G1 H1 fr1 st1 (.bl d)) (fun c e he => he)
theorem je_cmp {op : CmpOp} {r : R2} {f : D → D → Option Bool} (ho : OpR X (compareOp op) r) (od : CmpD r f) (ha : JE X W a ma) (hb : JE X W b mb) (hm : behindInMarks op b = false) : JE X W (.Compare a [op] [b] pos) (mB (mCmp f ma mb)) := by
  refine PE.imp (pe_cmpR ho ha hb hm) fun σ H Q h => ?_
  obtain ⟨b, G, env, fr, h⟩ := tB_of h
  refine tE_one fr h (fun d e1 v G1 H1 fr1 st1 dp1 h1 => tE_one fr1 h1 (fun d2 e2 v2 G2 H2 fr2 st2 dp2 h2 => ?_) (fun c e he => he)) (fun c e he => he)
  obtain ⟨z, hz, h3⟩ := wpR.opt h2
  exact od G2 H2 v v2 d d2 z _ fr2.sub (dp1.mono st2.sub) dp2 hz (h3 G2 H2 fr2 (st1.trans st2))
/-- a op b op' c -/
def mChain (f g : D → D → Option Bool) (ma mb mc : M D) : M Bool := mBind ma fun x => mBind mb fun y => mBind (mOpt (f x y)) fun k => if k = true then mBind mc fun z => mOpt (g y z) else mPure false
theorem jt_chain {op op' : CmpOp} {r r' : R2} {f g : D → D → Option Bool} (ho : OpR X (compareOp op) r) (od : CmpD r f) (ho' : OpR X (compareOp op') r') (od' : CmpD r' g) (ha : JE X W a ma) (hb : JE X W b mb) (hc : JE X W c mc)
    (hm : lastMarks [op, op'] [b, c] = false := by with_unfolding_all rfl) : JT X W (.Compare a [op, op'] [b, c] pos) (mChain f g ma mb mc) := by
  refine PT.imp (pt_chain ho ho' ha hb hc hm) fun σ H Q h => ?_
  obtain ⟨b, G, env, fr, h⟩ := h
  refine tE_one fr h (fun d e1 v G1 H1 fr1 st1 dp1 h1 => tE_one fr1 h1 (fun d2 e2 v2 G2 H2 fr2 st2 dp2 h2 => ?_) (fun c e he => he)) (fun c e he => he)
  obtain ⟨k, hz, h3⟩ := wpR.opt (wpR.bind h2)
  refine od G2 H2 v v2 d d2 k _ fr2.sub (dp1.mono st2.sub) dp2 hz ⟨k, rfl, ?_⟩
  cases k with
  | false =>
    rw [if_neg Bool.false_ne_true] at h3 ⊢
    exact ⟨_, rfl, h3 G2 H2 fr2 (st1.trans st2)⟩
  | true =>
    rw [if_pos rfl] at h3 ⊢
    refine tE_one fr2 h3 (fun d3 e3 v3 G3 H3 fr3 st3 dp3 h4 => ?_) (fun c e he => he)
    obtain ⟨k2, hz2, h5⟩ := wpR.opt h4
    exact od' G3 H3 v2 v3 d2 d3 k2 _ fr3.sub (dp2.mono st3.sub) dp3 hz2 ⟨_, rfl, h5 G3 H3 fr3 ((st1.trans st2).trans st3)⟩
theorem je_chain {op op' : CmpOp} {r r' : R2} {f g : D → D → Option Bool} (ho : OpR X (compareOp op) r) (od : CmpD r f) (ho' : OpR X (compareOp op') r') (od' : CmpD r' g) (ha : JE X W a ma) (hb : JE X W b mb) (hc : JE X W c mc)
    (hm : lastMarks [op, op'] [b, c] = false := by with_unfolding_all rfl) : JE X W (.Compare a [op, op'] [b, c] pos) (mB (mChain f g ma mb mc)) := by
  refine PE.imp (pe_chain ho ho' ha hb hc hm) fun σ H Q h => ?_
  obtain ⟨b, G, env, fr, h⟩ := tB_of h
  refine tE_one fr h (fun d e1 v G1 H1 fr1 st1 dp1 h1 => tE_one fr1 h1 (fun d2 e2 v2 G2 H2 fr2 st2 dp2 h2 => ?_) (fun c e he => he)) (fun c e he => he)
  obtain ⟨k, hz, h3⟩ := wpR.opt (wpR.bind h2)
  refine od G2 H2 v v2 d d2 k _ fr2.sub (dp1.mono st2.sub) dp2 hz ⟨k, rfl, ?_⟩
  cases k with
  | false =>
    rw [if_neg Bool.false_ne_true] at h3 ⊢
    exact h3 G2 H2 fr2 (st1.trans st2)
  | true =>
    rw [if_pos rfl] at h3 ⊢
    refine tE_one fr2 h3 (fun d3 e3 v3 G3 H3 fr3 st3 dp3 h4 => ?_) (fun c e he => he)
    obtain ⟨k2, hz2, h5⟩ := wpR.opt h4
    exact od' G3 H3 v2 v3 d2 d3 k2 _ fr3.sub (dp2.mono st3.sub) dp3 hz2 (h5 G3 H3 fr3 ((st1.trans st2).trans st3))
/-- one operand -/
def UnD (r : V → Hp → VK → Prop) (f : D → Option D) : Prop := ∀ (G H : Hp) (x : V) (dx d : D) (Q : VK), Sub G H → Dt G x dx → f dx = some d → (∀ z G' H', Grow G H G' H' → Dt G' z d → Q z H') → r x H Q
def mUn (f : D → Option D) (ma : M D) : M D := mBind ma fun x => mOpt (f x)
theorem je_un {op : UnaryOp} {r : V → Hp → VK → Prop} {f : D → Option D} (ho : UnR X (unaryOp op) r) (od : UnD r f) (ha : JE X W a ma) : JE X W (.UnaryOp op a pos) (mUn f ma) := by
  refine PE.imp (pe_un ho ha) fun σ H Q h => ?_
  obtain ⟨b, G, env, fr, h⟩ := h
  refine tE_one fr h (fun d e1 v G1 H1 fr1 st1 dp1 h1 => ?_) (fun c e he => he)
  obtain ⟨z, hz, h3⟩ := wpR.opt h1
  exact od G1 H1 v d z Q fr1.sub dp1 hz fun u G' H' g dz => h3 u G' H' (fr1.grow g) (st1.trans (.grow g)) dz
end

/-! ### tests -/
theorem ifS {α : Type} {c : Prop} [Decidable c] {a b : α} (h : (if c then some a else none) = some b) : c ∧ a = b := by
  split at h
  · exact ⟨by assumption, Option.some.inj h⟩
  · cases h
def mAnd (m n : M Bool) : M Bool := mBind m fun k => if k = true then n else mPure false
def mOr (m n : M Bool) : M Bool := mBind m fun k => if k = true then mPure true else n
def mNot (m : M Bool) : M Bool := mBind m fun k => mPure (!k)
def mIfE (t : M Bool) (ma mb : M D) : M D := mBind t fun k => if k = true then ma else mb
/-- a value's truth -/
def dTru : D → Option Bool
  | .none => some false
  | .bool b => some b
  | .int i => some (i != 0)
  | .str y => if y.length ≤ sizeLine then some ((y.length : Int) != 0) else none
  | .list xs => some (!xs.isEmpty)
  | .tuple xs => some (!xs.isEmpty)
  | .dict _ => none
section
variable {X : Cx} {W : WX} {a b c : Expr} {ma mb : M D} {mA mB' : M Bool} {rest : List Expr} {pos : Pos}
theorem tT_mono {K : PySem.W.Frag} {m : M Bool} {σ : St} {H : Hp} {Q Q' : Bool → Hp → Prop} (h : tT K W m σ H Q) (i : ∀ k H, Q k H → Q' k H) : tT K W m σ H Q' := by
  obtain ⟨b, G, env, fr, h⟩ := h
  exact ⟨b, G, env, fr, h.mono (fun d e f G' H' fr' st => i _ _ (f G' H' fr' st)) fun _ _ h => h⟩
theorem jw_and1 (ha : JT X W a mA) : JW X W (.BoolOp .And [a] pos) mA := pw_and1 ha
theorem jw_or1 (ha : JT X W a mA) : JW X W (.BoolOp .Or [a] pos) mA := pw_or1 ha
theorem jw_and (ha : JT X W a mA) (hb : JW X W (.BoolOp .And (b :: rest) pos) mB') : JW X W (.BoolOp .And (a :: b :: rest) pos) (mAnd mA mB') := by
  refine PW.imp (pw_and ha hb) fun σ H Q h => ?_
  obtain ⟨b, G, env, fr, h⟩ := h
  refine tT_one fr h (fun d e1 G1 H1 fr1 st1 h1 => ?_) (fun c e he => he)
  cases d with
  | true =>
    rw [if_pos rfl] at h1 ⊢
    exact ⟨b, G1, e1, fr1, h1.mono (fun k e2 q G2 H2 fr2 st2 => q G2 H2 fr2 (st1.trans st2)) fun _ _ h => h⟩
  | false =>
    rw [if_neg Bool.false_ne_true] at h1 ⊢
    exact h1 G1 H1 fr1 st1
theorem jw_or (ha : JT X W a mA) (hb : JW X W (.BoolOp .Or (b :: rest) pos) mB') : JW X W (.BoolOp .Or (a :: b :: rest) pos) (mOr mA mB') := by
  refine PW.imp (pw_or ha hb) fun σ H Q h => ?_
  obtain ⟨b, G, env, fr, h⟩ := h
  refine tT_one fr h (fun d e1 G1 H1 fr1 st1 h1 => ?_) (fun c e he => he)
  cases d with
  | false =>
    rw [if_neg Bool.false_ne_true] at h1 ⊢
    exact ⟨b, G1, e1, fr1, h1.mono (fun k e2 q G2 H2 fr2 st2 => q G2 H2 fr2 (st1.trans st2)) fun _ _ h => h⟩
  | true =>
    rw [if_pos rfl] at h1 ⊢
    exact h1 G1 H1 fr1 st1
theorem jw_pt {e : Expr} (h : JW X W e mA) : JT X W e mA := PW.pt h
theorem jt_not (ha : JT X W a mA) : JT X W (.UnaryOp .Not a pos) (mNot mA) := by
  refine PT.imp (pt_not ha) fun σ H Q h => ?_
  obtain ⟨b, G, env, fr, h⟩ := h
  exact tT_one fr h (fun d e1 G1 H1 fr1 st1 h1 => h1 G1 H1 fr1 st1) (fun c e he => he)
theorem je_ifE {mt : M Bool} (hc : JT X W c mt) (ha : JE X W a ma) (hb : JE X W b mb) : JE X W (.IfExp c a b pos) (mIfE mt ma mb) := by
  refine PE.imp (pe_ifExp hc ha hb) fun σ H Q h => ?_
  obtain ⟨b, G, env, fr, h⟩ := h
  refine tT_one fr h (fun d e1 G1 H1 fr1 st1 h1 => ?_) (fun c e he => he)
  cases d with
  | true =>
    rw [if_pos rfl] at h1 ⊢
    exact ⟨b, G1, e1, fr1, h1.mono (fun k e2 q v G2 H2 fr2 st2 => q v G2 H2 fr2 (st1.trans st2)) fun _ _ h => h⟩
  | false =>
    rw [if_neg Bool.false_ne_true] at h1 ⊢
    exact ⟨b, G1, e1, fr1, h1.mono (fun k e2 q v G2 H2 fr2 st2 => q v G2 H2 fr2 (st1.trans st2)) fun _ _ h => h⟩
theorem isEmpty_len {α β : Type} {xs : List α} {ys : List β} (h : xs.length = ys.length) : xs.isEmpty = ys.isEmpty := by
  cases xs <;> cases ys <;> first | rfl | simp at h
theorem tru_of {K : PySem.W.Frag} {G H : Hp} {v : V} {d : D} {k : Bool} (s : Sub G H) (h : Dt G v d) (e : dTru d = some k) : TruV K v H k := by
  cases h with
  | non => exact (Option.some.inj e).symm
  | bl b => exact (Option.some.inj e).symm
  | int i => exact (Option.some.inj e).symm
  | str x =>
    have e2 : (if x.length ≤ sizeLine then some ((x.length : Int) != 0) else none) = some k := e
    obtain ⟨hl, ez⟩ := ifS e2
    exact ⟨hl, ez.symm⟩
  | lst hr ha => exact .inl ⟨_, .inl (rd_mono s hr), by rw [← Option.some.inj e, isEmpty_len (dpAll_len ha)]⟩
  | tup hr ha => exact .inr (.inl ⟨_, .inl (rd_mono s hr), by rw [← Option.some.inj e, isEmpty_len (dpAll_len ha)]⟩)
  | dic hr ha => cases e
  | dicN hr ha => cases e
def mTru (ma : M D) : M Bool := mBind ma fun d => mOpt (dTru d)
theorem jt_tru (ha : JE X W a ma) (he : ∀ whole, isTrue a X.env whole = (do let v ← whole; standAt a.pos; holding [v] (truthy v)) := by intro _; rfl) : JT X W a (mTru ma) := by
  refine PT.imp (pt_truth ha he) fun σ H Q h => ?_
  obtain ⟨b, G, env, fr, h⟩ := h
  refine tE_one fr h (fun d e1 v G1 H1 fr1 st1 dp1 h1 => ?_) (fun c e he => he)
  obtain ⟨k, hz, h3⟩ := wpR.opt h1
  exact ⟨k, tru_of fr1.sub dp1 hz, h3 G1 H1 fr1 st1⟩
/-- .. as values, all but the last a truth value -/
def dBl : D → Option Bool
  | .bool b => some b
  | _ => none
theorem dBl_of {G : Hp} {v : V} {d : D} {k : Bool} (h : Dt G v d) (e : dBl d = some k) : v = .bl k := by
  cases h with
  | bl b => exact congrArg V.bl (Option.some.inj e)
  | _ => cases e
def mAndV (ma mb : M D) : M D := mBind ma fun x => mBind (mOpt (dBl x)) fun k => if k = true then mb else mPure (.bool false)
def mOrV (ma mb : M D) : M D := mBind ma fun x => mBind (mOpt (dBl x)) fun k => if k = true then mPure (.bool true) else mb
theorem je_one {op : BoolOp} (h : JE X W a ma) : JE X W (.BoolOp op [a] pos) ma := pe_one h
theorem je_and (ha : JE X W a ma) (hb : JE X W (.BoolOp .And (b :: rest) pos) mb) : JE X W (.BoolOp .And (a :: b :: rest) pos) (mAndV ma mb) := by
  refine PE.imp (pe_and ha hb) fun σ H Q h => ?_
  obtain ⟨b, G, env, fr, h⟩ := h
  refine tE_one fr h (fun d e1 v G1 H1 fr1 st1 dp1 h1 => ?_) (fun c e he => he)
  obtain ⟨k, hz, h3⟩ := wpR.opt (wpR.bind h1)
  refine ⟨k, dBl_of dp1 hz, ?_⟩
  cases k with
  | true =>
    rw [if_pos rfl] at h3 ⊢
    exact ⟨b, G1, e1, fr1, h3.mono (fun k e2 q v G2 H2 fr2 st2 => q v G2 H2 fr2 (st1.trans st2)) fun _ _ h => h⟩
  | false =>
    rw [if_neg Bool.false_ne_true] at h3 ⊢
    exact h3 _ G1 H1 fr1 st1 (.bl false)
theorem je_or (ha : JE X W a ma) (hb : JE X W (.BoolOp .Or (b :: rest) pos) mb) : JE X W (.BoolOp .Or (a :: b :: rest) pos) (mOrV ma mb) := by
  refine PE.imp (pe_or ha hb) fun σ H Q h => ?_
  obtain ⟨b, G, env, fr, h⟩ := h
  refine tE_one fr h (fun d e1 v G1 H1 fr1 st1 dp1 h1 => ?_) (fun c e he => he)
  obtain ⟨k, hz, h3⟩ := wpR.opt (wpR.bind h1)
  refine ⟨k, dBl_of dp1 hz, ?_⟩
  cases k with
  | false =>
    rw [if_neg Bool.false_ne_true] at h3 ⊢
    exact ⟨b, G1, e1, fr1, h3.mono (fun k e2 q v G2 H2 fr2 st2 => q v G2 H2 fr2 (st1.trans st2)) fun _ _ h => h⟩
  | true =>
    rw [if_pos rfl] at h3 ⊢
    exact h3 _ G1 H1 fr1 st1 (.bl true)
def mNotV (ma : M D) : M D := mBind ma fun x => mBind (mOpt (dBl x)) fun k => mPure (.bool (!k))
theorem je_not (ha : JE X W a ma) : JE X W (.UnaryOp .Not a pos) (mNotV ma) := by
  refine PE.imp (pe_not ha) fun σ H Q h => ?_
  obtain ⟨b, G, env, fr, h⟩ := h
  refine tE_one fr h (fun d e1 v G1 H1 fr1 st1 dp1 h1 => ?_) (fun c e he => he)
  obtain ⟨k, hz, h3⟩ := wpR.opt (wpR.bind h1)
  exact ⟨k, dBl_of dp1 hz, h3 _ G1 H1 fr1 st1 (.bl (!k))⟩
end

/-! ### arguments, displays -/
def mNil : M (List D) := mPure []
def mCons (ma : M D) (mr : M (List D)) : M (List D) := mBind ma fun x => mBind mr fun xs => mPure (x :: xs)
def mTup (m : M (List D)) : M D := mBind m fun xs => mOpt (if xs.length ≤ sizeLine then some (.tuple xs) else none)
def mLst (m : M (List D)) : M (List D) := mBind m fun xs => mOpt (if xs.length ≤ sizeLine then some xs else none)
/-- a list of one's own is frozen -/
def mFz (m : M (List D)) : M D := mBind m fun xs => mPure (.list xs)
section
variable {X : Cx} {W : WX} {e : Expr} {es : List Expr} {ma : M D} {mr : M (List D)} {pos : Pos}
theorem jl_nil : JL X W [] mNil := PA.imp pa_nil fun σ H Q ⟨b, G, env, fr, h⟩ => h [] G H fr .refl .nil
theorem jl_cons (ha : JE X W e ma) (hr : JL X W es mr) (hs : starEach (e :: es) X.env = (false, eval e X.env) :: starEach es X.env := by rfl) : JL X W (e :: es) (mCons ma mr) := by
  refine PA.imp (pa_cons ha hr hs) fun σ H Q h => ?_
  obtain ⟨b, G, env, fr, h⟩ := h
  refine tE_one fr h (fun d e1 v G1 H1 fr1 st1 dp1 h1 => tL_one fr1 h1 (fun ds e2 vs G2 H2 fr2 st2 dp2 h2 => ?_) (fun c e he => he)) (fun c e he => he)
  exact h2 _ G2 H2 fr2 (st1.trans st2) (.cons (dp1.mono st2.sub) dp2)
theorem je_tup {k : Nat} (h : JL X W es mr) : JE X W (.Tuple es k pos) (mTup mr) := by
  refine PE.imp (pe_tup h) fun σ H Q h => ?_
  obtain ⟨b, G, env, fr, h⟩ := h
  refine tL_one fr h (fun ds e1 vs G1 H1 fr1 st1 dp1 h1 => ?_) (fun c e he => he)
  obtain ⟨z, hz, h3⟩ := wpR.opt h1
  obtain ⟨hl, ez⟩ := ifS hz
  subst ez
  refine ⟨by rw [dpAll_len dp1]; exact hl, fun p hp => ?_⟩
  have g : Grow G1 H1 (upd G1 p (.tup vs)) (upd H1 p (.tup vs)) := .laid fr1.sub hp
  exact h3 _ _ _ (fr1.grow g) (st1.trans (.grow g)) (.tup (.inl upd_same) (dp1.mono g.sub))
theorem jo_lst (h : JL X W es mr) : JO X W (.List es pos) (mLst mr) := by
  refine PE.imp (pe_lst h) fun σ H Q h => ?_
  obtain ⟨b, G, env, fr, h⟩ := h
  refine tL_one fr h (fun ds e1 vs G1 H1 fr1 st1 dp1 h1 => ?_) (fun c e he => he)
  obtain ⟨z, hz, h3⟩ := wpR.opt h1
  obtain ⟨hl, ez⟩ := ifS hz
  subst ez
  refine ⟨by rw [dpAll_len dp1]; exact hl, fun p hp => ?_⟩
  have g : Grow G1 H1 G1 (upd H1 p (.lst vs)) := .laid' fr1.sub hp
  have f2 := fr1.grow g
  refine h3 _ _ _ f2 (st1.trans (.grow g)) ⟨⟨vs, upd_same, dp1⟩, fr1.sub.free hp, fr1.fresh hp, fr1.h0none hp, ?_, ?_⟩
  · refine .inl ?_
    cases q : H p with
    | none => rfl
    | some o => exact absurd hp (st1.dom p (by rw [q]; intro z; cases z))
  · exact fr1.noNstG (fun c o q => g.keep c o q) hp
theorem je_fz {m : M (List D)} (h : JO X W e m) : JE X W e (mFz m) := by
  refine PE.imp h fun σ H Q h => ?_
  obtain ⟨b, G, env, fr, h⟩ := h
  refine ⟨b, G, env, fr, (wpR.bind h).mono (fun ds e1 h1 a G1 H1 fr1 st1 f1 => ?_) fun _ _ h => h⟩
  obtain ⟨vs, ha, hd⟩ := f1.at_
  have hs : Sub G1 (upd G1 a (.lst vs)) := sub_upd f1.nofrz
  have hne : ∀ c, OwnAt σ e1 c → c ≠ a := fun c hc z => f1.noown (z ▸ hc)
  have fr2 : Fr X.K b (upd G1 a (.lst vs)) H1 σ e1 := by
    refine ⟨fun c o hc => ?_, fr1.base, fr1.sub0.trans hs, fun c o hc => ?_, fr1.celH, fr1.len, fun i s hi => ?_, fr1.inj, fr1.nst⟩
    · by_cases hca : c = a
      · subst hca; rw [upd_same] at hc; rw [← hc]; exact ha
      · rw [upd_ne hca] at hc; exact fr1.sub _ _ hc
    · by_cases hca : c = a
      · subst hca; exact .inr f1.h0
      · rw [upd_ne hca] at hc; exact fr1.low _ _ hc
    · obtain ⟨v, e, q⟩ := fr1.slot i s hi
      refine ⟨v, e, ?_⟩
      cases s with
      | un => trivial
      | dat d => obtain ⟨x, e, hd⟩ := q; exact ⟨x, e, hd.mono hs⟩
      | own ds => obtain ⟨c, us, e2, h1, h2, h3, h4⟩ := q; exact ⟨c, us, e2, h1, h2.mono hs, by rw [upd_ne (hne c ⟨i, ⟨_, hi, rfl⟩, by rw [e, e2]⟩)]; exact h3, h4⟩
      | cel ds => obtain ⟨c, us, e2, h1, h2, h3, h4⟩ := q; exact ⟨c, us, e2, h1, h2.mono hs, by rw [upd_ne (hne c ⟨i, ⟨_, hi, rfl⟩, by rw [e, e2]⟩)]; exact h3, h4⟩
      | scr ns => obtain ⟨c, e2, h1⟩ := q; exact ⟨c, e2, hs.seq h1⟩
      | dic kvs => obtain ⟨c, us, e2, h1, h2, h3, h4⟩ := q; exact ⟨c, us, e2, h1, dtKv_mono hs _ _ h2, by rw [upd_ne (hne c ⟨i, ⟨_, hi, rfl⟩, by rw [e, e2]⟩)]; exact h3, h4⟩
      | nst rows =>
        obtain ⟨c, rs, e2, h1, h2, h3, h4, h5⟩ := q
        obtain ⟨n1, n2⟩ := f1.nn.at hi (by rw [e, e2]) h1
        exact ⟨c, rs, e2, h1, h2.frz hs fun r hr => upd_ne fun z => n2 (by rw [← z]; exact hr), by rw [upd_ne (Ne.symm n1)]; exact h3, h4, h5⟩
  refine h1 (.ref a) _ _ fr2 ⟨st1.sub.trans hs, st1.keep, st1.dom, fun c o hc => ?_, st1.own, st1.nn⟩ (.lst (.inl upd_same) (hd.mono hs))
  by_cases hca : c = a
  · subst hca; exact .inr f1.was
  · rw [upd_ne hca] at hc; exact st1.new _ _ hc
end
end DL

namespace DL
open PySem PySem.Spec PyProof.Rows L2

/-! ### the operators -/
theorem optS {α β : Type} {o : Option α} {f : α → Option β} {b : β} (h : o.bind f = some b) : ∃ a, o = some a ∧ f a = some b := by
  cases o with
  | none => cases h
  | some a => exact ⟨a, rfl, h⟩
theorem dt_int {G : Hp} {v : V} {i : Int} (h : Dt G v (.int i)) : v = .int i := by cases h; rfl
theorem dt_bool {G : Hp} {v : V} {i : Bool} (h : Dt G v (.bool i)) : v = .bl i := by cases h; rfl
theorem dt_str {G : Hp} {v : V} {i : Str} (h : Dt G v (.str i)) : v = .str i := by cases h; rfl
theorem dt_tup {G : Hp} {v : V} {ds : List D} (h : Dt G v (.tuple ds)) : ∃ a xs, v = .ref a ∧ Rd G a (.tup xs) ∧ DtAll G xs ds := by cases h with | tup a b => exact ⟨_, _, rfl, a, b⟩
theorem dt_lst {G : Hp} {v : V} {ds : List D} (h : Dt G v (.list ds)) : ∃ a xs, v = .ref a ∧ Rd G a (.lst xs) ∧ DtAll G xs ds := by cases h with | lst a b => exact ⟨_, _, rfl, a, b⟩

/-- list + list of any that are tracked -/
def rCatR : R2 := fun x y H Q => ∃ l b xs zs, x = .ref l ∧ y = .ref b ∧ Rd H l (.lst xs) ∧ Rd H b (.lst zs) ∧ xs.length + zs.length ≤ sizeLine ∧ ∀ p, H p = none → Q (.ref p) (upd H p (.lst (xs ++ zs)))
section
variable {X : Cx}
theorem rdM {pins : List (Addr × Obj)} {σ : St} {H : Hp} {s : Shared} {a : Addr} {xs : List V} (I : Inv X pins σ H s) (h : Rd H a (.lst xs)) :
    ∃ its n, xs.length ≤ sizeLine ∧ Vals xs its ∧ xs.length = its.length ∧ s.heap.get? a = some { cls := .type "list", data := .seq its.toArray n } := by
  obtain ⟨z, its, n, r, e⟩ := h.ok I.hok
  exact ⟨its, n, z, r, r.length, e⟩
theorem op_catR : OpR X (binaryOp .Add) rCatR := by
  intro pins s σ H x y v u Q I rx ry h
  obtain ⟨l, b, xs, zs, rfl, rfl, hH, hB, hz, q⟩ := h
  cases rx
  cases ry
  obtain ⟨its, n, z, r, hl, e⟩ := rdM I hH
  obtain ⟨its2, n2, z2, r2, hl2, e2⟩ := rdM I hB
  refine PySem.P.add_list e e2 ?_ (by rw [List.size_toArray, List.size_toArray]; omega)
  have ea : its.toArray ++ its2.toArray = (its ++ its2).toArray := by simp
  rw [ea]
  exact ⟨.ref _, _, I.lnew (t' := s.toks) (r.append r2) (by rw [List.length_append]; omega), rfl, q _ I.fresh⟩
end
def rAddB : R2 := fun x y H Q => ∃ i k, x = .int i ∧ y = .bl k ∧ Q (.int (i + b2i k)) H
def rAddS : R2 := fun x y H Q => ∃ i j, x = .str i ∧ y = .str j ∧ i.length + j.length ≤ sizeLine ∧ Q (.str (i ++ j)) H
def rAddD (K : PySem.W.Frag) : R2 := fun x y H Q => rI0 (fun i j => .int (i + j)) x y H Q ∨ (rAddB x y H Q ∨ (rAddS x y H Q ∨ (rCatA K x y H Q ∨ rCatR x y H Q)))
theorem op_addD {X : Cx} : OpR X (binaryOp .Add) (rAddD X.K) := op_add.or (op_add_ib.or (op_add_str.or (op_catA.or op_catR)))
def dAdd : D → D → Option D
  | .int i, .int j => some (.int (i + j))
  | .int i, .bool k => some (.int (i + b2i k))
  | .str x, .str y => if x.length + y.length ≤ sizeLine then some (.str (x ++ y)) else none
  | .tuple xs, .tuple ys => if xs.length + ys.length ≤ sizeLine then some (.tuple (xs ++ ys)) else none
  | .list xs, .list ys => if xs.length + ys.length ≤ sizeLine then some (.list (xs ++ ys)) else none
  | _, _ => none
theorem dAdd_ok {K : PySem.W.Frag} : OpD (rAddD K) dAdd := by
  intro G H x y dx dy d Q s hx hy e q
  unfold dAdd at e
  split at e
  · cases dt_int hx; cases dt_int hy; cases e
    exact .inl ⟨_, _, rfl, rfl, q _ G H (.refl s) (.int _)⟩
  · cases dt_int hx; cases dt_bool hy; cases e
    exact .inr (.inl ⟨_, _, rfl, rfl, q _ G H (.refl s) (.int _)⟩)
  · cases dt_str hx; cases dt_str hy
    obtain ⟨hl, ez⟩ := ifS e; subst ez
    exact .inr (.inr (.inl ⟨_, _, rfl, rfl, hl, q _ G H (.refl s) (.str _)⟩))
  · obtain ⟨a, vs, rfl, hr, ha⟩ := dt_tup hx
    obtain ⟨b, us, rfl, hr2, hb⟩ := dt_tup hy
    obtain ⟨hl, ez⟩ := ifS e; subst ez
    refine .inr (.inr (.inr (.inl ⟨a, b, vs, us, rfl, rfl, .inl (rd_mono s hr), .inl (rd_mono s hr2), by rw [dpAll_len ha, dpAll_len hb]; exact hl, fun z => ?_, fun _ z => ?_, fun _ _ p hp => ?_⟩)))
    · subst z; cases ha
      exact q _ G H (.refl s) (.tup hr2 hb)
    · subst z; cases hb
      rw [List.append_nil] at q
      exact q _ G H (.refl s) (.tup hr ha)
    · have g : Grow G H (upd G p (.tup (vs ++ us))) (upd H p (.tup (vs ++ us))) := .laid s hp
      exact q _ _ _ g (.tup (.inl upd_same) ((dpAll_app ha hb).mono g.sub))
  · obtain ⟨a, vs, rfl, hr, ha⟩ := dt_lst hx
    obtain ⟨b, us, rfl, hr2, hb⟩ := dt_lst hy
    obtain ⟨hl, ez⟩ := ifS e; subst ez
    refine .inr (.inr (.inr (.inr ⟨a, b, vs, us, rfl, rfl, rd_mono s hr, rd_mono s hr2, by rw [dpAll_len ha, dpAll_len hb]; exact hl, fun p hp => ?_⟩)))
    have g : Grow G H (upd G p (.lst (vs ++ us))) (upd H p (.lst (vs ++ us))) := .laid s hp
    exact q _ _ _ g (.lst (.inl upd_same) ((dpAll_app ha hb).mono g.sub))
  · cases e
def dSub : D → D → Option D
  | .int i, .int j => some (.int (i - j))
  | _, _ => none
theorem dSub_ok : OpD (rI0 fun i j => .int (i - j)) dSub := by
  intro G H x y dx dy d Q s hx hy e q
  unfold dSub at e
  split at e
  · cases dt_int hx; cases dt_int hy; cases e
    exact ⟨_, _, rfl, rfl, q _ G H (.refl s) (.int _)⟩
  · cases e
/-- * of ints (one factor below 2^64), a list so many times -/
def dMul : D → D → Option D
  | .int i, .int j => if (-(2 ^ 64) < i ∧ i < 2 ^ 64) ∨ (-(2 ^ 64) < j ∧ j < 2 ^ 64) then some (.int (i * j)) else none
  | .list xs, .int k => if -(2 ^ 63) ≤ k ∧ k < 2 ^ 63 ∧ xs.length * k.toNat ≤ sizeLine then some (.list (List.replicate k.toNat xs).flatten) else none
  | _, _ => none
def rRepR : R2 := fun x y H Q => ∃ l k xs, x = .ref l ∧ y = .int k ∧ H l = some (.lst xs) ∧ -(2 ^ 63) ≤ k ∧ k < 2 ^ 63 ∧ xs.length * k.toNat ≤ sizeLine ∧
  ∀ p, H p = none → Q (.ref p) (upd H p (.lst (List.replicate k.toNat xs).flatten))
def rMulD : R2 := fun x y H Q => rI CMul (fun i j => .int (i * j)) x y H Q ∨ rRep x y H Q
theorem op_mulD {X : Cx} : OpR X (binaryOp .Mult) rMulD := op_mul.or op_rep
theorem dtAll_rep {G : Hp} {vs : List V} {ds : List D} (h : DtAll G vs ds) : ∀ n : Nat, DtAll G (List.replicate n vs).flatten (List.replicate n ds).flatten
  | 0 => .nil
  | n + 1 => by
    rw [List.replicate_succ, List.replicate_succ, List.flatten_cons, List.flatten_cons]
    exact dpAll_app h (dtAll_rep h n)
/-- lists that the text has just made are written ones -/
def NoFrz (G : Hp) (v : V) : Prop := ∀ a, v = .ref a → ∀ o u, G a ≠ some (.frz o u)
theorem op_mul_frz {X : Cx} : True := trivial
def dMulI : D → D → Option D
  | .int i, .int j => if (-(2 ^ 64) < i ∧ i < 2 ^ 64) ∨ (-(2 ^ 64) < j ∧ j < 2 ^ 64) then some (.int (i * j)) else none
  | _, _ => none
theorem dMulI_ok : OpD (rI CMul fun i j => .int (i * j)) dMulI := by
  intro G H x y dx dy d Q s hx hy e q
  unfold dMulI at e
  split at e
  · cases dt_int hx; cases dt_int hy
    obtain ⟨hl, ez⟩ := ifS e; subst ez
    exact ⟨_, _, rfl, rfl, hl, q _ G H (.refl s) (.int _)⟩
  · cases e
def dMod : D → D → Option D
  | .int i, .int j => if 0 < j then some (.int (i % j)) else none
  | _, _ => none
theorem dMod_ok : OpD (rI (fun _ j => 0 < j) fun i j => .int (i % j)) dMod := by
  intro G H x y dx dy d Q s hx hy e q
  unfold dMod at e
  split at e
  · cases dt_int hx; cases dt_int hy
    obtain ⟨hl, ez⟩ := ifS e; subst ez
    exact ⟨_, _, rfl, rfl, hl, q _ G H (.refl s) (.int _)⟩
  · cases e
def dDiv : D → D → Option D
  | .int i, .int j => if 0 < j ∧ j < 1073741824 then some (.int (i / j)) else none
  | _, _ => none
theorem dDiv_ok : OpD (rI CDiv fun i j => .int (i / j)) dDiv := by
  intro G H x y dx dy d Q s hx hy e q
  unfold dDiv at e
  split at e
  · cases dt_int hx; cases dt_int hy
    obtain ⟨hl, ez⟩ := ifS e; subst ez
    exact ⟨_, _, rfl, rfl, hl, q _ G H (.refl s) (.int _)⟩
  · cases e
def dPow : D → D → Option D
  | .int i, .int j => if 0 ≤ j ∧ j ≤ 1000000 ∧ i.natAbs < 2 ^ 64 then some (.int (i ^ j.toNat)) else none
  | _, _ => none
theorem dPow_ok : OpD (rI CPow fun i j => .int (i ^ j.toNat)) dPow := by
  intro G H x y dx dy d Q s hx hy e q
  unfold dPow at e
  split at e
  · cases dt_int hx; cases dt_int hy
    obtain ⟨hl, ez⟩ := ifS e; subst ez
    exact ⟨_, _, rfl, rfl, hl, q _ G H (.refl s) (.int _)⟩
  · cases e
def dNeg : D → Option D
  | .int i => some (.int (-i))
  | _ => none
theorem dNeg_ok : UnD (rU fun i => .int (-i)) dNeg := by
  intro G H x dx d Q s hx e q
  unfold dNeg at e
  split at e
  · cases dt_int hx; cases e
    exact ⟨_, rfl, q _ G H (.refl s) (.int _)⟩
  · cases e

/-! ### comparisons -/
def dCmp (p : Int → Int → Bool) : D → D → Option Bool
  | .int i, .int j => some (p i j)
  | _, _ => none
theorem dCmp_ok {p : Int → Int → Bool} : CmpD (rI0 fun i j => .bl (p i j)) (dCmp p) := by
  intro G H x y dx dy k Q s hx hy e q
  unfold dCmp at e
  split at e
  · cases dt_int hx; cases dt_int hy; cases e
    exact ⟨_, _, rfl, rfl, q⟩
  · cases e
abbrev dLt := dCmp fun i j => decide (i < j)
abbrev dLe := dCmp fun i j => decide (i ≤ j)
abbrev dGt := dCmp fun i j => decide (j < i)
abbrev dGe := dCmp fun i j => decide (j ≤ i)
def dEq (x y : D) : Option Bool := if SeqAt.shaped x = true ∧ SeqAt.shaped y = true then some (PyData.eqv x y) else none
def dNe (x y : D) : Option Bool := if SeqAt.shaped x = true ∧ SeqAt.shaped y = true then some (!PyData.eqv x y) else none
theorem dEq_ok {K : PySem.W.Frag} : CmpD (rEqD K) dEq := by
  intro G H x y dx dy k Q s hx hy e q
  obtain ⟨⟨h1, h2⟩, ez⟩ := ifS e
  subst ez
  exact ⟨dx, dy, dt_dp _ _ (hx.mono s) (SeqAt.canLay_of_shaped h1), dt_dp _ _ (hy.mono s) (SeqAt.canLay_of_shaped h2), h1, h2, q⟩
theorem dNe_ok {K : PySem.W.Frag} : CmpD (rNeD K) dNe := by
  intro G H x y dx dy k Q s hx hy e q
  obtain ⟨⟨h1, h2⟩, ez⟩ := ifS e
  subst ez
  exact ⟨dx, dy, dt_dp _ _ (hx.mono s) (SeqAt.canLay_of_shaped h1), dt_dp _ _ (hy.mono s) (SeqAt.canLay_of_shaped h2), h1, h2, q⟩
/-- is None; is True, is False -/
def dIs : D → D → Option Bool
  | .none, .none => some true
  | .none, .bool _ => some false
  | .bool a, .bool b => some (decide (a = b))
  | .bool _, .none => some false
  | .int _, .none | .str _, .none | .list _, .none | .tuple _, .none => some false
  | _, _ => none
def dIsNone : D → D → Option Bool
  | .none, .none => some true
  | .bool _, .none | .int _, .none | .str _, .none | .list _, .none | .tuple _, .none => some false
  | _, _ => none
def dNotNone (x y : D) : Option Bool := (dIsNone x y).map (!·)
theorem isNone_of {G : Hp} {x y : V} {dx dy : D} {k : Bool} (hx : Dt G x dx) (hy : Dt G y dy) (e : dIsNone dx dy = some k) : y = .non ∧ k = decide (x = .non) := by
  cases hy with
  | non =>
    refine ⟨rfl, ?_⟩
    cases hx <;> first | (cases e; done) | (have := Option.some.inj e; subst this; rfl)
  | _ => cases hx <;> cases e
theorem dIsNone_ok : CmpD (fun x y H Q => y = .non ∧ Q (.bl (decide (x = .non))) H) dIsNone := by
  intro G H x y dx dy k Q s hx hy e q
  obtain ⟨h1, h2⟩ := isNone_of hx hy e
  exact ⟨h1, h2 ▸ q⟩
theorem dNotNone_ok : CmpD (fun x y H Q => y = .non ∧ Q (.bl (!decide (x = .non))) H) dNotNone := by
  intro G H x y dx dy k Q s hx hy e q
  unfold dNotNone at e
  cases h : dIsNone dx dy with
  | none => rw [h] at e; cases e
  | some j =>
    rw [h] at e
    obtain ⟨h1, h2⟩ := isNone_of hx hy h
    refine ⟨h1, ?_⟩
    rw [← h2]
    have : k = !j := (Option.some.inj e).symm
    rw [← this]; exact q
/-- in, not in: of a list of data; of a text, one sign -/
def dIn : D → D → Option Bool
  | x, .list ys => if SeqAt.shaped x = true ∧ SeqAt.shaped (.list ys) = true then some (ys.any fun y => PyData.eqv y x) else none
  | _, _ => none
end DL

namespace DL
open PySem PySem.Spec PyProof.Rows L2 HT

/-! ### t[::-1] of a tuple -/
section
variable {prog : Program} {w : World} {A : Around} {E : Value → Shared → Prop} {s : Shared}
theorem places_rev (n : Nat) : Builtin.Slice.slicePlaces ((n : Int) - 1) (-1) (-1) = n := by
  unfold Builtin.Slice.slicePlaces
  have h1 : ¬ ((-1 : Int) > 0) := by omega
  simp only [h1, if_false]
  have h2 : -(-1 : Int) = 1 := by omega
  rw [h2, Int.ediv_one]
  split <;> omega
theorem sliceApplied_rev {sl : Addr} {vl vu vs : Value} {n : Nat} {Q : Int × Int × Nat → Shared → Prop} (hs : s.heap.IsSliceOf sl vl vu vs) (pl : IsPart vl none) (pu : IsPart vu none) (ps : IsPart vs (some (-1)))
    (h : Q ((n : Int) - 1, -1, n) s) : wpAny (model prog w) A (Builtin.Slice.sliceApplied (.ref sl) (pure (n : Int))) Q E s := by
  obtain ⟨os, hos, hcs, hds⟩ := id hs
  unfold Builtin.Slice.sliceApplied Builtin.Slice.sliceFields
  refine wpAny_bind (wpAny_bind (wpAny_field hos hds (x := vl) rfl (wpAny_bind (wpAny_field hos hds (x := vu) rfl (wpAny_bind (wpAny_field hos hds (x := vs) rfl (wpAny_pure ?_)))))))
  refine wpAny_bind (slicePart_ ps ?_)
  show wpAny _ _ (if ((-1 : Int) == 0) = true then _ else _) _ _ s
  rw [if_neg (by decide)]
  refine wpAny_bind (slicePart_ pl (wpAny_bind (slicePart_ pu (wpAny_bind (wpAny_pure ?_)))))
  show wpAny _ _ (match Builtin.Slice.sliceAdjust none none (-1) (n : Int) with | (lo, hi) => pure (lo, (-1 : Int), Builtin.Slice.slicePlaces lo hi (-1))) _ _ s
  rw [show Builtin.Slice.sliceAdjust none none (-1) (n : Int) = ((n : Int) - 1, -1) from rfl]
  show wpAny _ _ (pure ((n : Int) - 1, (-1 : Int), Builtin.Slice.slicePlaces ((n : Int) - 1) (-1) (-1))) _ _ s
  rw [places_rev]
  exact wpAny_pure h
theorem pick_rev_list {α : Type} : ∀ (n : Nat) (l : List α), n ≤ l.length → ((List.range n).filterMap fun k => l[n - 1 - k]?) = (l.take n).reverse := by
  intro n
  induction n with
  | zero => intro l _; simp
  | succ n ih =>
    intro l h
    rw [List.range_succ_eq_map, List.filterMap_cons]
    have e0 : l[n + 1 - 1 - 0]? = some (l[n]'(by omega)) := by
      rw [show n + 1 - 1 - 0 = n by omega]
      exact List.getElem?_eq_getElem _
    rw [e0]
    have e1 : List.filterMap (fun k => l[n + 1 - 1 - k]?) (List.map Nat.succ (List.range n)) = (List.range n).filterMap fun k => l[n - 1 - k]? := by
      rw [List.filterMap_map]
      congr 1
      funext k
      show l[n + 1 - 1 - (k + 1)]? = _
      rw [show n + 1 - 1 - (k + 1) = n - 1 - k by omega]
    show l[n] :: List.filterMap (fun k => l[n + 1 - 1 - k]?) (List.map Nat.succ (List.range n)) = _
    rw [e1, ih l (by omega), List.take_succ_eq_append_getElem (by omega), List.reverse_append]
    rfl
theorem pick_rev (xs : Array Value) : ((List.range xs.size).filterMap fun (k : Nat) => xs[(((xs.size : Int) - 1) + (k : Int) * (-1)).toNat]?) = xs.toList.reverse := by
  have e : ((List.range xs.size).filterMap fun (k : Nat) => xs[(((xs.size : Int) - 1) + (k : Int) * (-1)).toNat]?) = (List.range xs.size).filterMap fun k => xs.toList[xs.size - 1 - k]? := by
    congr 1
    funext k
    rw [show (((xs.size : Int) - 1) + (k : Int) * (-1)).toNat = xs.size - 1 - k by omega, Array.getElem?_toList]
  rw [e, pick_rev_list xs.size xs.toList (by simp), List.take_of_length_le (by simp)]
theorem getItem_tuple_rev {t sl : Addr} {items : Array Value} {vl vu vs : Value} {Q : Value → Shared → Prop} (ht : IsTup s.heap t items) (hs : s.heap.IsSliceOf sl vl vu vs) (pl : IsPart vl none) (pu : IsPart vu none) (ps : IsPart vs (some (-1)))
    (h : Q (.ref s.heap.objs.size) { s with heap := s.heap.push { cls := .type "tuple", data := .seq (items.toList.reverse).toArray } })
    (hsz : items.size ≤ sizeLine) : wpAny (model prog w) A (getItem (.ref t) (.ref sl)) Q E s := by
  have htake : sizeOk (.seq (items.toList.reverse).toArray) := by
    show ((items.toList.reverse).toArray).size ≤ sizeLine
    simpa using hsz
  obtain ⟨os, hos, hcs, hds⟩ := id hs
  have hTs : s.TypeIs (.ref sl) "slice" := ⟨os, hos, hcs⟩
  unfold getItem
  try with_reducible refine wpAny_holding ?_
  first | refine wpAny_bind (wpAny_pure ?_) | skip
  refine wpAny_bind (wpAny_sequenceKey ht.typeIs (by decide) ?_)
  refine wpAny_bind (wpAny_callSpecial?_slot (name := Str.ofString "__getitem__") ht.typeIs PyProof.Rows.slot_tuple_getitem
    (wpAny_call_entry PyProof.Rows.slot_tuple_getitem ht.typeIs entry_tuple_getitem ?_ (args_tuple_getitem _ _)))
  show wpAny _ _ (Builtin.Tuple.tupleItemsOf (.ref t) >>= _) _ _ s
  refine wpAny_bind (tupleItemsOf_ ht ?_)
  refine wpAny_bind (wpAny_typeOf hTs ?_)
  rw [if_pos (by decide)]
  refine wpAny_bind (sliceApplied_rev hs pl pu ps ?_)
  have hno : ¬ (((((items.size : Int) - 1)) == 0 && (-1 : Int) == 1 && items.size == items.size) = true) := by simp
  show wpAny _ _ (if ((((items.size : Int) - 1)) == 0 && (-1 : Int) == 1 && items.size == items.size) = true then _ else _) _ _ s
  rw [if_neg hno, pick_rev]
  first
    | exact wpAny_bind (m := Builtin.Tuple.tupleExact _) (wpAny_newObj_type (wpAny_pure ⟨_, rfl, wpAny_pure h⟩) htake)
    | exact wpAny_bind (m := Builtin.Tuple.tupleExact _) (wpAny_newObj_type (wpAny_bind (wpAny_pure (wpAny_pure ⟨_, rfl, wpAny_pure h⟩))) htake)
    | exact wpAny_bind (wpAny_bind (m := Builtin.Tuple.tupleExact _) (wpAny_newObj_type (wpAny_pure (wpAny_pure ⟨_, rfl, wpAny_pure h⟩)) htake))
    | exact wpAny_bind (wpAny_bind (m := Builtin.Tuple.tupleExact _) (wpAny_newObj_type (wpAny_pure ⟨_, rfl, wpAny_pure h⟩) htake))
end
/-- xs[::-1] of a list, a tuple -/
def tRev (te : TE) : TE := fun σ H Q => te σ H fun x H1 => ∃ a xs, x = .ref a ∧ ((Rd H1 a (.lst xs) ∧ ∀ p, H1 p = none → Q (.ref p) (upd H1 p (.lst xs.reverse))) ∨ (Rd H1 a (.tup xs) ∧ ∀ p, H1 p = none → Q (.ref p) (upd H1 p (.tup xs.reverse))))
theorem pe_rev {X : Cx} {e : Expr} {te : TE} {k : Nat} {p1 p2 p3 pos : Pos} (he : PE X e te) : PE X (.Subscript e (.Slice none none (some (.UnaryOp .USub (.Constant (.int 1) k p1) p2)) p3) pos) (tRev te) := by
  refine ⟨fun pins s σ H Q I h => ?_⟩
  refine Subscript_ (thn (he.run pins s σ H _ I h) fun v s1 ⟨x, H1, I1, r1, q1⟩ => ?_)
  obtain ⟨a, xs, ex, q⟩ := q1
  subst ex
  cases r1
  have hst : PO X (some (.UnaryOp .USub (.Constant (.int 1) k p1) p2)) (tPart (tUn (rU fun i => .int (-i)) (tC (.int 1)))) := po_some (pe_un un_neg pe_int)
  refine wpAny_Slice (thn (po_none.run pins s1 σ H1 (fun o H2 => o = none ∧ H2 = H1) I1 ⟨rfl, rfl⟩) fun vl s2 ⟨l, H2, I2, pl, el, e2⟩ => ?_)
  subst el e2
  refine thn (po_none.run pins s2 σ H2 (fun o H3 => o = none ∧ H3 = H2) I2 ⟨rfl, rfl⟩) fun vu s3 ⟨u, H3, I3, pu, eu, e3⟩ => ?_
  subst eu e3
  refine thn (hst.run pins s3 σ H3 (fun o H4 => o = some (-1) ∧ H4 = H3) I3 ⟨1, rfl, -1, rfl, rfl, rfl⟩) fun vs s4 ⟨o, H4, I4, ps, eo, e4⟩ => ?_
  subst eo e4
  have I5 : Inv X pins σ H4 { s4 with heap := s4.heap.push { cls := .type "slice", data := .fields #[vl, vu, vs] } } := I4.kept (t' := s4.toks) fun b ob q => Heap.get?_push_of_some _ q
  show wpAny (model X.prog X.w) X.A (subscriptTail e (.Slice none none (some (.UnaryOp .USub (.Constant (.int 1) k p1) p2)) p3) (.ref a) (.ref s4.heap.objs.size)) (EP X pins σ Q) X.xe { s4 with heap := s4.heap.push { cls := .type "slice", data := .fields #[vl, vu, vs] } }
  rcases q with ⟨hx, q⟩ | ⟨hx, q⟩
  · obtain ⟨its, r, ht, hz⟩ := I5.list (.inl hx)
    have hlen := r.length
    refine tail_any (ops := [.ref a, .ref s4.heap.objs.size]) ht.isList.typeIs (PySem.slot_list_getitem.lookup) ?_ (by with_unfolding_all rfl)
    refine wpAny_getItem_list_slice ht.isList (Heap.IsSliceOf.new _ vl vu vs) pl pu ps (by decide) ?_ (by rw [List.size_toArray]; omega)
    rw [PySem.W.krv_pick]
    refine ⟨.ref _, _, I5.laid (t' := s4.toks) (o := .lst xs.reverse) (fun b ob q => Heap.get?_push_of_some _ q) (Nat.le_refl _) ?_, rfl, q _ (I5.hok.fresh (Nat.le_refl _))⟩
    exact ⟨by rw [List.length_reverse]; exact hz, _, 0, r.reverse, Heap.get?_push_size _ rfl⟩
  · obtain ⟨its, r, ht, hz⟩ := I5.tuple (.inl hx)
    have hlen := r.length
    refine tail_any (ops := [.ref a, .ref s4.heap.objs.size]) ht.typeIs (PyProof.Rows.slot_tuple_getitem.lookup) ?_ (by with_unfolding_all rfl)
    refine getItem_tuple_rev ht (Heap.IsSliceOf.new _ vl vu vs) pl pu ps ?_ (by rw [List.size_toArray]; omega)
    refine ⟨.ref _, _, I5.laid (t' := s4.toks) (o := .tup xs.reverse) (fun b ob q => Heap.get?_push_of_some _ q) (Nat.le_refl _) ?_, rfl, q _ (I5.hok.fresh (Nat.le_refl _))⟩
    exact ⟨by rw [List.length_reverse]; exact hz, _, r.reverse, IsTup.new _ _⟩
end DL

namespace DL
open PySem PySem.Spec PyProof.Rows L2

/-! ### in -/
def rInS : R2 := fun x y H Q => ∃ (c : Nat) (z : Str), x = .str ⟨#[c]⟩ ∧ y = .str z ∧ Q (.bl (decide (c ∈ z.cps.toList))) H
def rNotInS : R2 := fun x y H Q => ∃ (c : Nat) (z : Str), x = .str ⟨#[c]⟩ ∧ y = .str z ∧ Q (.bl (!decide (c ∈ z.cps.toList))) H
def rInA (K : PySem.W.Frag) : R2 := fun x y H Q => rInD K x y H Q ∨ rInS x y H Q
def rNotInA (K : PySem.W.Frag) : R2 := fun x y H Q => rNotInD K x y H Q ∨ rNotInS x y H Q
theorem op_inA {X : Cx} (hu : X.A.units + 65 < cLine) : OpR X (compareOp .In) (rInA X.K) := (op_inD hu).or op_in_sign
theorem op_notInA {X : Cx} (hu : X.A.units + 65 < cLine) : OpR X (compareOp .NotIn) (rNotInA X.K) := (op_notInD hu).or op_notIn_sign
/-- the one sign of a text -/
def oneL : List Nat → Option Nat
  | [c] => some c
  | _ => none
def oneSign (x : Str) : Option Nat := oneL x.cps.toList
theorem oneSign_eq {x : Str} {c : Nat} (h : oneSign x = some c) : x = ⟨#[c]⟩ := by
  obtain ⟨⟨l⟩⟩ := x
  have h2 : oneL l = some c := h
  match l, h2 with
  | [d], h2 => cases h2; rfl
def dInA (x y : D) : Option Bool := match x, y with
  | x, .list ys => if SeqAt.shaped x = true ∧ SeqAt.shaped (.list ys) = true then some (ys.any fun y => PyData.eqv y x) else none
  | .str s, .str z => (oneSign s).map fun c => decide (c ∈ z.cps.toList)
  | _, _ => none
def dNotInA (x y : D) : Option Bool := (dInA x y).map (!·)
theorem dInA_ok {K : PySem.W.Frag} : CmpD (rInA K) dInA := by
  intro G H x y dx dy k Q s hx hy e q
  unfold dInA at e
  split at e
  · rename_i ys
    obtain ⟨⟨h1, h2⟩, ez⟩ := ifS e
    subst ez
    exact .inl ⟨dx, ys, dt_dp _ _ (hx.mono s) (SeqAt.canLay_of_shaped h1), dt_dp _ _ (hy.mono s) (SeqAt.canLay_of_shaped h2), h1, h2, q⟩
  · rename_i a z
    cases dt_str hx; cases dt_str hy
    cases h : oneSign a with
    | none => rw [h] at e; cases e
    | some c =>
      rw [h] at e
      cases e
      exact .inr ⟨c, z, congrArg V.str (oneSign_eq h), rfl, q⟩
  · cases e
theorem dNotInA_ok {K : PySem.W.Frag} : CmpD (rNotInA K) dNotInA := by
  intro G H x y dx dy k Q s hx hy e q
  unfold dNotInA at e
  cases h : dInA dx dy with
  | none => rw [h] at e; cases e
  | some j =>
    rw [h] at e
    have ek : k = !j := (Option.some.inj e).symm
    subst ek
    unfold dInA at h
    split at h
    · rename_i ys
      obtain ⟨⟨h1, h2⟩, ez⟩ := ifS h
      subst ez
      exact .inl ⟨dx, ys, dt_dp _ _ (hx.mono s) (SeqAt.canLay_of_shaped h1), dt_dp _ _ (hy.mono s) (SeqAt.canLay_of_shaped h2), h1, h2, q⟩
    · rename_i a z
      cases dt_str hx; cases dt_str hy
      cases h' : oneSign a with
      | none => rw [h'] at h; cases h
      | some c =>
        rw [h'] at h
        cases h
        exact .inr ⟨c, z, congrArg V.str (oneSign_eq h'), rfl, q⟩
    · cases h

/-! ### subscripts -/
def dIx : D → D → Option D
  | .list xs, .int i => atI xs i
  | .tuple xs, .int i => atI xs i
  | .str z, .int i => if z.length ≤ sizeLine then (atI z.cps.toList i).map fun c => .str ⟨#[c]⟩ else none
  | _, _ => none
theorem atI_dt {G : Hp} {vs : List V} {ds : List D} {i : Int} {d : D} (h : DtAll G vs ds) (e : atI ds i = some d) : ∃ v, atI vs i = some v ∧ Dt G v d := by
  unfold atI at e ⊢
  rw [← dpAll_len h] at e
  cases q : ixN vs.length i with
  | none => rw [q] at e; cases e
  | some j =>
    rw [q] at e
    exact dpAll_get h e
theorem dIx_ok {K : PySem.W.Frag} : OpD (rIx K) dIx := by
  intro G H x y dx dy d Q s hx hy e q
  unfold dIx at e
  split at e
  · obtain ⟨a, vs, rfl, hr, ha⟩ := dt_lst hx
    cases dt_int hy
    obtain ⟨v, ev, dv⟩ := atI_dt ha e
    exact .inl ⟨a, vs, _, v, rfl, rfl, .inl (rd_mono s hr), ev, q v G H (.refl s) dv⟩
  · obtain ⟨a, vs, rfl, hr, ha⟩ := dt_tup hx
    cases dt_int hy
    obtain ⟨v, ev, dv⟩ := atI_dt ha e
    exact .inr (.inl ⟨a, vs, _, v, rfl, rfl, .inl (rd_mono s hr), ev, q v G H (.refl s) dv⟩)
  · rename_i z i
    cases dt_str hx; cases dt_int hy
    split at e
    · rename_i hl
      cases h : atI z.cps.toList i with
      | none => rw [h] at e; cases e
      | some c =>
        rw [h] at e
        cases e
        exact .inr (.inr ⟨z, i, c, rfl, rfl, hl, h, q _ G H (.refl s) (.str _)⟩)
    · cases e
  · cases e
section
variable {X : Cx} {W : WX} {a b c e : Expr} {es : List Expr} {ma mb mc : M D} {ml : M (List D)} {pos p p2 : Pos}
theorem je_ix (ha : JE X W a ma) (hb : JE X W b mb) (hs : PlainIx b := by exact fun _ _ => rfl) : JE X W (.Subscript a b pos) (mOp dIx ma mb) :=
  PE.imp (pe_ix ix_seq ha hb hs) fun _ _ _ h => tOp_of dIx_ok h
/-- of a list of one's own, of the script -/
def isL : Option Sl → Bool
  | some (.own _) => true
  | some (.cel _) => true
  | some (.scr _) => true
  | _ => false
def slAt (i : Nat) (k : D) : M D := fun env => match env[i]?, k with
  | some (.own ds), .int j => mOpt (atI ds j) env
  | some (.cel ds), .int j => mOpt (atI ds j) env
  | some (.scr ns), .int j => mOpt ((atI ns j).map PyData.int) env
  | _, _ => .bad
def mIxO (i : Nat) (mb : M D) : M D := fun env => if isL env[i]? = true then mBind mb (slAt i) env else .bad
theorem atI_map {α β : Type} (f : α → β) (xs : List α) (i : Int) : atI (xs.map f) i = (atI xs i).map f := by
  unfold atI
  rw [List.length_map]
  cases ixN xs.length i with
  | none => rfl
  | some j => simp
theorem je_ixO (i : Nat) {x : Str} {px : Pos} (hb : JE X W b mb) (hN : X.N[i]? = some x := by rfl) (hv : Vis X.env.scope x := by first | exact Or.inl rfl | exact Or.inr (Or.inl rfl) | exact Or.inr (Or.inr rfl)) (hd : (x == ("__debug__" : Str)) = false := by decide)
    (hcd : (x == ("__classdict__" : Str)) = false := by decide) (hs : PlainIx b := by exact fun _ _ => rfl) : JE X W (.Subscript (.Name x px) b pos) (mIxO i mb) := by
  refine PE.imp (pe_ix (ix_list (X := X)) (pe_var hN hv hd hcd) hb hs) fun σ H Q h => ?_
  obtain ⟨b, G, env, fr, h⟩ := h
  unfold mIxO at h
  split at h
  case isFalse => exact h.elim
  rename_i hl
  have hex : ∃ u, σ[i]? = some (some u) := by
    cases he : env[i]? with
    | none => rw [he] at hl; cases hl
    | some s =>
      obtain ⟨v0, ev, q⟩ := fr.slot i s he
      rw [he] at hl
      cases s with
      | un => cases hl
      | dat d => cases hl
      | own ds => obtain ⟨a, _, e2, _⟩ := q; exact ⟨_, e2 ▸ ev⟩
      | cel ds => obtain ⟨a, _, e2, _⟩ := q; exact ⟨_, e2 ▸ ev⟩
      | scr ds => obtain ⟨a, e2, _⟩ := q; exact ⟨_, e2 ▸ ev⟩
      | dic _ => cases hl
      | nst _ => cases hl
  obtain ⟨u, hu⟩ := hex
  refine ⟨u, hu, ?_⟩
  refine tE_one fr h (fun d e1 v G1 H1 fr1 st1 dp1 h1 => ?_) (fun c e he => he)
  unfold slAt at h1
  cases he : e1[i]? with
  | none => rw [he] at h1; exact h1.elim
  | some s =>
    rw [he] at h1
    obtain ⟨v0, ev, q⟩ := fr1.slot i s he
    rw [hu] at ev
    cases ev
    cases s with
    | un => cases d <;> exact h1.elim
    | dat d' => cases d <;> exact h1.elim
    | dic _ => cases d <;> exact h1.elim
    | nst _ => cases d <;> exact h1.elim
    | own ds =>
      cases d with
      | int j =>
        obtain ⟨z, hz, h3⟩ := wpR.opt h1
        obtain ⟨a, vs, e2, ha, hd, _⟩ := q
        obtain ⟨w, ew, dw⟩ := atI_dt hd hz
        cases e2
        cases dt_int dp1
        exact ⟨a, vs, j, w, rfl, rfl, .inl (.inl ha), ew, h3 w G1 H1 fr1 st1 dw⟩
      | _ => exact h1.elim
    | cel ds =>
      cases d with
      | int j =>
        obtain ⟨z, hz, h3⟩ := wpR.opt h1
        obtain ⟨a, vs, e2, ha, hd, _⟩ := q
        obtain ⟨w, ew, dw⟩ := atI_dt hd hz
        cases e2
        cases dt_int dp1
        exact ⟨a, vs, j, w, rfl, rfl, .inl (.inl ha), ew, h3 w G1 H1 fr1 st1 dw⟩
      | _ => exact h1.elim
    | scr ns =>
      cases d with
      | int j =>
        obtain ⟨z, hz, h3⟩ := wpR.opt h1
        obtain ⟨a, e2, ha⟩ := q
        cases e2
        cases dt_int dp1
        cases hn : atI ns j with
        | none => rw [hn] at hz; cases hz
        | some n =>
          rw [hn] at hz
          cases hz
          refine ⟨a, ns.map V.int, j, .int n, rfl, rfl, fr1.sub.seq ha, ?_, h3 (.int n) G1 H1 fr1 st1 (.int n)⟩
          rw [atI_map, hn]; rfl
      | _ => exact h1.elim

/-! ### slices -/
def cutD (xs : List D) (lo hi : Option Int) : List D := (xs.drop (HT.sIx xs.length 0 lo)).take (HT.sIx xs.length xs.length hi - HT.sIx xs.length 0 lo)
theorem cut_dt {G : Hp} {vs : List V} {ds : List D} (h : DtAll G vs ds) (lo hi : Option Int) : DtAll G (cutV vs lo hi) (cutD ds lo hi) := by
  unfold cutV cutD
  rw [dpAll_len h]
  exact dpAll_take _ (dpAll_drop _ h)
def dSl (x : D) (lo hi : Option Int) : Option D := match x with
  | .list xs => some (.list (cutD xs lo hi))
  | .tuple xs => some (.tuple (cutD xs lo hi))
  | .str z => if z.length ≤ sizeLine then some (.str (cutS z lo hi)) else none
  | _ => none
def rSlD (K : PySem.W.Frag) : V → Option Int → Option Int → Hp → VK → Prop := fun x lo hi H Q => rSlL K x lo hi H Q ∨ (rSlA K x lo hi H Q ∨ rSlS x lo hi H Q)
theorem sl_D : SlR X (rSlD X.K) := sl_list.or (sl_tupA.or sl_str)
theorem cutV_whole {xs : List V} {lo hi : Option Int} (h : HT.sIx xs.length 0 lo = 0 ∧ HT.sIx xs.length xs.length hi = xs.length) : cutV xs lo hi = xs := by
  unfold cutV
  rw [h.1, h.2]
  simp
theorem dSl_ok {K : PySem.W.Frag} {G H : Hp} {x : V} {dx d : D} {lo hi : Option Int} {Q : VK} (s : Sub G H) (hx : Dt G x dx) (e : dSl dx lo hi = some d) (q : ∀ z G' H', Grow G H G' H' → Dt G' z d → Q z H') : rSlD K x lo hi H Q := by
  cases hx with
  | @lst a vs ds hr ha =>
    cases e
    refine .inl ⟨a, vs, rfl, .inl (rd_mono s hr), fun p hp => ?_⟩
    have g : Grow G H (upd G p (.lst (cutV vs lo hi))) (upd H p (.lst (cutV vs lo hi))) := .laid s hp
    exact q _ _ _ g (.lst (.inl upd_same) ((cut_dt ha lo hi).mono g.sub))
  | @tup a vs ds hr ha =>
    cases e
    refine .inr (.inl ⟨a, vs, rfl, .inl (rd_mono s hr), fun hw => ?_, fun _ p hp => ?_⟩)
    · refine q _ G H (.refl s) (.tup hr ?_)
      have := cut_dt ha lo hi
      rw [cutV_whole hw] at this
      exact this
    · have g : Grow G H (upd G p (.tup (cutV vs lo hi))) (upd H p (.tup (cutV vs lo hi))) := .laid s hp
      exact q _ _ _ g (.tup (.inl upd_same) ((cut_dt ha lo hi).mono g.sub))
  | str z =>
    have e2 : (if z.length ≤ sizeLine then some (PyData.str (cutS z lo hi)) else none) = some d := e
    obtain ⟨hl, ez⟩ := ifS e2
    subst ez
    exact .inr (.inr ⟨z, rfl, hl, q _ G H (.refl s) (.str _)⟩)
  | _ => cases e
abbrev JP (X : Cx) (W : WX) (e : Option Expr) (t : TO) (m : M (Option Int)) : Prop := PO X e t ∧ ∀ {σ : St} {H : Hp} {Q : Option Int → Hp → Prop} {b : Bs} {G : Hp} {env : Ev} {F : Option Int → Ev → Prop} {Ee : Str → Ev → Prop}, Fr X.K b G H σ env → wpR (m env) F Ee →
  (∀ o e1 G1 H1, Fr X.K b G1 H1 σ e1 → Step σ env e1 G H G1 H1 → F o e1 → Q o H1) → (∀ c e1, Ee c e1 → ∀ G' H', Fr X.K b G' H' σ e1 → W (clsV X.K c) none σ H') → t σ H Q
def mNoP : M (Option Int) := mPure none
def dInt : D → Option Int
  | .int i => some i
  | _ => none
def mPart (m : M D) : M (Option Int) := mBind m fun d => mBind (mOpt (dInt d)) fun i => mPure (some i)
theorem jp_none : JP X W none tNoPart mNoP := ⟨po_none, fun fr h hq he => hq none _ _ _ fr .refl h⟩
theorem jp_some (he : JE X W e ma) : JP X W (some e) (tPart (tE X.K W ma)) (mPart ma) := by
  refine ⟨po_some he, fun {σ H Q b G env F Ee} fr h hq hc => ?_⟩
  refine tE_one fr h (fun d e1 v G1 H1 fr1 st1 dp1 h1 => ?_) hc
  obtain ⟨i, hz, h3⟩ := wpR.opt (wpR.bind h1)
  cases d with
  | int j => cases hz; cases dt_int dp1; exact ⟨_, rfl, hq _ _ _ _ fr1 st1 h3⟩
  | _ => cases hz
def mSl (ma : M D) (ml mh : M (Option Int)) : M D := mBind ma fun x => mBind ml fun lo => mBind mh fun hi => mOpt (dSl x lo hi)
theorem je_sl {lo hi : Option Expr} {tl th : TO} {mlo mhi : M (Option Int)} (ha : JE X W e ma) (hl : JP X W lo tl mlo) (hh : JP X W hi th mhi) : JE X W (.Subscript e (.Slice lo hi none p2) pos) (mSl ma mlo mhi) := by
  refine PE.imp (pe_slice sl_D ha hl.1 hh.1) fun σ H Q h => ?_
  obtain ⟨b, G, env, fr, h⟩ := h
  refine tE_one fr h (fun d e1 v G1 H1 fr1 st1 dp1 h1 => ?_) (fun c e he => he)
  refine hl.2 fr1 (wpR.bind h1) (fun lo e2 G2 H2 fr2 st2 h2 => ?_) (fun c e he => he)
  refine hh.2 fr2 (wpR.bind h2) (fun hi e3 G3 H3 fr3 st3 h3 => ?_) (fun c e he => he)
  obtain ⟨z, hz, h4⟩ := wpR.opt h3
  exact dSl_ok fr3.sub (dp1.mono (st2.sub.trans st3.sub)) hz fun u G' H' g dz => h4 u G' H' (fr3.grow g) (((st1.trans st2).trans st3).trans (.grow g)) dz
def dRev : D → Option D
  | .list xs => some (.list xs.reverse)
  | .tuple xs => some (.tuple xs.reverse)
  | _ => none
theorem je_rev {k : Nat} {p1 p3 : Pos} (he : JE X W e ma) : JE X W (.Subscript e (.Slice none none (some (.UnaryOp .USub (.Constant (.int 1) k p1) p2)) p3) pos) (mUn dRev ma) := by
  refine PE.imp (pe_rev he) fun σ H Q h => ?_
  obtain ⟨b, G, env, fr, h⟩ := h
  refine tE_one fr h (fun d e1 v G1 H1 fr1 st1 dp1 h1 => ?_) (fun c e he => he)
  obtain ⟨z, hz, h3⟩ := wpR.opt h1
  cases dp1 with
  | @lst a vs ds hr ha =>
    cases hz
    refine ⟨a, vs, rfl, .inl ⟨rd_mono fr1.sub hr, fun p hp => ?_⟩⟩
    have g : Grow G1 H1 (upd G1 p (.lst vs.reverse)) (upd H1 p (.lst vs.reverse)) := .laid fr1.sub hp
    exact h3 _ _ _ (fr1.grow g) (st1.trans (.grow g)) (.lst (.inl upd_same) ((dpAll_rev ha).mono g.sub))
  | @tup a vs ds hr ha =>
    cases hz
    refine ⟨a, vs, rfl, .inr ⟨rd_mono fr1.sub hr, fun p hp => ?_⟩⟩
    have g : Grow G1 H1 (upd G1 p (.tup vs.reverse)) (upd H1 p (.tup vs.reverse)) := .laid fr1.sub hp
    exact h3 _ _ _ (fr1.grow g) (st1.trans (.grow g)) (.tup (.inl upd_same) ((dpAll_rev ha).mono g.sub))
  | _ => cases hz

/-! ### calls of built-ins -/
def CallD (r : List V → Hp → VK → Prop) (f : List D → Option D) : Prop := ∀ (G H : Hp) (vs : List V) (ds : List D) (d : D) (Q : VK), Sub G H → DtAll G vs ds → f ds = some d → (∀ z G' H', Grow G H G' H' → Dt G' z d → Q z H') → r vs H Q
def mCall (f : List D → Option D) (ml : M (List D)) : M D := mBind ml fun ds => mOpt (f ds)
theorem tCB_of {K : PySem.W.Frag} {r : List V → Hp → VK → Prop} {f : List D → Option D} (od : CallD r f) {σ : St} {H : Hp} {Q : VK} (h : tE K W (mCall f ml) σ H Q) : tCB r (tL K W ml) σ H Q := by
  obtain ⟨b, G, env, fr, h⟩ := h
  refine tL_one fr h (fun ds e1 vs G1 H1 fr1 st1 dp1 h1 => ?_) (fun c e he => he)
  obtain ⟨z, hz, h3⟩ := wpR.opt h1
  exact od G1 H1 vs ds z Q fr1.sub dp1 hz fun u G' H' g dz => h3 u G' H' (fr1.grow g) (st1.trans (.grow g)) dz
theorem je_callB {id : String} {x : Str} {r : List V → Hp → VK → Prop} {f : List D → Option D} (hc : CallR X (.builtin id) r) (od : CallD r f) (hg : Gl X x) (hm : X.mg x = none) (hv : bootBuiltins x = some (.builtin id)) (ha : JL X W (e :: es) ml) (hn : x ≠ "__name__" := by decide) (hdb : (x == ("__debug__" : Str)) = false := by decide)
    (he : starEach (e :: es) X.env = (false, eval e X.env) :: starEach es X.env := by rfl) (hpl : (backTo pos (starEach es X.env)).any (·.1) = false := by rfl) : JE X W (.Call (.Name x p) (e :: es) [] pos) (mCall f ml) :=
  PE.imp (pe_callB hc hg hm hv ha hn hdb he hpl) fun _ _ _ h => tCB_of od h
theorem je_callTy {T : String} {x : Str} {r : List V → Hp → VK → Prop} {f : List D → Option D} (hc : CallR X (.type T) r) (od : CallD r f) (hg : Gl X x) (hm : X.mg x = none) (hv : bootBuiltins x = some (.type T)) (ha : JL X W (e :: es) ml) (hn : x ≠ "__name__" := by decide) (hdb : (x == ("__debug__" : Str)) = false := by decide)
    (he : starEach (e :: es) X.env = (false, eval e X.env) :: starEach es X.env := by rfl) (hpl : (backTo pos (starEach es X.env)).any (·.1) = false := by rfl) : JE X W (.Call (.Name x p) (e :: es) [] pos) (mCall f ml) :=
  PE.imp (pe_callTy hc hg hm hv ha hn hdb he hpl) fun _ _ _ h => tCB_of od h
end
end DL

namespace DL
open PySem PySem.Spec PyProof.Rows L2

def dtAll1 {G : Hp} {vs : List V} {d : D} (h : DtAll G vs [d]) : ∃ v, vs = [v] ∧ Dt G v d := by
  cases h with
  | cons h1 h2 => cases h2; exact ⟨_, rfl, h1⟩
def dtAll2 {G : Hp} {vs : List V} {d e : D} (h : DtAll G vs [d, e]) : ∃ v u, vs = [v, u] ∧ Dt G v d ∧ Dt G u e := by
  cases h with
  | cons h1 h2 => obtain ⟨u, rfl, h3⟩ := dtAll1 h2; exact ⟨_, u, rfl, h1, h3⟩
/-! ### len -/
def dLen : List D → Option D
  | [.list ds] => some (.int ds.length)
  | [.tuple ds] => some (.int ds.length)
  | [.str z] => if z.length ≤ sizeLine then some (.int z.length) else none
  | _ => none
theorem dLen_ok {K : PySem.W.Frag} : CallD (fun xs H Q => ∃ x n, xs = [x] ∧ LenV K x H n ∧ Q (.int n) H) dLen := by
  intro G H vs ds d Q s hv e q
  unfold dLen at e
  split at e
  · obtain ⟨v, rfl, hd⟩ := dtAll1 hv
    obtain ⟨a, us, rfl, hr, ha⟩ := dt_lst hd
    cases e
    exact ⟨_, _, rfl, .inl ⟨us, .inl (rd_mono s hr), (dpAll_len ha).symm⟩, q _ G H (.refl s) (.int _)⟩
  · obtain ⟨v, rfl, hd⟩ := dtAll1 hv
    obtain ⟨a, us, rfl, hr, ha⟩ := dt_tup hd
    cases e
    exact ⟨_, _, rfl, .inr ⟨us, .inl (rd_mono s hr), (dpAll_len ha).symm⟩, q _ G H (.refl s) (.int _)⟩
  · obtain ⟨v, rfl, hd⟩ := dtAll1 hv
    cases dt_str hd
    obtain ⟨hl, ez⟩ := ifS e
    subst ez
    exact ⟨_, _, rfl, ⟨hl, rfl⟩, q _ G H (.refl s) (.int _)⟩
  · cases e
/-- len of a list of one's own, of the script -/
def mLenO (i : Nat) : M D := fun env => match env[i]? with
  | some (.own ds) => .ok (.int ds.length, env)
  | some (.cel ds) => .ok (.int ds.length, env)
  | some (.scr ns) => .ok (.int ns.length, env)
  | _ => .bad
section
variable {X : Cx} {W : WX} {a b c e : Expr} {es : List Expr} {ma mb mc : M D} {ml : M (List D)} {pos p p2 : Pos}
theorem je_lenO (i : Nat) {x f : Str} {px : Pos} (hg : Gl X f) (hm : X.mg f = none) (hv : bootBuiltins f = some (.builtin "len")) (hN : X.N[i]? = some x := by rfl) (hvis : Vis X.env.scope x := by first | exact Or.inl rfl | exact Or.inr (Or.inl rfl) | exact Or.inr (Or.inr rfl)) (hd : (x == ("__debug__" : Str)) = false := by decide)
    (hcd : (x == ("__classdict__" : Str)) = false := by decide) (hn : f ≠ "__name__" := by decide) (hdb : (f == ("__debug__" : Str)) = false := by decide)
    (he : starEach ((Expr.Name x px) :: []) X.env = (false, eval (Expr.Name x px) X.env) :: starEach [] X.env := by rfl) (hpl : (backTo pos (starEach [] X.env)).any (·.1) = false := by rfl) : JE X W (.Call (.Name f p) [.Name x px] [] pos) (mLenO i) := by
  refine PE.imp (pe_callB call_len hg hm hv (pa_cons (pe_var hN hvis hd hcd) pa_nil he) hn hdb he hpl) fun σ H Q h => ?_
  obtain ⟨b, G, env, fr, h⟩ := h
  unfold mLenO at h
  cases hi : env[i]? with
  | none => rw [hi] at h; exact h.elim
  | some s =>
    rw [hi] at h
    obtain ⟨v0, ev, q⟩ := fr.slot i s hi
    cases s with
    | un => exact h.elim
    | dat d => exact h.elim
    | dic _ => exact h.elim
    | nst _ => exact h.elim
    | own ds =>
      obtain ⟨a, vs, e2, ha, hd, _⟩ := q
      subst e2
      exact ⟨_, ev, _, ds.length, rfl, .inl ⟨vs, .inl (.inl ha), (dpAll_len hd).symm⟩, h _ G H fr .refl (.int _)⟩
    | cel ds =>
      obtain ⟨a, vs, e2, ha, hd, _⟩ := q
      subst e2
      exact ⟨_, ev, _, ds.length, rfl, .inl ⟨vs, .inl (.inl ha), (dpAll_len hd).symm⟩, h _ G H fr .refl (.int _)⟩
    | scr ns =>
      obtain ⟨a, e2, ha⟩ := q
      subst e2
      exact ⟨_, ev, _, ns.length, rfl, .inl ⟨_, fr.sub.seq ha, by rw [List.length_map]⟩, h _ G H fr .refl (.int _)⟩
end
/-! ### max, min, sum, all -/
def dMax2 : List D → Option D
  | [.int i, .int j] => some (.int (max i j))
  | _ => none
def dMin2 : List D → Option D
  | [.int i, .int j] => some (.int (min i j))
  | _ => none
theorem dMax2_ok : CallD (fun xs H Q => ∃ i j, xs = [.int i, .int j] ∧ Q (.int (if j > i then j else i)) H) dMax2 := by
  intro G H vs ds d Q s hv e q
  unfold dMax2 at e
  split at e
  · rename_i i j
    obtain ⟨v, u, rfl, h1, h2⟩ := dtAll2 hv
    cases dt_int h1; cases dt_int h2; cases e
    refine ⟨i, j, rfl, ?_⟩
    have : (if j > i then j else i) = max i j := by split <;> omega
    rw [this]
    exact q _ G H (.refl s) (.int _)
  · cases e
theorem dMin2_ok : CallD (fun xs H Q => ∃ i j, xs = [.int i, .int j] ∧ Q (.int (if j < i then j else i)) H) dMin2 := by
  intro G H vs ds d Q s hv e q
  unfold dMin2 at e
  split at e
  · rename_i i j
    obtain ⟨v, u, rfl, h1, h2⟩ := dtAll2 hv
    cases dt_int h1; cases dt_int h2; cases e
    refine ⟨i, j, rfl, ?_⟩
    have : (if j < i then j else i) = min i j := by split <;> omega
    rw [this]
    exact q _ G H (.refl s) (.int _)
  · cases e
/-- all ints -/
def ints? : List D → Option (List Int)
  | [] => some []
  | .int i :: r => (ints? r).map (i :: ·)
  | _ :: _ => none
theorem ints_map (ns : List Int) : ints? (ns.map PyData.int) = some ns := by
  induction ns with
  | nil => rfl
  | cons n r ih => show (ints? (r.map PyData.int)).map (n :: ·) = _; rw [ih]; rfl
theorem ints_of {G : Hp} : ∀ {ds : List D} {vs : List V} {ns : List Int}, ints? ds = some ns → DtAll G vs ds → vs = ns.map V.int
  | [], _, _, e, h => by cases e; cases h; rfl
  | .int i :: r, _, ns, e, h => by
    cases h with
    | cons h1 h2 =>
      cases q : ints? r with
      | none => rw [ints?, q] at e; cases e
      | some ms =>
        rw [ints?, q] at e
        cases e
        rw [dt_int h1, ints_of q h2]; rfl
  | .none :: _, _, _, e, _ => by cases e
  | .bool _ :: _, _, _, e, _ => by cases e
  | .str _ :: _, _, _, e, _ => by cases e
  | .list _ :: _, _, _, e, _ => by cases e
  | .tuple _ :: _, _, _, e, _ => by cases e
  | .dict _ :: _, _, _, e, _ => by cases e
def bools? : List D → Option (List Bool)
  | [] => some []
  | .bool i :: r => (bools? r).map (i :: ·)
  | _ :: _ => none
theorem bools_map (ns : List Bool) : bools? (ns.map PyData.bool) = some ns := by
  induction ns with
  | nil => rfl
  | cons n r ih => show (bools? (r.map PyData.bool)).map (n :: ·) = _; rw [ih]; rfl
theorem bools_of {G : Hp} : ∀ {ds : List D} {vs : List V} {ns : List Bool}, bools? ds = some ns → DtAll G vs ds → vs = ns.map V.bl
  | [], _, _, e, h => by cases e; cases h; rfl
  | .bool i :: r, _, ns, e, h => by
    cases h with
    | cons h1 h2 =>
      cases q : bools? r with
      | none => rw [bools?, q] at e; cases e
      | some ms =>
        rw [bools?, q] at e
        cases e
        rw [dt_bool h1, bools_of q h2]; rfl
  | .none :: _, _, _, e, _ => by cases e
  | .int _ :: _, _, _, e, _ => by cases e
  | .str _ :: _, _, _, e, _ => by cases e
  | .list _ :: _, _, _, e, _ => by cases e
  | .tuple _ :: _, _, _, e, _ => by cases e
  | .dict _ :: _, _, _, e, _ => by cases e
def dSum : List D → Option D
  | [.list ds] => (ints? ds).map fun ns => .int ns.sum
  | _ => none
theorem dSum_ok {K : PySem.W.Frag} : CallD (rSum K) dSum := by
  intro G H vs ds d Q s hv e q
  unfold dSum at e
  split at e
  · rename_i ds
    obtain ⟨v, rfl, hd⟩ := dtAll1 hv
    obtain ⟨a, us, rfl, hr, ha⟩ := dt_lst hd
    cases h : ints? ds with
    | none => rw [h] at e; cases e
    | some ns =>
      rw [h] at e
      cases e
      rw [ints_of h ha] at hr
      exact ⟨a, ns, rfl, .inl (rd_mono s hr), q _ G H (.refl s) (.int _)⟩
  · cases e
def dAll : List D → Option D
  | [.list ds] => (bools? ds).map fun ns => .bool (ns.all id)
  | _ => none
theorem dAll_ok {K : PySem.W.Frag} : CallD (rAll K) dAll := by
  intro G H vs ds d Q s hv e q
  unfold dAll at e
  split at e
  · rename_i ds
    obtain ⟨v, rfl, hd⟩ := dtAll1 hv
    obtain ⟨a, us, rfl, hr, ha⟩ := dt_lst hd
    cases h : bools? ds with
    | none => rw [h] at e; cases e
    | some ns =>
      rw [h] at e
      cases e
      rw [bools_of h ha] at hr
      exact ⟨a, ns, rfl, .inl (rd_mono s hr), q _ G H (.refl s) (.bl _)⟩
  · cases e
def dMaxL : List D → Option D
  | [.list ds] => (ints? ds).bind fun ns => ns.max?.map PyData.int
  | _ => none
def dMinL : List D → Option D
  | [.list ds] => (ints? ds).bind fun ns => ns.min?.map PyData.int
  | _ => none
theorem max_uniq {ns : List Int} {m n : Int} (h : ns.max? = some n) (h1 : m ∈ ns) (h2 : ∀ y, y ∈ ns → y ≤ m) : m = n := by
  have := List.max?_eq_some_iff.mp h
  have a := this.2 m h1
  have b := h2 n this.1
  omega
theorem min_uniq {ns : List Int} {m n : Int} (h : ns.min? = some n) (h1 : m ∈ ns) (h2 : ∀ y, y ∈ ns → m ≤ y) : m = n := by
  have := List.min?_eq_some_iff.mp h
  have a := this.2 m h1
  have b := h2 n this.1
  omega
theorem dMaxL_ok {K : PySem.W.Frag} : CallD (rMax K) dMaxL := by
  intro G H vs ds d Q s hv e q
  unfold dMaxL at e
  split at e
  · rename_i ds
    obtain ⟨v, rfl, hd⟩ := dtAll1 hv
    obtain ⟨a, us, rfl, hr, ha⟩ := dt_lst hd
    obtain ⟨ns, h, e⟩ := optS e
    cases hm : ns.max? with
    | none => rw [hm] at e; cases e
    | some n =>
      rw [hm] at e
      cases e
      rw [ints_of h ha] at hr
      refine ⟨a, ns, rfl, .inl (rd_mono s hr), ?_, fun m h1 h2 => ?_⟩
      · cases ns with
        | nil => cases hm
        | cons x r => exact Nat.succ_pos _
      · rw [max_uniq hm h1 h2]
        exact q _ G H (.refl s) (.int _)
  · cases e
theorem dMinL_ok {K : PySem.W.Frag} : CallD (rMin K) dMinL := by
  intro G H vs ds d Q s hv e q
  unfold dMinL at e
  split at e
  · rename_i ds
    obtain ⟨v, rfl, hd⟩ := dtAll1 hv
    obtain ⟨a, us, rfl, hr, ha⟩ := dt_lst hd
    obtain ⟨ns, h, e⟩ := optS e
    cases hm : ns.min? with
    | none => rw [hm] at e; cases e
    | some n =>
      rw [hm] at e
      cases e
      rw [ints_of h ha] at hr
      refine ⟨a, ns, rfl, .inl (rd_mono s hr), ?_, fun m h1 h2 => ?_⟩
      · cases ns with
        | nil => cases hm
        | cons x r => exact Nat.succ_pos _
      · rw [min_uniq hm h1 h2]
        exact q _ G H (.refl s) (.int _)
  · cases e
/-! ### int(..), tuple(..), list(..) -/
def dIntC : List D → Option D
  | [.int i] => some (.int i)
  | [.bool k] => some (.int (if k then 1 else 0))
  | _ => none
theorem dIntC_ok : CallD (fun xs H Q => (∃ i, xs = [.int i] ∧ Q (.int i) H) ∨ ∃ k, xs = [.bl k] ∧ Q (.int (if k then 1 else 0)) H) dIntC := by
  intro G H vs ds d Q s hv e q
  unfold dIntC at e
  split at e
  · obtain ⟨v, rfl, hd⟩ := dtAll1 hv
    cases dt_int hd; cases e
    exact .inl ⟨_, rfl, q _ G H (.refl s) (.int _)⟩
  · obtain ⟨v, rfl, hd⟩ := dtAll1 hv
    cases dt_bool hd; cases e
    exact .inr ⟨_, rfl, q _ G H (.refl s) (.int _)⟩
  · cases e
def dTupC : List D → Option D
  | [.list ds] => some (.tuple ds)
  | [.tuple ds] => some (.tuple ds)
  | _ => none
theorem dTupC_ok {K : PySem.W.Frag} : CallD (fun xs H Q => ∃ p ys, xs = [.ref p] ∧ ((SqL K H p ys ∧ ∀ l, H l = none → Q (.ref l) (upd H l (.tup ys))) ∨ (SqT K H p ys ∧ Q (.ref p) H))) dTupC := by
  intro G H vs ds d Q s hv e q
  unfold dTupC at e
  split at e
  · obtain ⟨v, rfl, hd⟩ := dtAll1 hv
    obtain ⟨a, us, rfl, hr, ha⟩ := dt_lst hd
    cases e
    refine ⟨a, us, rfl, .inl ⟨.inl (rd_mono s hr), fun p hp => ?_⟩⟩
    have g : Grow G H (upd G p (.tup us)) (upd H p (.tup us)) := .laid s hp
    exact q _ _ _ g (.tup (.inl upd_same) (ha.mono g.sub))
  · obtain ⟨v, rfl, hd⟩ := dtAll1 hv
    obtain ⟨a, us, rfl, hr, ha⟩ := dt_tup hd
    cases e
    exact ⟨a, us, rfl, .inr ⟨.inl (rd_mono s hr), q _ G H (.refl s) (.tup hr ha)⟩⟩
  · cases e
/-- a call that makes a new list -/
def CallO (r : List V → Hp → VK → Prop) (f : List D → Option (List D)) : Prop := ∀ (G H : Hp) (vs : List V) (ds : List D) (d : List D) (Q : VK), Sub G H → DtAll G vs ds → f ds = some d →
  (∀ p us G' H', Grow G H G' H' → H p = none → G' p = none → H' p = some (.lst us) → DtAll G' us d → Q (.ref p) H') → r vs H Q
def mCallO (f : List D → Option (List D)) (ml : M (List D)) : M (List D) := mBind ml fun ds => mOpt (f ds)
def dListC : List D → Option (List D)
  | [.list ds] => some ds
  | [.tuple ds] => some ds
  | _ => none
theorem dListC_ok {K : PySem.W.Frag} : CallO (fun xs H Q => ∃ p ys, xs = [.ref p] ∧ (SqL K H p ys ∨ SqT K H p ys) ∧ ∀ l, H l = none → Q (.ref l) (upd H l (.lst ys))) dListC := by
  intro G H vs ds d Q s hv e q
  unfold dListC at e
  split at e
  · obtain ⟨v, rfl, hd⟩ := dtAll1 hv
    obtain ⟨a, us, rfl, hr, ha⟩ := dt_lst hd
    cases e
    exact ⟨a, us, rfl, .inl (.inl (rd_mono s hr)), fun p hp => q p us G _ (.laid' s hp) hp (s.free hp) upd_same ha⟩
  · obtain ⟨v, rfl, hd⟩ := dtAll1 hv
    obtain ⟨a, us, rfl, hr, ha⟩ := dt_tup hd
    cases e
    exact ⟨a, us, rfl, .inr (.inl (rd_mono s hr)), fun p hp => q p us G _ (.laid' s hp) hp (s.free hp) upd_same ha⟩
  · cases e
section
variable {X : Cx} {W : WX} {a b c e : Expr} {es : List Expr} {ma mb mc : M D} {ml : M (List D)} {pos p p2 : Pos}
/-- a new list, fresh -/
theorem fresh_of {K : PySem.W.Frag} {b : Bs} {G H G1 H1 G2 H2 : Hp} {σ : St} {env e1 : Ev} {l : Addr} {us : List V} {ds : List D} (fr1 : Fr K b G1 H1 σ e1) (st1 : Step σ env e1 G H G1 H1) (g : Grow G1 H1 G2 H2)
    (hp : H1 l = none) (hg : G2 l = none) (e : H2 l = some (.lst us)) (hd : DtAll G2 us ds) : Fresh b σ env e1 G2 H H2 l ds :=
  ⟨⟨us, e, hd⟩, hg, fr1.fresh hp, fr1.h0none hp, .inl (by
    cases q : H l with
    | none => rfl
    | some o => exact absurd hp (st1.dom l (by rw [q]; intro z; cases z))), fr1.noNstG (fun c o q => g.keep c o q) hp⟩
theorem tCBO_of {K : PySem.W.Frag} {r : List V → Hp → VK → Prop} {f : List D → Option (List D)} (od : CallO r f) {σ : St} {H : Hp} {Q : VK} (h : tO K W (mCallO f ml) σ H Q) : tCB r (tL K W ml) σ H Q := by
  obtain ⟨b, G, env, fr, h⟩ := h
  refine tL_one fr h (fun ds e1 vs G1 H1 fr1 st1 dp1 h1 => ?_) (fun c e he => he)
  obtain ⟨z, hz, h3⟩ := wpR.opt h1
  exact od G1 H1 vs ds z Q fr1.sub dp1 hz fun l us G' H' g hp hg he dz => h3 l G' H' (fr1.grow g) (st1.trans (.grow g)) (fresh_of fr1 st1 g hp hg he dz)
theorem jo_callB {id : String} {x : Str} {r : List V → Hp → VK → Prop} {f : List D → Option (List D)} (hc : CallR X (.builtin id) r) (od : CallO r f) (hg : Gl X x) (hm : X.mg x = none) (hv : bootBuiltins x = some (.builtin id)) (ha : JL X W (e :: es) ml) (hn : x ≠ "__name__" := by decide) (hdb : (x == ("__debug__" : Str)) = false := by decide)
    (he : starEach (e :: es) X.env = (false, eval e X.env) :: starEach es X.env := by rfl) (hpl : (backTo pos (starEach es X.env)).any (·.1) = false := by rfl) : JO X W (.Call (.Name x p) (e :: es) [] pos) (mCallO f ml) :=
  PE.imp (pe_callB hc hg hm hv ha hn hdb he hpl) fun _ _ _ h => tCBO_of od h
theorem jo_callTy {T : String} {x : Str} {r : List V → Hp → VK → Prop} {f : List D → Option (List D)} (hc : CallR X (.type T) r) (od : CallO r f) (hg : Gl X x) (hm : X.mg x = none) (hv : bootBuiltins x = some (.type T)) (ha : JL X W (e :: es) ml) (hn : x ≠ "__name__" := by decide) (hdb : (x == ("__debug__" : Str)) = false := by decide)
    (he : starEach (e :: es) X.env = (false, eval e X.env) :: starEach es X.env := by rfl) (hpl : (backTo pos (starEach es X.env)).any (·.1) = false := by rfl) : JO X W (.Call (.Name x p) (e :: es) [] pos) (mCallO f ml) :=
  PE.imp (pe_callTy hc hg hm hv ha hn hdb he hpl) fun _ _ _ h => tCBO_of od h
/-- a new list of an operator -/
def OpO (r : R2) (f : D → D → Option (List D)) : Prop := ∀ (G H : Hp) (x y : V) (dx dy : D) (d : List D) (Q : VK), Sub G H → Dt G x dx → Dt G y dy → f dx dy = some d →
  (∀ p us G' H', Grow G H G' H' → H p = none → G' p = none → H' p = some (.lst us) → DtAll G' us d → Q (.ref p) H') → r x y H Q
def mOpO (f : D → D → Option (List D)) (ma mb : M D) : M (List D) := mBind ma fun x => mBind mb fun y => mOpt (f x y)
theorem jo_op {op : Operator} {r : R2} {f : D → D → Option (List D)} (ho : OpR X (binaryOp op) r) (od : OpO r f) (ha : JE X W a ma) (hb : JE X W b mb) : JO X W (.BinOp a op b pos) (mOpO f ma mb) := by
  refine PE.imp (pe_op ho ha hb) fun σ H Q h => ?_
  obtain ⟨b, G, env, fr, h⟩ := h
  refine tE_one fr h (fun d e1 v G1 H1 fr1 st1 dp1 h1 => tE_one fr1 h1 (fun d2 e2 v2 G2 H2 fr2 st2 dp2 h2 => ?_) (fun c e he => he)) (fun c e he => he)
  obtain ⟨z, hz, h3⟩ := wpR.opt h2
  exact od G2 H2 v v2 d d2 z Q fr2.sub (dp1.mono st2.sub) dp2 hz fun l us G' H' g hp hg he dz => h3 l G' H' (fr2.grow g) ((st1.trans st2).trans (.grow g)) (fresh_of fr2 (st1.trans st2) g hp hg he dz)
def dCatO : D → D → Option (List D)
  | .list xs, .list ys => if xs.length + ys.length ≤ sizeLine then some (xs ++ ys) else none
  | _, _ => none
theorem dCatO_ok : OpO rCatR dCatO := by
  intro G H x y dx dy d Q s hx hy e q
  unfold dCatO at e
  split at e
  · obtain ⟨a, vs, rfl, hr, ha⟩ := dt_lst hx
    obtain ⟨b, us, rfl, hr2, hb⟩ := dt_lst hy
    obtain ⟨hl, ez⟩ := ifS e; subst ez
    exact ⟨a, b, vs, us, rfl, rfl, rd_mono s hr, rd_mono s hr2, by rw [dpAll_len ha, dpAll_len hb]; exact hl, fun p hp => q p _ G _ (.laid' s hp) hp (s.free hp) upd_same (dpAll_app ha hb)⟩
  · cases e
/-! ### isinstance -/
def tyN : D → String
  | .none => "NoneType"
  | .bool _ => "bool"
  | .int _ => "int"
  | .str _ => "str"
  | .list _ => "list"
  | .tuple _ => "tuple"
  | .dict _ => "dict"
def isiB (T : String) (d : D) : Bool := tyN d == T || (tyN d == "bool" && T == "int")
def isiS (T s : String) : Bool := s == T || (s == "bool" && T == "int")
structure IsiOk (T : String) : Prop where
  k : ∀ d : D, kitB (tyN d) T = some (isiB T d)
theorem isi_mk (T : String) (h : (["NoneType", "bool", "int", "str", "list", "tuple", "dict"].all fun s => decide (kitB s T = some (isiS T s))) = true) : IsiOk T := ⟨fun d => by
  have h2 := List.all_eq_true.mp h
  cases d <;> exact of_decide_eq_true (h2 _ (by simp [tyN]))⟩
theorem isiOk_int : IsiOk "int" := isi_mk _ (by decide +kernel)
theorem isiOk_bool : IsiOk "bool" := isi_mk _ (by decide +kernel)
theorem isiOk_str : IsiOk "str" := isi_mk _ (by decide +kernel)
theorem isiOk_tuple : IsiOk "tuple" := isi_mk _ (by decide +kernel)
theorem isiOk_list : IsiOk "list" := isi_mk _ (by decide +kernel)
/-- a thing's type: {None: x}, too -/
def TyY (K : PySem.W.Frag) (H : Hp) (v : V) (t : Value) : Prop := TyX K H v t ∨ ∃ a o x, v = .ref a ∧ H a = some (.frz o (.ext (noneD a x))) ∧ t = .type "dict"
def rIsiY (K : PySem.W.Frag) : List V → Hp → VK → Prop := fun xs H Q => ∃ (x c : V) (t u : Value) (b : Bool), xs = [x, c] ∧ ClsV c u ∧ TyY K H x t ∧ PySem.W.kitOne K t u = some b ∧ Q (.bl b) H
theorem call_isiY {X : Cx} : CallR X (.builtin "isinstance") (rIsiY X.K) := by
  intro pins s σ H xs us Q I r h
  obtain ⟨x, c, t, u, b, rfl, k, ty, e, q⟩ := h
  rcases ty with ty | ⟨a, o, y, rfl, ha, rfl⟩
  · exact call_isi pins s σ H _ us Q I r ⟨x, c, t, u, b, rfl, k, ty, e, q⟩
  · obtain ⟨u1, u2, rfl, r1, r2⟩ := vals2 r
    have e2 := k.eq r2
    subst e2
    cases (show u1 = Value.ref a from r1)
    obtain ⟨h1, ⟨_, o2, en, ep, h2, h3, _⟩, _⟩ := (show ObjOk X.prog X.w H s.heap a (.frz o (.ext (noneD a y))) from I.hok a _ ha)
    exact PySem.W.kia_one PySem.W.kitx_dict I.kIn ⟨o2, h2, h3.1⟩ e (fun z => nomatch z) fun tk => ⟨.bl b, H, I.tok tk, rfl, q⟩
theorem tyX_of {K : PySem.W.Frag} {G H : Hp} {v : V} {d : D} (s : Sub G H) (h : Dt G v d) : TyY K H v (.type (tyN d)) := by
  cases h with
  | non => exact .inl <| .base .non
  | bl b => exact .inl <| .base (.bl b)
  | int i => exact .inl <| .base (.int i)
  | str x => exact .inl <| .base (.str x)
  | lst hr ha =>
    rcases rd_mono s hr with h | ⟨o, h⟩
    · exact .inl <| .base (.lst h)
    · exact .inl <| .base (.frz h)
  | tup hr ha =>
    rcases rd_mono s hr with h | ⟨o, h⟩
    · exact .inl <| .base (.tup h)
    · exact .inl <| .fTuple h
  | dic hr ha => exact .inl <| .fDict (s _ _ hr)
  | dicN hr ha => exact .inr ⟨_, _, _, rfl, s _ _ hr, rfl⟩
def mIsi (T : String) (ma : M D) : M Bool := mBind ma fun d => mPure (isiB T d)
theorem isi_read (T : String) (hT : IsiOk T) (hg : Gl X "isinstance") (hm : X.mg "isinstance" = none) {x : Str} (hg2 : Gl X x) (hm2 : X.mg x = none) (hv2 : bootBuiltins x = some (.type T)) (ha : JE X W a ma) (hn : x ≠ "__name__" := by decide) (hdb : (x == ("__debug__" : Str)) = false := by decide)
    (he : starEach (a :: [.Name x p2]) X.env = (false, eval a X.env) :: starEach [.Name x p2] X.env := by rfl) (he2 : starEach ((Expr.Name x p2) :: []) X.env = (false, eval (Expr.Name x p2) X.env) :: starEach [] X.env := by rfl) (hpl : (backTo pos (starEach [.Name x p2] X.env)).any (·.1) = false := by rfl) :
    PE X (.Call (.Name "isinstance" p) [a, .Name x p2] [] pos) (fun σ H Q => tT X.K W (mIsi T ma) σ H fun k H' => Q (.bl k) H') := by
  refine PE.imp (pe_callB call_isiY hg hm boot_isinstance (pa_cons ha (pa_cons (pe_bltn (v := .ty T) hg2 hm2 hv2 rfl hn hdb) pa_nil he2) he) (by decide) (by decide) he hpl) fun σ H Q h => ?_
  obtain ⟨b, G, env, fr, h⟩ := h
  refine tE_one fr h (fun d e1 v G1 H1 fr1 st1 dp1 h1 => ?_) (fun c e he => he)
  exact ⟨v, .ty T, _, _, _, rfl, .ty T, tyX_of fr1.sub dp1, kit_ty (hT.k d), h1 G1 H1 fr1 st1⟩
theorem je_isi (T : String) (hT : IsiOk T) (hg : Gl X "isinstance") (hm : X.mg "isinstance" = none) {x : Str} (hg2 : Gl X x) (hm2 : X.mg x = none) (hv2 : bootBuiltins x = some (.type T)) (ha : JE X W a ma) (hn : x ≠ "__name__" := by decide) (hdb : (x == ("__debug__" : Str)) = false := by decide)
    (he : starEach (a :: [.Name x p2]) X.env = (false, eval a X.env) :: starEach [.Name x p2] X.env := by rfl) (he2 : starEach ((Expr.Name x p2) :: []) X.env = (false, eval (Expr.Name x p2) X.env) :: starEach [] X.env := by rfl) (hpl : (backTo pos (starEach [.Name x p2] X.env)).any (·.1) = false := by rfl) :
    JE X W (.Call (.Name "isinstance" p) [a, .Name x p2] [] pos) (mB (mIsi T ma)) := PE.imp (isi_read T hT hg hm hg2 hm2 hv2 ha hn hdb he he2 hpl) fun _ _ _ h => tB_of h
theorem jt_isi (T : String) (hT : IsiOk T) (hg : Gl X "isinstance") (hm : X.mg "isinstance" = none) {x : Str} (hg2 : Gl X x) (hm2 : X.mg x = none) (hv2 : bootBuiltins x = some (.type T)) (ha : JE X W a ma) (hn : x ≠ "__name__" := by decide) (hdb : (x == ("__debug__" : Str)) = false := by decide)
    (he : starEach (a :: [.Name x p2]) X.env = (false, eval a X.env) :: starEach [.Name x p2] X.env := by rfl) (he2 : starEach ((Expr.Name x p2) :: []) X.env = (false, eval (Expr.Name x p2) X.env) :: starEach [] X.env := by rfl) (hpl : (backTo pos (starEach [.Name x p2] X.env)).any (·.1) = false := by rfl) :
    JT X W (.Call (.Name "isinstance" p) [a, .Name x p2] [] pos) (mIsi T ma) := by
  refine PT.imp (pt_val (isi_read T hT hg hm hg2 hm2 hv2 ha hn hdb he he2 hpl)) fun σ H Q h => ?_
  exact tT_mono h fun k H' q => ⟨k, rfl, q⟩
/-- a def's call or another expression that gives a truth value, as a test -/
def mTst (ma : M D) : M Bool := mBind ma fun d => mOpt (dBl d)
theorem jt_val (ha : JE X W a ma) (he : ∀ whole, isTrue a X.env whole = (do let v ← whole; standAt a.pos; holding [v] (truthy v)) := by intro _; rfl) : JT X W a (mTst ma) := by
  refine PT.imp (pt_val ha he) fun σ H Q h => ?_
  obtain ⟨b, G, env, fr, h⟩ := h
  refine tE_one fr h (fun d e1 v G1 H1 fr1 st1 dp1 h1 => ?_) (fun c e he => he)
  obtain ⟨k, hz, h3⟩ := wpR.opt h1
  exact ⟨k, dBl_of dp1 hz, h3 G1 H1 fr1 st1⟩
end
end DL

namespace DL
open PySem PySem.Spec PyProof.Rows L2

/-! ### the frame behind a store -/
def isCel : Sl → Bool
  | .cel _ => true
  | _ => false
theorem getset {α : Type} {l : List α} {i j : Nat} {x y : α} (h : (l.set i x)[j]? = some y) : (i = j ∧ y = x) ∨ (i ≠ j ∧ l[j]? = some y) := by
  by_cases e : i = j
  · subst e
    by_cases hl : i < l.length
    · rw [List.getElem?_set_self hl] at h; exact .inl ⟨rfl, (Option.some.inj h).symm⟩
    · rw [List.getElem?_eq_none (by simpa using hl)] at h; cases h
  · rw [List.getElem?_set_ne e] at h; exact .inr ⟨e, h⟩
theorem OwnI.set {σ : St} {env : Ev} {i j : Nat} {v : Option V} {s : Sl} {a : Addr} (h : OwnI (σ.set i v) (env.set i s) j a) : (i = j ∧ isOwn s = true ∧ v = some (.ref a)) ∨ (i ≠ j ∧ OwnI σ env j a) := by
  obtain ⟨⟨s', hs, ho⟩, hv⟩ := h
  rcases getset hs with ⟨e1, e2⟩ | ⟨e1, e2⟩
  · subst e1 e2
    rcases getset hv with ⟨_, e3⟩ | ⟨e3, _⟩
    · exact .inl ⟨rfl, ho, e3.symm⟩
    · exact absurd rfl e3
  · rcases getset hv with ⟨e3, _⟩ | ⟨_, e3⟩
    · exact absurd e3 e1
    · exact .inr ⟨e1, ⟨s', e2, ho⟩, e3⟩
theorem Fr.set {K : PySem.W.Frag} {b : Bs} {G H : Hp} {σ : St} {env : Ev} {i : Nat} {v : V} {d : D} (f : Fr K b G H σ env) (h : Dt G v d) (hi : i < env.length) : Fr K b G H (σ.set i (some v)) (env.set i (.dat d)) where
  sub := f.sub
  base := f.base
  sub0 := f.sub0
  low := f.low
  celH := f.celH
  len := by rw [List.length_set, List.length_set]; exact f.len
  slot := fun j s hs => by
    rcases getset hs with ⟨e1, e2⟩ | ⟨e1, e2⟩
    · subst e1 e2
      exact ⟨some v, by rw [List.getElem?_set_self (by rw [← f.len]; exact hi)], v, rfl, h⟩
    · obtain ⟨u, e3, q⟩ := f.slot j s e2
      exact ⟨u, by rw [List.getElem?_set_ne e1]; exact e3, q⟩
  inj := fun j k a h1 h2 => by
    rcases h1.set with ⟨_, z, _⟩ | ⟨_, h1⟩
    · cases z
    · rcases h2.set with ⟨_, z, _⟩ | ⟨_, h2⟩
      · cases z
      · exact f.inj j k a h1 h2
  nst := fun j rows a rs h1 h2 h3 => by
    rcases getset h1 with ⟨_, z⟩ | ⟨e1, h1⟩
    · cases z
    · rw [List.getElem?_set_ne e1] at h2
      have q := f.nst j rows a rs h1 h2 h3
      have bk : ∀ c, OwnAt (σ.set i (some v)) (env.set i (.dat d)) c → OwnAt σ env c := fun c ⟨k, hk⟩ => by
        rcases hk.set with ⟨_, z, _⟩ | ⟨_, hk⟩
        · cases z
        · exact ⟨k, hk⟩
      exact ⟨fun z => q.1 (bk _ z), fun r hr z => q.2 r hr (bk r z)⟩
theorem Fr.setOwn {K : PySem.W.Frag} {b : Bs} {G H : Hp} {σ : St} {env : Ev} {i : Nat} {a : Addr} {vs : List V} {ds : List D} (f : Fr K b G H σ env) (ha : H a = some (.lst vs)) (hd : DtAll G vs ds) (hg : G a = none) (h0 : b.H0 a = none) (hn : ¬ OwnAt σ env a) (nn : NoNst σ env H a) (hi : i < env.length) :
    Fr K b G H (σ.set i (some (.ref a))) (env.set i (.own ds)) where
  sub := f.sub
  base := f.base
  sub0 := f.sub0
  low := f.low
  celH := f.celH
  len := by rw [List.length_set, List.length_set]; exact f.len
  slot := fun j s hs => by
    rcases getset hs with ⟨e1, e2⟩ | ⟨e1, e2⟩
    · subst e1 e2
      exact ⟨some (.ref a), by rw [List.getElem?_set_self (by rw [← f.len]; exact hi)], a, vs, rfl, ha, hd, hg, h0⟩
    · obtain ⟨u, e3, q⟩ := f.slot j s e2
      exact ⟨u, by rw [List.getElem?_set_ne e1]; exact e3, q⟩
  inj := fun j k c h1 h2 => by
    rcases h1.set with ⟨e1, _, z1⟩ | ⟨e1, h1⟩
    · rcases h2.set with ⟨e2, _, z2⟩ | ⟨e2, h2⟩
      · exact e1.symm.trans e2
      · cases z1; exact absurd ⟨k, h2⟩ hn
    · rcases h2.set with ⟨e2, _, z2⟩ | ⟨e2, h2⟩
      · cases z2; exact absurd ⟨j, h1⟩ hn
      · exact f.inj j k c h1 h2
  nst := fun j rows c rs h1 h2 h3 => by
    rcases getset h1 with ⟨_, z⟩ | ⟨e1, h1⟩
    · cases z
    · rw [List.getElem?_set_ne e1] at h2
      have q := f.nst j rows c rs h1 h2 h3
      have n := nn.at h1 h2 h3
      have bk : ∀ x, OwnAt (σ.set i (some (.ref a))) (env.set i (.own ds)) x → x = a ∨ OwnAt σ env x := fun x ⟨k, hk⟩ => by
        rcases hk.set with ⟨_, _, z⟩ | ⟨_, hk⟩
        · cases z; exact .inl rfl
        · exact .inr ⟨k, hk⟩
      exact ⟨fun z => (bk _ z).elim (fun e => n.1 e.symm) q.1, fun r hr z => (bk r z).elim (fun e => n.2 (e ▸ hr)) (q.2 r hr)⟩
/-- a list that slot i owns is changed -/
def reSl (s : Sl) (ds : List D) : Sl := match s with
  | .own _ => .own ds
  | .cel _ => .cel ds
  | s => s
def cont : Sl → Option (List D)
  | .own ds => some ds
  | .cel ds => some ds
  | _ => none
theorem cont_own {s : Sl} {ds : List D} (h : cont s = some ds) : isOwn s = true := by cases s <;> first | rfl | cases h
theorem isOwn_re (s : Sl) (ds : List D) : isOwn (reSl s ds) = isOwn s := by cases s <;> rfl
/-- what a slot that owns holds -/
theorem Fr.holds {K : PySem.W.Frag} {b : Bs} {G H : Hp} {σ : St} {env : Ev} {i : Nat} {s : Sl} {ds : List D} (f : Fr K b G H σ env) (hi : env[i]? = some s) (hc : cont s = some ds) : ∃ a vs, OwnI σ env i a ∧ H a = some (.lst vs) ∧ DtAll G vs ds ∧ G a = none := by
  obtain ⟨v, e, q⟩ := f.slot i s hi
  cases s with
  | own ds' => cases hc; obtain ⟨a, vs, e2, h1, h2, h3, h4⟩ := q; subst e2; exact ⟨a, vs, ⟨⟨_, hi, rfl⟩, e⟩, h1, h2, h3⟩
  | cel ds' => cases hc; obtain ⟨a, vs, e2, h1, h2, h3, h4⟩ := q; subst e2; exact ⟨a, vs, ⟨⟨_, hi, rfl⟩, e⟩, h1, h2, h3⟩
  | _ => cases hc
theorem OwnI.of_set {σ : St} {env : Ev} {i j : Nat} {s s' : Sl} {a : Addr} (hi : env[i]? = some s) (ho : isOwn s' = true → isOwn s = true) (h : OwnI σ (env.set i s') j a) : OwnI σ env j a := by
  obtain ⟨⟨t, ht, hto⟩, hv⟩ := h
  rcases getset ht with ⟨e1, e2⟩ | ⟨e1, e2⟩
  · subst e1 e2; exact ⟨⟨s, hi, ho hto⟩, hv⟩
  · exact ⟨⟨t, e2, hto⟩, hv⟩
/-- a growth that may change the list at a -/
structure GrowC (a : Addr) (G H G' H' : Hp) : Prop where
  sub : Sub G G'
  in' : Sub G' H'
  keep : ∀ c o, c ≠ a → H c = some o → H' c = some o
  new : ∀ c o, G' c = some o → G c = some o ∨ H c = none
theorem Grow.c {G H G' H' : Hp} {a : Addr} (g : Grow G H G' H') : GrowC a G H G' H' := ⟨g.sub, g.in', fun c o _ h => g.keep c o h, g.new⟩
theorem Fr.change {K : PySem.W.Frag} {b : Bs} {G H G' H' : Hp} {σ : St} {env : Ev} {i : Nat} {s : Sl} {ds ds' : List D} {a : Addr} {vs' : List V} (f : Fr K b G H σ env) (hi : env[i]? = some s) (hc : cont s = some ds) (ho : OwnI σ env i a)
    (g : GrowC a G H G' H') (ha : H' a = some (.lst vs')) (hd : DtAll G' vs' ds') : Fr K b G' H' σ (env.set i (reSl s ds')) ∧ Step σ env (env.set i (reSl s ds')) G H G' H' := by
  obtain ⟨a0, vs, ho0, h1, h2, h3⟩ := f.holds hi hc
  have ea : a0 = a := by
    have := ho0.2.symm.trans ho.2
    simpa using this
  subst ea
  have hil : i < env.length := (List.getElem?_eq_some_iff.mp hi).1
  have hG' : G' a0 = none := by
    cases q : G' a0 with
    | none => rfl
    | some o =>
      rcases g.new a0 o q with z | z
      · rw [h3] at z; cases z
      · rw [h1] at z; cases z
  have dom : ∀ c, H c ≠ none → H' c ≠ none := fun c hc q => by
    by_cases e : c = a0
    · subst e; rw [ha] at q; cases q
    · cases z : H c with
      | none => exact hc z
      | some o => rw [g.keep c o e z] at q; cases q
  have hnn : b.H0 a0 = none ∨ ∃ j, b.ca j = some a0 := by
    obtain ⟨v, e, q⟩ := f.slot i s hi
    cases s with
    | own ds0 => obtain ⟨c, us, e2, _, _, _, h4⟩ := q; rw [ho.2] at e; cases e; cases e2; exact .inl h4
    | cel ds0 => obtain ⟨c, us, e2, _, _, _, h4⟩ := q; rw [ho.2] at e; cases e; cases e2; exact .inr ⟨i, h4⟩
    | _ => cases hc
  refine ⟨⟨g.in', fun c o hb hn => ?_, f.sub0.trans g.sub, fun c o hc => ?_, fun j c hj q => ?_, by rw [List.length_set]; exact f.len, fun j t ht => ?_, fun j k c hj hk => ?_, fun j rows c rs h1 h2 h3 => ?_⟩,
    ⟨g.sub, fun c o hc hn => g.keep c o (fun e => hn ⟨i, by rw [e]; exact ho⟩) hc, dom, fun c o hc => (g.new c o hc).elim .inl fun z => .inr (.inl z), fun c ⟨j, hj⟩ => ⟨j, hj.of_set hi fun _ => cont_own hc⟩, fun x n j rows hj => ?_⟩⟩
  · refine g.keep c o (fun e => ?_) (f.base c o hb hn)
    subst e
    rcases hnn with z | ⟨j, z⟩
    · rw [z] at hb; cases hb
    · exact hn j z
  · exact (g.new c o hc).elim (f.low c o) fun z => .inr (f.h0none z)
  · exact dom c (f.celH j c hj) q
  · rcases getset ht with ⟨e1, e2⟩ | ⟨e1, e2⟩
    · subst e1 e2
      obtain ⟨v, e, q⟩ := f.slot i s hi
      refine ⟨v, e, ?_⟩
      rw [ho.2] at e
      cases s with
      | own ds0 => obtain ⟨c, us, e2, _, _, _, h4⟩ := q; subst e2; cases e; exact ⟨a0, vs', rfl, ha, hd, hG', h4⟩
      | cel ds0 => obtain ⟨c, us, e2, _, _, _, h4⟩ := q; subst e2; cases e; exact ⟨a0, vs', rfl, ha, hd, hG', h4⟩
      | _ => cases hc
    · obtain ⟨v, e, q⟩ := f.slot j t e2
      refine ⟨v, e, ?_⟩
      have ne : ∀ c, OwnI σ env j c → c ≠ a0 := fun c hc z => e1 (f.inj i j a0 ho (z ▸ hc))
      have nf : ∀ c, H c ≠ none → G c = none → G' c = none := fun c h0 hg => by
        cases q : G' c with
        | none => rfl
        | some o =>
          rcases g.new c o q with z | z
          · rw [hg] at z; cases z
          · exact absurd z h0
      cases t with
      | un => trivial
      | dat d => obtain ⟨x, e, hd⟩ := q; exact ⟨x, e, hd.mono g.sub⟩
      | own ds0 =>
        obtain ⟨c, us, e3, q1, q2, q3, q4⟩ := q
        subst e3
        exact ⟨c, us, rfl, g.keep c _ (ne c ⟨⟨_, e2, rfl⟩, e⟩) q1, q2.mono g.sub, nf c (by rw [q1]; intro z; cases z) q3, q4⟩
      | cel ds0 =>
        obtain ⟨c, us, e3, q1, q2, q3, q4⟩ := q
        subst e3
        exact ⟨c, us, rfl, g.keep c _ (ne c ⟨⟨_, e2, rfl⟩, e⟩) q1, q2.mono g.sub, nf c (by rw [q1]; intro z; cases z) q3, q4⟩
      | scr ns => obtain ⟨c, e3, q1⟩ := q; exact ⟨c, e3, g.sub.seq q1⟩
      | dic kvs =>
        obtain ⟨c, us, e3, q1, q2, q3, q4⟩ := q
        subst e3
        exact ⟨c, us, rfl, g.keep c _ (ne c ⟨⟨_, e2, rfl⟩, e⟩) q1, dtKv_mono g.sub _ _ q2, nf c (by rw [q1]; intro z; cases z) q3, q4⟩
      | nst rows =>
        obtain ⟨c, rs, e3, q1, q2, q3, q4⟩ := q
        subst e3
        have q := f.nst j rows c rs e2 e q1
        exact ⟨c, rs, rfl, g.keep c _ (fun z => q.1 (z ▸ ⟨i, ho⟩)) q1, q2.keepM g.sub (fun r o z1 z2 => nf r (by rw [z1]; intro z; cases z) z2) (fun r hr o z => g.keep r o (fun y => q.2 r hr (y ▸ ⟨i, ho⟩)) z), nf c (by rw [q1]; intro z; cases z) q3, q4⟩
  · exact f.inj j k c (hj.of_set hi fun _ => cont_own hc) (hk.of_set hi fun _ => cont_own hc)
  · rcases getset h1 with ⟨_, e2⟩ | ⟨_, e2⟩
    · cases s <;> first | (cases e2; done) | (cases hc; done)
    · obtain ⟨v, e, c', rs', e3, q1, _⟩ := f.slot j _ e2
      rw [h2] at e; cases e; cases e3
      have q := f.nst j rows c rs' e2 h2 q1
      rw [g.keep c _ (fun z => q.1 (z ▸ ⟨i, ho⟩)) q1] at h3
      have e4 := map_ref_inj (HO.lst.inj (Option.some.inj h3))
      subst e4
      exact ⟨fun ⟨k, hk⟩ => q.1 ⟨k, hk.of_set hi fun _ => cont_own hc⟩, fun r hr ⟨k, hk⟩ => q.2 r hr ⟨k, hk.of_set hi fun _ => cont_own hc⟩⟩
  · rcases getset hj with ⟨_, e2⟩ | ⟨_, e2⟩
    · cases s <;> first | (cases e2; done) | (cases hc; done)
    · obtain ⟨c, rs, n1, n2, n3⟩ := n j rows e2
      have q := f.nst j rows c rs e2 n1 n2
      exact ⟨c, rs, n1, g.keep c _ (fun z => q.1 (z ▸ ⟨i, ho⟩)) n2, n3⟩
/-- slot i's list is let go: it is the reader's -/
theorem Fr.letGo {K : PySem.W.Frag} {b : Bs} {G H : Hp} {σ : St} {env : Ev} {i : Nat} {ds : List D} (f : Fr K b G H σ env) (hi : env[i]? = some (.own ds)) : ∃ a, σ[i]? = some (some (.ref a)) ∧ Fr K b G H σ (env.set i .un) ∧ Step σ env (env.set i .un) G H G H ∧ Fresh b σ env (env.set i .un) G H H a ds := by
  obtain ⟨v, e, a, vs, e2, h1, h2, h3, h4⟩ := f.slot i _ hi
  subst e2
  have ho : OwnI σ env i a := ⟨⟨_, hi, rfl⟩, e⟩
  have back : ∀ j c, OwnI σ (env.set i .un) j c → j ≠ i ∧ OwnI σ env j c := fun j c ⟨⟨t, ht, hto⟩, hv⟩ => by
    rcases getset ht with ⟨e1, e2⟩ | ⟨e1, e2⟩
    · subst e2; cases hto
    · exact ⟨Ne.symm e1, ⟨⟨t, e2, hto⟩, hv⟩⟩
  have nstU : ∀ (j : Nat) (rows : List (List D)) (c : Addr) (rs : List Addr), (env.set i .un)[j]? = some (.nst rows) → σ[j]? = some (some (.ref c)) → H c = some (.lst (rs.map V.ref)) → ¬ OwnAt σ (env.set i .un) c ∧ ∀ r ∈ rs, ¬ OwnAt σ (env.set i .un) r := fun j rows c rs h1 h2 h3 => by
    rcases getset h1 with ⟨_, z⟩ | ⟨_, z⟩
    · cases z
    · have q := f.nst j rows c rs z h2 h3
      exact ⟨fun ⟨k, hk⟩ => q.1 ⟨k, (back k c hk).2⟩, fun r hr ⟨k, hk⟩ => q.2 r hr ⟨k, (back k r hk).2⟩⟩
  have nnS : ∀ x, NoNst σ env H x → NoNst σ (env.set i .un) H x := fun x n j rows h1 => by
    rcases getset h1 with ⟨_, z⟩ | ⟨_, z⟩
    · cases z
    · exact n j rows z
  have nnU : NoNst σ (env.set i .un) H a := nnS a (f.ownNst ⟨i, ho⟩)
  refine ⟨a, e, ⟨f.sub, f.base, f.sub0, f.low, f.celH, by rw [List.length_set]; exact f.len, fun j t ht => ?_, fun j k c hj hk => f.inj j k c (back j c hj).2 (back k c hk).2, nstU⟩,
    ⟨Same.refl _, fun _ _ h _ => h, fun _ h => h, fun _ _ h => .inl h, fun c ⟨j, hj⟩ => ⟨j, (back j c hj).2⟩, nnS⟩, ⟨⟨vs, h1, h2⟩, h3, fun ⟨j, hj⟩ => (back j a hj).1 (f.inj j i a (back j a hj).2 ho), h4, .inr ⟨i, ho⟩, nnU⟩⟩
  rcases getset ht with ⟨e1, e2⟩ | ⟨e1, e2⟩
  · subst e1 e2; exact ⟨_, e, trivial⟩
  · exact f.slot j t e2
/-- .. frozen in its place -/
theorem Fr.freeze {K : PySem.W.Frag} {b : Bs} {G H : Hp} {σ : St} {env : Ev} {i : Nat} {ds : List D} (f : Fr K b G H σ env) (hi : env[i]? = some (.own ds)) : ∃ G', Sub G G' ∧ Fr K b G' H σ (env.set i (.dat (.list ds))) := by
  obtain ⟨a, e, f2, st, fr⟩ := f.letGo hi
  obtain ⟨vs, h1, h2⟩ := fr.at_
  have hs : Sub G (upd G a (.lst vs)) := sub_upd fr.nofrz
  have hne : ∀ c, OwnAt σ (env.set i .un) c → c ≠ a := fun c hc z => fr.noown (z ▸ hc)
  have hil : i < env.length := (List.getElem?_eq_some_iff.mp hi).1
  have back : ∀ j c, OwnI σ (env.set i (.dat (.list ds))) j c → OwnI σ (env.set i .un) j c := fun j c ⟨⟨t, ht, hto⟩, hv⟩ => by
    rcases getset ht with ⟨e1, e2⟩ | ⟨e1, e2⟩
    · subst e2; cases hto
    · exact ⟨⟨t, by rw [List.getElem?_set_ne e1]; exact e2, hto⟩, hv⟩
  refine ⟨_, hs, ⟨fun c o hc => ?_, f2.base, f2.sub0.trans hs, fun c o hc => ?_, f2.celH, by rw [List.length_set]; exact f.len, fun j t ht => ?_, fun j k c hj hk => f2.inj j k c (back j c hj) (back k c hk), fun j rows c rs g1 g2 g3 => ?_⟩⟩
  · by_cases hca : c = a
    · subst hca; rw [upd_same] at hc; rw [← hc]; exact h1
    · rw [upd_ne hca] at hc; exact f2.sub _ _ hc
  · by_cases hca : c = a
    · subst hca; exact .inr fr.h0
    · rw [upd_ne hca] at hc; exact f2.low _ _ hc
  · rcases getset ht with ⟨e1, e2⟩ | ⟨e1, e2⟩
    · subst e1 e2
      exact ⟨_, e, _, rfl, .lst (.inl upd_same) (h2.mono hs)⟩
    · have ht2 : (env.set i .un)[j]? = some t := by rw [List.getElem?_set_ne e1]; exact e2
      obtain ⟨v, e3, q⟩ := f2.slot j t ht2
      refine ⟨v, e3, ?_⟩
      cases t with
      | un => trivial
      | dat d => obtain ⟨x, e, hd⟩ := q; exact ⟨x, e, hd.mono hs⟩
      | own ds => obtain ⟨c, us, e2', q1, q2, q3, q4⟩ := q; exact ⟨c, us, e2', q1, q2.mono hs, by rw [upd_ne (hne c ⟨j, ⟨_, ht2, rfl⟩, by rw [e3, e2']⟩)]; exact q3, q4⟩
      | cel ds => obtain ⟨c, us, e2', q1, q2, q3, q4⟩ := q; exact ⟨c, us, e2', q1, q2.mono hs, by rw [upd_ne (hne c ⟨j, ⟨_, ht2, rfl⟩, by rw [e3, e2']⟩)]; exact q3, q4⟩
      | scr ns => obtain ⟨c, e2', q1⟩ := q; exact ⟨c, e2', hs.seq q1⟩
      | dic kvs => obtain ⟨c, us, e2', q1, q2, q3, q4⟩ := q; exact ⟨c, us, e2', q1, dtKv_mono hs _ _ q2, by rw [upd_ne (hne c ⟨j, ⟨_, ht2, rfl⟩, by rw [e3, e2']⟩)]; exact q3, q4⟩
      | nst rows =>
        obtain ⟨c, rs, e2', q1, q2, q3, q4⟩ := q
        obtain ⟨n1, n2⟩ := fr.nn.at ht2 (by rw [e3, e2']) q1
        exact ⟨c, rs, e2', q1, q2.frz hs fun r hr => upd_ne fun z => n2 (by rw [← z]; exact hr), by rw [upd_ne (Ne.symm n1)]; exact q3, q4⟩
  · rcases getset g1 with ⟨_, z⟩ | ⟨z1, z⟩
    · cases z
    · have q := f2.nst j rows c rs (by rw [List.getElem?_set_ne z1]; exact z) g2 g3
      exact ⟨fun ⟨k, hk⟩ => q.1 ⟨k, back k c hk⟩, fun r hr ⟨k, hk⟩ => q.2 r hr ⟨k, back k r hk⟩⟩
/-- a list of one's own, read as the value: it is let go -/
def mMove (i : Nat) : M (List D) := fun env => match env[i]? with
  | some (.own ds) => .ok (ds, env.set i .un)
  | _ => .bad
section
variable {X : Cx} {W : WX} {a b c e : Expr} {es : List Expr} {ma mb mc : M D} {ml : M (List D)} {pos p p2 : Pos}
theorem jo_var (i : Nat) {x : Str} (hN : X.N[i]? = some x := by rfl) (hv : Vis X.env.scope x := by first | exact Or.inl rfl | exact Or.inr (Or.inl rfl) | exact Or.inr (Or.inr rfl)) (hd : (x == ("__debug__" : Str)) = false := by decide)
    (hcd : (x == ("__classdict__" : Str)) = false := by decide) : JO X W (.Name x pos) (mMove i) := by
  refine PE.imp (pe_var hN hv hd hcd) fun σ H Q h => ?_
  obtain ⟨b, G, env, fr, h⟩ := h
  unfold mMove at h
  cases he : env[i]? with
  | none => rw [he] at h; exact h.elim
  | some s =>
    rw [he] at h
    cases s with
    | own ds =>
      obtain ⟨a, e, f2, st, fs⟩ := fr.letGo he
      exact ⟨_, e, h a G H f2 st fs⟩
    | _ => exact h.elim
end
end DL

namespace DL
open PySem PySem.Spec PyProof.Rows L2

/-! ## statements -/
def tS (K : PySem.W.Frag) (W : WX) (m : MS) : TS := fun D σ H => ∃ b G env, Fr K b G H σ env ∧
  wpR (m env) (fun fl env' => match fl with
    | .nx => ∀ σ' G' H', Fr K b G' H' σ' env' → Sub G G' → D.nx σ' H'
    | .bk => ∀ σ' G' H', Fr K b G' H' σ' env' → Sub G G' → D.bk σ' H'
    | .ct => ∀ σ' G' H', Fr K b G' H' σ' env' → Sub G G' → D.ct σ' H'
    | .rt d => ∀ v σ' G' H', Fr K b G' H' σ' env' → Dt G' v d → D.rt v H'
    | .ro ds => ∀ a vs σ' G' H', Fr K b G' H' σ' env' → H' a = some (.lst vs) → DtAll G' vs ds → G' a = none → b.H0 a = none → D.rt (.ref a) H')
  (fun c env' => ∀ σ' G' H', Fr K b G' H' σ' env' → W (clsV K c) none σ' H')
abbrev JS (X : Cx) (W : WX) (st : Stmt) (m : MS) : Prop := PS X st (tS X.K W m)
abbrev JSs (X : Cx) (W : WX) (st : List Stmt) (m : MS) : Prop := PSs X st (tS X.K W m)

def mNx : MS := mPure .nx
def mSeq (m n : MS) : MS := fun env => match m env with
  | .ok (.nx, e) => n e
  | r => r
def mIf (t : M Bool) (m n : MS) : MS := mBind t fun k => if k = true then m else n
def mRet (m : M D) : MS := mBind m fun d => mPure (.rt d)
def mRetO (m : M (List D)) : MS := mBind m fun d => mPure (.ro d)
def mDrop (m : M D) : MS := mBind m fun _ => mPure .nx
def mRaise (c : Str) : MS := fun env => .exc c env
section
variable {X : Cx} {W : WX} {a b c e : Expr} {es : List Expr} {ma mb mc : M D} {ml : M (List D)} {mt : M Bool} {ms mn : MS} {st : Stmt} {sts ss : List Stmt} {pos p p2 : Pos}
theorem jss_nil : JSs X W [] mNx := PSs.imp pss_nil fun σ H D ⟨b, G, env, fr, h⟩ => h σ G H fr (Same.refl _)
theorem jss_one (h : JS X W st ms) : JSs X W [st] ms := pss_one h
theorem jss_cons (h1 : JS X W st ms) (h2 : JSs X W sts mn) : JSs X W (st :: sts) (mSeq ms mn) := by
  refine PSs.imp (pss_cons h1 h2) fun σ H D h => ?_
  obtain ⟨b, G, env, fr, h⟩ := h
  refine ⟨b, G, env, fr, ?_⟩
  unfold mSeq at h
  cases hm : ms env with
  | bad => rw [hm] at h; exact h
  | exc c e => rw [hm] at h; exact h
  | ok q =>
    obtain ⟨fl, e1⟩ := q
    rw [hm] at h
    cases fl with
    | nx => exact fun σ' G' H' fr' s' => ⟨b, G', e1, fr', wpR.mono h (fun fl e2 q => by
        cases fl with
        | nx => exact fun σ2 G2 H2 fr2 s2 => q σ2 G2 H2 fr2 (s'.trans s2)
        | bk => exact fun σ2 G2 H2 fr2 s2 => q σ2 G2 H2 fr2 (s'.trans s2)
        | ct => exact fun σ2 G2 H2 fr2 s2 => q σ2 G2 H2 fr2 (s'.trans s2)
        | rt d => exact q
        | ro d => exact q) fun _ _ q => q⟩
    | bk => exact h
    | ct => exact h
    | rt d => exact h
    | ro d => exact h
theorem js_pass : JS X W (.Pass pos) mNx := PS.imp ps_pass fun σ H D ⟨b, G, env, fr, h⟩ => h σ G H fr (Same.refl _)
theorem js_cont : JS X W (.Continue pos) (mPure .ct) := PS.imp ps_continue fun σ H D ⟨b, G, env, fr, h⟩ => h σ G H fr (Same.refl _)
theorem js_doc {x j pos'} : JS X W (.Expr (.Constant (.str x) j pos) pos') mNx := PS.imp ps_doc fun σ H D ⟨b, G, env, fr, h⟩ => h σ G H fr (Same.refl _)
theorem js_never : JS X W st (fun _ => .bad) := PS.imp ps_never fun σ H D ⟨b, G, env, fr, h⟩ => h
theorem js_expr (he : JE X W e ma) (hs : swapsWith e none pos.line X.env = pure false := by rfl) : JS X W (.Expr e pos) (mDrop ma) := by
  refine PS.imp (ps_expr he hs) fun σ H D h => ?_
  obtain ⟨b, G, env, fr, h⟩ := h
  exact tE_one fr h (fun d e1 v G1 H1 fr1 st1 dp1 h1 => h1 σ G1 H1 fr1 st1.sub) (fun c e he G' H' fr' => he σ G' H' fr')
theorem js_ret (he : JE X W e ma) : JS X W (.Return (some e) pos) (mRet ma) := by
  refine PS.imp (ps_ret he) fun σ H D h => ?_
  obtain ⟨b, G, env, fr, h⟩ := h
  exact tE_one fr h (fun d e1 v G1 H1 fr1 st1 dp1 h1 => h1 v σ G1 H1 fr1 dp1) (fun c e he G' H' fr' => he σ G' H' fr')
theorem js_retN : JS X W (.Return none pos) (mPure (.rt .none)) := PS.imp ps_retN fun σ H D ⟨b, G, env, fr, h⟩ => h _ σ G H fr .non
theorem tO_one {α : Type} {K : PySem.W.Frag} {σ : St} {H : Hp} {ma : M (List D)} {k : List D → M α} {Q : VK} {b : Bs} {G : Hp} {env : Ev} {F : α → Ev → Prop} {Ee : Str → Ev → Prop} (fr : Fr K b G H σ env) (h : wpR (mBind ma k env) F Ee)
    (hq : ∀ ds e1 a G1 H1, Fr K b G1 H1 σ e1 → Step σ env e1 G H G1 H1 → Fresh b σ env e1 G1 H H1 a ds → wpR (k ds e1) F Ee → Q (.ref a) H1) (he : ∀ c e1, Ee c e1 → ∀ G' H', Fr K b G' H' σ e1 → W (clsV K c) none σ H') : tO K W ma σ H Q :=
  ⟨b, G, env, fr, (wpR.bind h).mono (fun d e1 h2 a G1 H1 fr1 st1 dp1 => hq d e1 a G1 H1 fr1 st1 dp1 h2) he⟩
theorem js_retO (he : JO X W e ml) : JS X W (.Return (some e) pos) (mRetO ml) := by
  refine PS.imp (ps_ret he) fun σ H D h => ?_
  obtain ⟨b, G, env, fr, h⟩ := h
  refine tO_one fr h (fun ds e1 a G1 H1 fr1 st1 f1 h1 => ?_) (fun c e he G' H' fr' => he σ G' H' fr')
  obtain ⟨vs, q1, q2⟩ := f1.at_
  exact h1 a vs σ G1 H1 fr1 q1 q2 f1.nofrz f1.h0
theorem wpS_sub {K : PySem.W.Frag} {b : Bs} {G G1 : Hp} {r : Res Ev (Fl × Ev)} {D : Ends} {E : Str → Ev → Prop} (s : Sub G G1) (h : wpR r (fun fl env' => match fl with
    | .nx => ∀ σ' G' H', Fr K b G' H' σ' env' → Sub G G' → D.nx σ' H'
    | .bk => ∀ σ' G' H', Fr K b G' H' σ' env' → Sub G G' → D.bk σ' H'
    | .ct => ∀ σ' G' H', Fr K b G' H' σ' env' → Sub G G' → D.ct σ' H'
    | .rt d => ∀ v σ' G' H', Fr K b G' H' σ' env' → Dt G' v d → D.rt v H'
    | .ro ds => ∀ a vs σ' G' H', Fr K b G' H' σ' env' → H' a = some (.lst vs) → DtAll G' vs ds → G' a = none → b.H0 a = none → D.rt (.ref a) H') E) : wpR r (fun fl env' => match fl with
    | .nx => ∀ σ' G' H', Fr K b G' H' σ' env' → Sub G1 G' → D.nx σ' H'
    | .bk => ∀ σ' G' H', Fr K b G' H' σ' env' → Sub G1 G' → D.bk σ' H'
    | .ct => ∀ σ' G' H', Fr K b G' H' σ' env' → Sub G1 G' → D.ct σ' H'
    | .rt d => ∀ v σ' G' H', Fr K b G' H' σ' env' → Dt G' v d → D.rt v H'
    | .ro ds => ∀ a vs σ' G' H', Fr K b G' H' σ' env' → H' a = some (.lst vs) → DtAll G' vs ds → G' a = none → b.H0 a = none → D.rt (.ref a) H') E :=
  h.mono (fun fl e2 q => by
    cases fl with
    | nx => exact fun σ2 G2 H2 fr2 s2 => q σ2 G2 H2 fr2 (s.trans s2)
    | bk => exact fun σ2 G2 H2 fr2 s2 => q σ2 G2 H2 fr2 (s.trans s2)
    | ct => exact fun σ2 G2 H2 fr2 s2 => q σ2 G2 H2 fr2 (s.trans s2)
    | rt d => exact q
    | ro d => exact q) fun _ _ q => q
theorem js_if (hc : JT X W c mt) (ha : JSs X W sts ms) (hb : JSs X W ss mn) : JS X W (.If c sts ss pos) (mIf mt ms mn) := by
  refine PS.imp (ps_if hc ha hb) fun σ H D h => ?_
  obtain ⟨b, G, env, fr, h⟩ := h
  refine tT_one fr h (fun k e1 G1 H1 fr1 st1 h1 => ?_) (fun c e he G' H' fr' => he σ G' H' fr')
  cases k with
  | true =>
    rw [if_pos rfl] at h1 ⊢
    exact ⟨b, G1, e1, fr1, wpS_sub st1.sub h1⟩
  | false =>
    rw [if_neg Bool.false_ne_true] at h1 ⊢
    exact ⟨b, G1, e1, fr1, wpS_sub st1.sub h1⟩
/-- the frame's list at slot i is frozen ahead -/
def mFrz (i : Nat) (m : MS) : MS := fun env => match env[i]? with
  | some (.own ds) => m (env.set i (.dat (.list ds)))
  | _ => .bad
theorem jss_frz (i : Nat) (h : JSs X W sts ms) : JSs X W sts (mFrz i ms) := by
  refine PSs.imp h fun σ H D h => ?_
  obtain ⟨b, G, env, fr, h⟩ := h
  unfold mFrz at h
  cases he : env[i]? with
  | none => rw [he] at h; exact h.elim
  | some s =>
    rw [he] at h
    cases s with
    | own ds =>
      obtain ⟨G1, s1, f1⟩ := fr.freeze he
      exact ⟨b, G1, _, f1, wpS_sub s1 h⟩
    | _ => exact h.elim
/-! ### stores -/
def putSl (i : Nat) (s : Sl) (env : Ev) : Option Ev := match env[i]? with
  | none => none
  | some (.cel _) => none
  | some _ => some (env.set i s)
theorem putSl_some {i : Nat} {s : Sl} {env env' : Ev} (h : putSl i s env = some env') : i < env.length ∧ env' = env.set i s := by
  unfold putSl at h
  cases he : env[i]? with
  | none => rw [he] at h; cases h
  | some t =>
    rw [he] at h
    refine ⟨(List.getElem?_eq_some_iff.mp he).1, ?_⟩
    cases t <;> first | exact (Option.some.inj h).symm | cases h
def mStore (g : Ev → Option Ev) : MS := fun env => match g env with
  | some e => .ok (.nx, e)
  | none => .bad
theorem wpR.store {g : Ev → Option Ev} {env : Ev} {Q : Fl → Ev → Prop} {E : Str → Ev → Prop} (h : wpR (mStore g env) Q E) : ∃ e, g env = some e ∧ Q .nx e := by
  unfold mStore at h
  cases hg : g env with
  | none => rw [hg] at h; exact h.elim
  | some e => rw [hg] at h; exact ⟨e, rfl, h⟩
def mSet (i : Nat) (ma : M D) : MS := mBind ma fun d => mStore (putSl i (.dat d))
def mSetO (i : Nat) (ma : M (List D)) : MS := mBind ma fun d => mStore (putSl i (.own d))
theorem js_set (i : Nat) {x : Str} {pos' : Pos} (hN : X.N.Nodup) (hx : Loc X.env.scope x) (he : JE X W e ma) (hi : X.N[i]? = some x := by rfl) (hs : swapsWith e (some (.Name x pos')) pos.line X.env = pure false := by rfl) (hf : X.fn x = true ∨ X.env.scope.names.lookup x = some .local := by first | exact .inl rfl | exact .inr rfl | assumption) :
    JS X W (.Assign [.Name x pos'] e pos) (mSet i ma) := by
  refine PS.imp (ps_set hN hi hx he hs hf) fun σ H D h => ?_
  obtain ⟨b, G, env, fr, h⟩ := h
  refine tE_one fr h (fun d e1 v G1 H1 fr1 st1 dp1 h1 => ?_) (fun c e he G' H' fr' => he σ G' H' fr')
  obtain ⟨e2, h2, q⟩ := wpR.store h1
  obtain ⟨hl, rfl⟩ := putSl_some h2
  exact q _ G1 H1 (fr1.set dp1 hl) st1.sub
theorem js_setO (i : Nat) {x : Str} {pos' : Pos} (hN : X.N.Nodup) (hx : Loc X.env.scope x) (he : JO X W e ml) (hi : X.N[i]? = some x := by rfl) (hs : swapsWith e (some (.Name x pos')) pos.line X.env = pure false := by rfl) (hf : X.fn x = true ∨ X.env.scope.names.lookup x = some .local := by first | exact .inl rfl | exact .inr rfl | assumption) :
    JS X W (.Assign [.Name x pos'] e pos) (mSetO i ml) := by
  refine PS.imp (ps_set hN hi hx he hs hf) fun σ H D h => ?_
  obtain ⟨b, G, env, fr, h⟩ := h
  refine tO_one fr h (fun d e1 v G1 H1 fr1 st1 f1 h1 => ?_) (fun c e he G' H' fr' => he σ G' H' fr')
  obtain ⟨e2, h2, q⟩ := wpR.store h1
  obtain ⟨hl, rfl⟩ := putSl_some h2
  obtain ⟨vs, q1, q2⟩ := f1.at_
  exact q _ G1 H1 (fr1.setOwn q1 q2 f1.nofrz f1.h0 f1.noown f1.nn hl) st1.sub
/-! ### targets -/
def SameOff (ks : List Nat) (σ σ' : St) : Prop := σ'.length = σ.length ∧ ∀ j, j ∉ ks → σ'[j]? = σ[j]?
theorem SameOff.refl (ks : List Nat) (σ : St) : SameOff ks σ σ := ⟨rfl, fun _ _ => rfl⟩
theorem SameOff.trans {k1 k2 : List Nat} {σ σ1 σ2 : St} (a : SameOff k1 σ σ1) (b : SameOff k2 σ1 σ2) : SameOff (k1 ++ k2) σ σ2 :=
  ⟨b.1.trans a.1, fun j h => (b.2 j fun z => h (List.mem_append_right _ z)).trans (a.2 j fun z => h (List.mem_append_left _ z))⟩
abbrev GT := D → Ev → Option Ev
def tGt (K : PySem.W.Frag) (ks : List Nat) (g : GT) : TG := fun v σ H Q => ∃ b G env d env', Fr K b G H σ env ∧ Dt G v d ∧ g d env = some env' ∧ ∀ σ', Fr K b G H σ' env' → SameOff ks σ σ' → Q σ' H
def tGts (K : PySem.W.Frag) (ks : List Nat) (g : List D → Ev → Option Ev) : TGs := fun vs σ H Q => ∃ b G env ds env', Fr K b G H σ env ∧ DtAll G vs ds ∧ g ds env = some env' ∧ ∀ σ', Fr K b G H σ' env' → SameOff ks σ σ' → Q σ' H
abbrev JG (X : Cx) (t : Expr) (ks : List Nat) (g : GT) : Prop := PG X t (tGt X.K ks g)
abbrev JGs (X : Cx) (t : List Expr) (ks : List Nat) (g : List D → Ev → Option Ev) : Prop := PGs X t (tGts X.K ks g)
theorem PG.imp {X : Cx} {t : Expr} {g g' : TG} (h : PG X t g) (i : ∀ v σ H Q, g' v σ H Q → g v σ H Q) : PG X t g' := ⟨fun p s σ H v u Q I r q => h.run p s σ H v u Q I r (i v σ H Q q)⟩
theorem PGs.imp {X : Cx} {t : List Expr} {g g' : TGs} (h : PGs X t g) (i : ∀ v σ H Q, g' v σ H Q → g v σ H Q) : PGs X t g' := ⟨fun p s σ H v u Q I r q => h.run p s σ H v u Q I r (i v σ H Q q)⟩
def gN (i : Nat) : GT := fun d env => putSl i (.dat d) env
def gNil' : List D → Ev → Option Ev := fun ds env => match ds with
  | [] => some env
  | _ => none
def gCons' (g : GT) (gs : List D → Ev → Option Ev) : List D → Ev → Option Ev := fun ds env => match ds with
  | d :: r => (g d env).bind fun e => gs r e
  | [] => none
def gTp (gs : List D → Ev → Option Ev) : GT := fun d env => match d with
  | .tuple ds => gs ds env
  | _ => none
theorem jg_name (i : Nat) {x : Str} (hN : X.N.Nodup) (hx : Loc X.env.scope x) (hi : X.N[i]? = some x := by rfl) (hf : X.fn x = true ∨ X.env.scope.names.lookup x = some .local := by first | exact .inl rfl | exact .inr rfl | assumption) : JG X (.Name x pos) [i] (gN i) := by
  refine PG.imp (pg_name hN hi hx hf) fun v σ H Q h => ?_
  obtain ⟨b, G, env, d, env', fr, dv, hg, q⟩ := h
  obtain ⟨hl, rfl⟩ := putSl_some hg
  exact q _ (fr.set dv hl) ⟨by rw [List.length_set], fun j hj => by rw [List.getElem?_set_ne (fun z => hj (by simp [z]))]⟩
theorem jgs_nil : JGs X [] [] gNil' := by
  refine PGs.imp pgs_nil fun vs σ H Q h => ?_
  obtain ⟨b, G, env, ds, env', fr, dv, hg, q⟩ := h
  unfold gNil' at hg
  cases ds with
  | nil => cases dv; cases hg; exact ⟨rfl, q _ fr (SameOff.refl _ _)⟩
  | cons d r => cases hg
theorem jgs_cons {t : Expr} {ts : List Expr} {k1 k2 : List Nat} {g : GT} {gs : List D → Ev → Option Ev} (h1 : JG X t k1 g) (h2 : JGs X ts k2 gs) (hs : (assignEach (t :: ts) X.env).map (·.2) = assign t X.env :: (assignEach ts X.env).map (·.2) := by rfl) : JGs X (t :: ts) (k1 ++ k2) (gCons' g gs) := by
  refine PGs.imp (pgs_cons h1 h2 hs) fun vs σ H Q h => ?_
  obtain ⟨b, G, env, ds, env', fr, dv, hg, q⟩ := h
  cases ds with
  | nil => cases hg
  | cons d r =>
    cases dv with
    | @cons v vs _ _ dv1 dv2 =>
      obtain ⟨e1, hg1, hg2⟩ := optS hg
      exact ⟨v, vs, rfl, b, G, env, d, e1, fr, dv1, hg1, fun σ1 fr1 s1 => ⟨b, G, e1, r, env', fr1, dv2, hg2, fun σ2 fr2 s2 => q σ2 fr2 (s1.trans s2)⟩⟩
theorem gs_len : ∀ {ts : List Expr} {ks : List Nat} {gs : List D → Ev → Option Ev}, True := fun {_ _ _} => trivial
theorem jg_tup {ts : List Expr} {k n : Nat} {ks : List Nat} {gs : List D → Ev → Option Ev} (hc : X.calm = true) (h : JGs X ts ks gs) (hl : ∀ ds env env', gs ds env = some env' → ds.length = n)
    (hn : (assignEach ts X.env).length = n := by rfl) (hst : (assignEach ts X.env).findIdx? (·.1) = none := by rfl) : JG X (.Tuple ts k pos) ks (gTp gs) := by
  refine PG.imp (pg_tup hc h hn hst) fun v σ H Q h => ?_
  obtain ⟨b, G, env, d, env', fr, dv, hg, q⟩ := h
  cases dv with
  | @tup a vs ds hr ha =>
    exact ⟨a, vs, rfl, .inl (rd_mono fr.sub hr), (dpAll_len ha).trans (hl ds env env' hg), b, G, env, ds, env', fr, ha, hg, q⟩
  | _ => cases hg
theorem gl_nil : ∀ ds env env', gNil' ds env = some env' → ds.length = 0 := fun ds env env' h => by
  cases ds with
  | nil => rfl
  | cons d r => cases h
theorem gl_cons {g : GT} {gs : List D → Ev → Option Ev} {n : Nat} (hl : ∀ ds env env', gs ds env = some env' → ds.length = n) : ∀ ds env env', gCons' g gs ds env = some env' → ds.length = n + 1 := fun ds env env' h => by
  cases ds with
  | nil => cases h
  | cons d r =>
    obtain ⟨e1, _, h2⟩ := optS h
    exact congrArg Nat.succ (hl r e1 env' h2)
def mAsg (g : GT) (ma : M D) : MS := mBind ma fun d => mStore (g d)
theorem js_asg {tg : Expr} {ks : List Nat} {g : GT} (he : JE X W e ma) (hg : JG X tg ks g) (hs : swapsWithSole [tg] e pos.line X.env = pure false := by rfl) (hw : swappedStores [tg] e X.env = pure none := by rfl)
    (h1 : (assignEach [tg] X.env).map (·.2) = [assign tg X.env] := by rfl) : JS X W (.Assign [tg] e pos) (mAsg g ma) := by
  refine PS.imp (ps_asg he hg hs hw h1) fun σ H D h => ?_
  obtain ⟨b, G, env, fr, h⟩ := h
  refine tE_one fr h (fun d e1 v G1 H1 fr1 st1 dp1 h1 => ?_) (fun c e he G' H' fr' => he σ G' H' fr')
  obtain ⟨e2, h2, q⟩ := wpR.store h1
  exact ⟨b, G1, e1, d, e2, fr1, dp1, h2, fun σ' fr' s' => q σ' G1 H1 fr' st1.sub⟩
/-- a, b = e1, e2 with plain local names -/
def mPar (i j : Nat) (ma mb : M D) : MS := mBind ma fun x => mBind mb fun y => mStore fun env => (putSl j (.dat y) env).bind fun e => putSl i (.dat x) e
theorem js_par {i j : Nat} {x y : Str} {a b : Expr} {px py pt : Pos} {kt k2 pt2} (hc : X.calm = true) (hN : X.N.Nodup) (hij : i ≠ j)
    (hx : X.env.scope.names.lookup x = some .local) (hy : X.env.scope.names.lookup y = some .local) (ha : JE X W a ma) (hb : JE X W b mb)
    (hw : swappedStores [.Tuple [.Name x px, .Name y py] kt pt] (.Tuple [a, b] k2 pt2) X.env = pure (some [x, y]))
    (hi : X.N[i]? = some x := by rfl) (hj : X.N[j]? = some y := by rfl)
    (hs : swapsWithSole [.Tuple [.Name x px, .Name y py] kt pt] (.Tuple [a, b] k2 pt2) pos.line X.env = pure false := by rfl)
    (hs1 : starEach (a :: [b]) X.env = (false, eval a X.env) :: starEach [b] X.env := by rfl) (hs2 : starEach (b :: []) X.env = (false, eval b X.env) :: starEach [] X.env := by rfl) :
    JS X W (.Assign [.Tuple [.Name x px, .Name y py] kt pt] (.Tuple [a, b] k2 pt2) pos) (mPar i j ma mb) := by
  refine PS.imp (ps_par hc hN hi hj hij hx hy (pa_cons ha (pa_cons hb pa_nil hs2) hs1) hw hs) fun σ H D h => ?_
  obtain ⟨b, G, env, fr, h⟩ := h
  refine tE_one fr h (fun d e1 v G1 H1 fr1 st1 dp1 h1 => tE_one fr1 h1 (fun d2 e2 v2 G2 H2 fr2 st2 dp2 h2 => ?_) (fun c e he G' H' fr' => he σ G' H' fr')) (fun c e he G' H' fr' => he σ G' H' fr')
  obtain ⟨e3, h3, q⟩ := wpR.store h2
  obtain ⟨e4, h4, h5⟩ := optS h3
  obtain ⟨hl, rfl⟩ := putSl_some h4
  obtain ⟨hl2, rfl⟩ := putSl_some h5
  have f4 := (fr2.set dp2 hl).set (dp1.mono st2.sub) hl2
  refine ⟨v, v2, rfl, ?_⟩
  rw [List.set_comm _ _ hij]
  exact q _ G2 H2 f4 (st1.trans st2).sub
/-- the first a list of one's own -/
def mParO (i j : Nat) (ma : M (List D)) (mb : M D) : MS := mBind ma fun x => mBind mb fun y => mStore fun env => (putSl j (.dat y) env).bind fun e => putSl i (.own x) e
end
end DL

namespace DL
open PySem PySem.Spec PyProof.Rows L2

/-! ### values that are stored: frozen ones, lists of one's own -/
def PutOk (b : Bs) (G H : Hp) (σ : St) (env : Ev) (v : V) : Sl → Prop
  | .dat d => Dt G v d
  | .own ds => ∃ a us, v = .ref a ∧ H a = some (.lst us) ∧ DtAll G us ds ∧ G a = none ∧ b.H0 a = none ∧ ¬ OwnAt σ env a ∧ NoNst σ env H a
  | _ => False
/-- the list that such a value is of its own -/
def OwnV (v : V) (s : Sl) (a : Addr) : Prop := isOwn s = true ∧ v = .ref a
theorem PutOk.step {b : Bs} {G H G' H' : Hp} {σ : St} {env env' : Ev} {v : V} {s : Sl} (h : PutOk b G H σ env v s) (st : Step σ env env' G H G' H') : PutOk b G' H' σ env' v s := by
  cases s with
  | dat d => exact Dt.mono st.sub h
  | own ds =>
    obtain ⟨a, us, e, h1, h2, h3, h4, h5, h6⟩ := h
    refine ⟨a, us, e, st.keep a _ h1 h5, h2.mono st.sub, ?_, h4, fun q => h5 (st.own a q), st.nn a h6⟩
    cases q : G' a with
    | none => rfl
    | some o =>
      rcases st.new a o q with z | z | z
      · rw [h3] at z; cases z
      · rw [h1] at z; cases z
      · exact absurd z h5
  | _ => exact h
theorem Fr.put {K : PySem.W.Frag} {b : Bs} {G H : Hp} {σ : St} {env : Ev} {i : Nat} {v : V} {s : Sl} (f : Fr K b G H σ env) (h : PutOk b G H σ env v s) (hi : i < env.length) : Fr K b G H (σ.set i (some v)) (env.set i s) := by
  cases s with
  | dat d => exact f.set h hi
  | own ds =>
    obtain ⟨a, us, e, h1, h2, h3, h4, h5, h6⟩ := h
    subst e
    exact f.setOwn h1 h2 h3 h4 h5 h6 hi
  | _ => exact h.elim
theorem PutOk.notNst {b : Bs} {G H : Hp} {σ : St} {env : Ev} {v : V} {s : Sl} (h : PutOk b G H σ env v s) : ∀ rows, s ≠ .nst rows := fun rows e => by
  subst e
  exact h
theorem NoNst.put {σ : St} {env : Ev} {H : Hp} {a : Addr} {i : Nat} {v : Option V} {s : Sl} (n : NoNst σ env H a) (hs : ∀ rows, s ≠ .nst rows) : NoNst (σ.set i v) (env.set i s) H a := fun j rows h => by
  rcases getset h with ⟨_, z⟩ | ⟨e, z⟩
  · exact absurd z.symm (hs rows)
  · obtain ⟨c, rs, h1, h2⟩ := n j rows z
    exact ⟨c, rs, by rw [List.getElem?_set_ne e]; exact h1, h2⟩
theorem PutOk.put {b : Bs} {G H : Hp} {σ : St} {env : Ev} {i : Nat} {v u : V} {s t : Sl} (h : PutOk b G H σ env u t) (hd : ∀ a, OwnV v s a → OwnV u t a → False) (hs : ∀ rows, s ≠ .nst rows) : PutOk b G H (σ.set i (some v)) (env.set i s) u t := by
  cases t with
  | dat d => exact h
  | own ds =>
    obtain ⟨a, us, e, h1, h2, h3, h4, h5, h6⟩ := h
    refine ⟨a, us, e, h1, h2, h3, h4, fun ⟨j, hj⟩ => ?_, h6.put hs⟩
    rcases hj.set with ⟨_, ho, hv⟩ | ⟨_, hj⟩
    · cases hv; exact hd a ⟨ho, rfl⟩ ⟨rfl, e⟩
    · exact h5 ⟨j, hj⟩
  | _ => exact h
def tV (K : PySem.W.Frag) (W : WX) (m : M Sl) : TE := fun σ H Q => ∃ b G env, Fr K b G H σ env ∧
  wpR (m env) (fun s env' => ∀ v G' H', Fr K b G' H' σ env' → Step σ env env' G H G' H' → PutOk b G' H' σ env' v s → (∀ a, OwnV v s a → H a = none ∨ OwnAt σ env a) → Q v H') (fun c env' => ∀ G' H', Fr K b G' H' σ env' → W (clsV K c) none σ H')
abbrev JV (X : Cx) (W : WX) (e : Expr) (m : M Sl) : Prop := PE X e (tV X.K W m)
def mDat (m : M D) : M Sl := mBind m fun d => mPure (.dat d)
def mOwn (m : M (List D)) : M Sl := mBind m fun d => mPure (.own d)
section
variable {X : Cx} {W : WX} {a b c e : Expr} {es : List Expr} {ma mb mc : M D} {ml : M (List D)} {mt : M Bool} {ms mn : MS} {va vb vc : M Sl} {st : Stmt} {sts ss : List Stmt} {pos p p2 : Pos}
theorem jv_e (h : JE X W e ma) : JV X W e (mDat ma) := by
  refine PE.imp h fun σ H Q h => ?_
  obtain ⟨b, G, env, fr, h⟩ := h
  exact tE_one fr h (fun d e1 v G1 H1 fr1 st1 dp1 h1 => h1 v G1 H1 fr1 st1 dp1 fun a ⟨z, _⟩ => nomatch z) (fun c e he => he)
theorem jv_o (h : JO X W e ml) : JV X W e (mOwn ml) := by
  refine PE.imp h fun σ H Q h => ?_
  obtain ⟨b, G, env, fr, h⟩ := h
  refine tO_one fr h (fun d e1 a G1 H1 fr1 st1 f1 h1 => ?_) (fun c e he => he)
  obtain ⟨vs, q1, q2⟩ := f1.at_
  exact h1 (.ref a) G1 H1 fr1 st1 ⟨a, vs, rfl, q1, q2, f1.nofrz, f1.h0, f1.noown, f1.nn⟩ fun c ⟨_, z⟩ => by cases z; exact f1.was
theorem tV_one {α : Type} {K : PySem.W.Frag} {σ : St} {H : Hp} {k : Sl → M α} {Q : VK} {b : Bs} {G : Hp} {env : Ev} {F : α → Ev → Prop} {Ee : Str → Ev → Prop} (fr : Fr K b G H σ env) (h : wpR (mBind va k env) F Ee)
    (hq : ∀ s e1 v G1 H1, Fr K b G1 H1 σ e1 → Step σ env e1 G H G1 H1 → PutOk b G1 H1 σ e1 v s → (∀ a, OwnV v s a → H a = none ∨ OwnAt σ env a) → wpR (k s e1) F Ee → Q v H1) (he : ∀ c e1, Ee c e1 → ∀ G' H', Fr K b G' H' σ e1 → W (clsV K c) none σ H') : tV K W va σ H Q :=
  ⟨b, G, env, fr, (wpR.bind h).mono (fun d e1 h2 v G1 H1 fr1 st1 dp1 w => hq d e1 v G1 H1 fr1 st1 dp1 w h2) he⟩
/-- a value that came earlier and one that came later are not the same list -/
theorem apart {b : Bs} {G H : Hp} {σ : St} {env : Ev} {u v : V} {s t : Sl} (h : PutOk b G H σ env u t) (w : ∀ a, OwnV v s a → H a = none ∨ OwnAt σ env a) : ∀ a, OwnV v s a → OwnV u t a → False := fun a h1 ⟨ho, hu⟩ => by
  cases t with
  | own ds =>
    obtain ⟨c, us, e, q1, _, _, _, q5, _⟩ := h
    rw [hu] at e; cases e
    rcases w a h1 with z | z
    · rw [q1] at z; cases z
    · exact q5 z
  | cel ds => exact h
  | dic ds => exact h
  | _ => cases ho
def mPar2 (i j : Nat) (va vb : M Sl) : MS := mBind va fun x => mBind vb fun y => mStore fun env => (putSl j y env).bind fun e => putSl i x e
theorem js_par2 {i j : Nat} {x y : Str} {a b : Expr} {px py pt : Pos} {kt k2 pt2} (hc : X.calm = true) (hN : X.N.Nodup) (hij : i ≠ j)
    (hx : X.env.scope.names.lookup x = some .local) (hy : X.env.scope.names.lookup y = some .local) (ha : JV X W a va) (hb : JV X W b vb)
    (hw : swappedStores [.Tuple [.Name x px, .Name y py] kt pt] (.Tuple [a, b] k2 pt2) X.env = pure (some [x, y]))
    (hi : X.N[i]? = some x := by rfl) (hj : X.N[j]? = some y := by rfl)
    (hs : swapsWithSole [.Tuple [.Name x px, .Name y py] kt pt] (.Tuple [a, b] k2 pt2) pos.line X.env = pure false := by rfl)
    (hs1 : starEach (a :: [b]) X.env = (false, eval a X.env) :: starEach [b] X.env := by rfl) (hs2 : starEach (b :: []) X.env = (false, eval b X.env) :: starEach [] X.env := by rfl) :
    JS X W (.Assign [.Tuple [.Name x px, .Name y py] kt pt] (.Tuple [a, b] k2 pt2) pos) (mPar2 i j va vb) := by
  refine PS.imp (ps_par hc hN hi hj hij hx hy (pa_cons ha (pa_cons hb pa_nil hs2) hs1) hw hs) fun σ H D h => ?_
  obtain ⟨b, G, env, fr, h⟩ := h
  refine tV_one fr h (fun d e1 v G1 H1 fr1 st1 dp1 w1 h1 => tV_one fr1 h1 (fun d2 e2 v2 G2 H2 fr2 st2 dp2 w2 h2 => ?_) (fun c e he G' H' fr' => he σ G' H' fr')) (fun c e he G' H' fr' => he σ G' H' fr')
  obtain ⟨e3, h3, q⟩ := wpR.store h2
  obtain ⟨e4, h4, h5⟩ := optS h3
  obtain ⟨hl, rfl⟩ := putSl_some h4
  obtain ⟨hl2, rfl⟩ := putSl_some h5
  have f4 := (fr2.put dp2 hl).put ((dp1.step st2).put (apart dp1 w2) dp2.notNst) hl2
  refine ⟨v, v2, rfl, ?_⟩
  rw [List.set_comm _ _ hij]
  exact q _ G2 H2 f4 (st1.trans st2).sub
def mPar3 (i j l : Nat) (va vb vc : M Sl) : MS := mBind va fun x => mBind vb fun y => mBind vc fun z => mStore fun env => (putSl l z env).bind fun e => (putSl j y e).bind fun e => putSl i x e
theorem js_par3 {i j l : Nat} {x y z : Str} {a b c : Expr} {px py pz pt : Pos} {kt k2 pt2} (hc : X.calm = true) (hN : X.N.Nodup) (hij : i ≠ j) (hil : i ≠ l) (hjl : j ≠ l)
    (hx : X.env.scope.names.lookup x = some .local) (hy : X.env.scope.names.lookup y = some .local) (hz : X.env.scope.names.lookup z = some .local) (ha : JV X W a va) (hb : JV X W b vb) (hcc : JV X W c vc)
    (hw : swappedStores [.Tuple [.Name x px, .Name y py, .Name z pz] kt pt] (.Tuple [a, b, c] k2 pt2) X.env = pure (some [x, y, z]))
    (hi : X.N[i]? = some x := by rfl) (hj : X.N[j]? = some y := by rfl) (hl : X.N[l]? = some z := by rfl)
    (hs : swapsWithSole [.Tuple [.Name x px, .Name y py, .Name z pz] kt pt] (.Tuple [a, b, c] k2 pt2) pos.line X.env = pure false := by rfl)
    (hs1 : starEach (a :: [b, c]) X.env = (false, eval a X.env) :: starEach [b, c] X.env := by rfl) (hs2 : starEach (b :: [c]) X.env = (false, eval b X.env) :: starEach [c] X.env := by rfl) (hs3 : starEach (c :: []) X.env = (false, eval c X.env) :: starEach [] X.env := by rfl) :
    JS X W (.Assign [.Tuple [.Name x px, .Name y py, .Name z pz] kt pt] (.Tuple [a, b, c] k2 pt2) pos) (mPar3 i j l va vb vc) := by
  refine PS.imp (ps_par3 hc hN hi hj hl hij hil hjl hx hy hz (pa_cons ha (pa_cons hb (pa_cons hcc pa_nil hs3) hs2) hs1) hw hs) fun σ H D h => ?_
  obtain ⟨b, G, env, fr, h⟩ := h
  refine tV_one fr h (fun d e1 v G1 H1 fr1 st1 dp1 w1 h1 => tV_one fr1 h1 (fun d2 e2 v2 G2 H2 fr2 st2 dp2 w2 h2 => tV_one fr2 h2 (fun d3 e3 v3 G3 H3 fr3 st3 dp3 w3 h3 => ?_) (fun c e he G' H' fr' => he σ G' H' fr')) (fun c e he G' H' fr' => he σ G' H' fr')) (fun c e he G' H' fr' => he σ G' H' fr')
  obtain ⟨e4, h4, q⟩ := wpR.store h3
  obtain ⟨e5, h5, h6⟩ := optS h4
  obtain ⟨e6, h7, h8⟩ := optS h6
  obtain ⟨hl3, rfl⟩ := putSl_some h5
  obtain ⟨hl2, rfl⟩ := putSl_some h7
  obtain ⟨hl1, rfl⟩ := putSl_some h8
  have w3' : ∀ a, OwnV v3 d3 a → H1 a = none ∨ OwnAt σ e1 a := fun a ha => by
    rcases w3 a ha with z | z
    · refine .inl ?_
      cases q : H1 a with
      | none => rfl
      | some o => exact absurd z (st2.dom a (by rw [q]; intro z; cases z))
    · exact .inr (st2.own a z)
  have f4 := ((fr3.put dp3 hl3).put ((dp2.step st3).put (apart dp2 w3) dp3.notNst) hl2).put (((dp1.step (st2.trans st3)).put (apart dp1 w3') dp3.notNst).put (apart dp1 w2) dp2.notNst) hl1
  refine ⟨v, v2, v3, rfl, ?_⟩
  rw [List.set_comm (l := σ) _ _ hij, List.set_comm _ _ hil, List.set_comm (l := σ) _ _ hjl]
  exact q _ G3 H3 f4 ((st1.trans st2).trans st3).sub

/-! ### methods of a list of one's own -/
/-- what the slot holds after the arguments have been asked -/
def chg (i : Nat) (f : List D → Option (List D)) : Ev → Option Ev := fun env => match env[i]? with
  | some (.own ds) => (f ds).map fun ds' => env.set i (.own ds')
  | some (.cel ds) => (f ds).map fun ds' => env.set i (.cel ds')
  | _ => none
theorem chg_some {i : Nat} {f : List D → Option (List D)} {env env' : Ev} (h : chg i f env = some env') : ∃ s ds ds', env[i]? = some s ∧ cont s = some ds ∧ f ds = some ds' ∧ env' = env.set i (reSl s ds') := by
  unfold chg at h
  cases he : env[i]? with
  | none => rw [he] at h; cases h
  | some s =>
    rw [he] at h
    cases s with
    | own ds =>
      cases hf : f ds with
      | none => simp [hf] at h
      | some ds' => simp [hf] at h; exact ⟨_, ds, ds', rfl, rfl, hf, h.symm⟩
    | cel ds =>
      cases hf : f ds with
      | none => simp [hf] at h
      | some ds' => simp [hf] at h; exact ⟨_, ds, ds', rfl, rfl, hf, h.symm⟩
    | _ => cases h
def isOwnAt (env : Ev) (i : Nat) : Bool := match env[i]? with
  | some s => (cont s).isSome
  | none => false
theorem isOwnAt_holds {K : PySem.W.Frag} {b : Bs} {G H : Hp} {σ : St} {env : Ev} {i : Nat} (f : Fr K b G H σ env) (h : isOwnAt env i = true) : ∃ a vs, OwnI σ env i a ∧ H a = some (.lst vs) := by
  unfold isOwnAt at h
  cases he : env[i]? with
  | none => rw [he] at h; cases h
  | some s =>
    rw [he] at h
    cases s with
    | own ds => obtain ⟨a, vs, h1, h2, _⟩ := f.holds he rfl; exact ⟨a, vs, h1, h2⟩
    | cel ds => obtain ⟨a, vs, h1, h2, _⟩ := f.holds he rfl; exact ⟨a, vs, h1, h2⟩
    | _ => cases h
theorem OwnI.uniq {σ : St} {e1 e2 : Ev} {i : Nat} {a c : Addr} (h1 : OwnI σ e1 i a) (h2 : OwnI σ e2 i c) : a = c := by
  have := h1.2.symm.trans h2.2
  simpa using this
theorem growC_upd {G H : Hp} {a : Addr} {o : HO} (s : Sub G H) (hg : G a = none) : GrowC a G H G (upd H a o) :=
  ⟨Same.refl _, fun c x h => by rw [upd_ne (ne_of_none h hg)]; exact s _ _ h, fun c x hc h => by rw [upd_ne hc]; exact h, fun c x h => .inl h⟩
/-- x.m(args) as a statement: the list becomes f of the arguments -/
def mMeth (i : Nat) (f : List D → List D → Option (List D)) (ml : M (List D)) : MS := fun env => if isOwnAt env i = true then mBind ml (fun as => mStore (chg i (f as))) env else .bad
def MethD (r : V → List V → Hp → VK → Prop) (f : List D → List D → Option (List D)) : Prop := ∀ (G H : Hp) (a : Addr) (vs : List V) (ds : List D) (us : List V) (as ds' : List D) (Q : VK), Sub G H → H a = some (.lst vs) → DtAll G vs ds → DtAll G us as → f as ds = some ds' →
  (∀ v vs', DtAll G vs' ds' → Q v (upd H a (.lst vs'))) → r (.ref a) us H Q
theorem js_meth (i : Nat) {x m : Str} {id : String} {r : V → List V → Hp → VK → Prop} {f : List D → List D → Option (List D)} {px apos cpos : Pos} (slot : Slot "list" m id) (hty : typeOf (.builtin id) = pure (.type "method_descriptor")) (hm : MtR X id r) (od : MethD r f) (ha : JL X W (e :: es) ml)
    (hN : X.N[i]? = some x := by rfl) (hv : Vis X.env.scope x := by first | exact Or.inl rfl | exact Or.inr (Or.inl rfl) | exact Or.inr (Or.inr rfl)) (hd : (x == ("__debug__" : Str)) = false := by decide)
    (hcd : (x == ("__classdict__" : Str)) = false := by decide)
    (hbase : attributeBase (.Name x px) m X.env (eval (.Name x px) X.env) = eval (.Name x px) X.env := by rfl)
    (hfew : ((backTo cpos (starEach (e :: es) X.env)).all (fun x => !x.1) && (backToKw cpos (keywordEach [] X.env)).all (fun x => x.1.isSome)
      && decide ((e :: es).length + ([] : List Keyword).length + (if ([] : List Keyword).isEmpty then 0 else 1) < 30)) = true := by rfl)
    (hline : (apos.endLine == cpos.line) = true := by rfl) (hs : starEach (e :: es) X.env = (false, eval e X.env) :: starEach es X.env := by rfl) (hplain : (backTo cpos (starEach es X.env)).any (·.1) = false := by rfl)
    (hsw : swapsWith (.Call (.Attribute (.Name x px) m apos) (e :: es) [] cpos) none pos.line X.env = pure false := by rfl) :
    JS X W (.Expr (.Call (.Attribute (.Name x px) m apos) (e :: es) [] cpos) pos) (mMeth i f ml) := by
  refine PS.imp (ps_expr (pe_bm PySem.F.plainAttrs_list slot hty hm (pe_var hN hv hd hcd) ha hbase hfew hline hs hplain) hsw) fun σ H D h => ?_
  obtain ⟨b, G, env, fr, h⟩ := h
  unfold mMeth at h
  split at h
  case isFalse => exact h.elim
  rename_i ho
  obtain ⟨a, vs0, h1, h2⟩ := isOwnAt_holds fr ho
  refine ⟨_, h1.2, .inl ⟨rfl, _, .inl (.inl h2)⟩, ?_⟩
  refine tL_one fr h (fun as e1 us G1 H1 fr1 st1 dp1 h3 => ?_) (fun c e he G' H' fr' => he σ G' H' fr')
  obtain ⟨e2, h4, q⟩ := wpR.store h3
  obtain ⟨s, ds, ds', hi, hc, hf, rfl⟩ := chg_some h4
  obtain ⟨a1, vs, o1, q1, q2, q3⟩ := fr1.holds hi hc
  have ea := OwnI.uniq o1 h1
  subst ea
  refine od G1 H1 a1 vs ds us as ds' _ fr1.sub q1 q2 dp1 hf fun v vs' hd' => ?_
  obtain ⟨fr2, st2⟩ := fr1.change hi hc o1 (growC_upd (o := .lst vs') fr1.sub q3) upd_same hd'
  exact q σ G1 _ fr2 st1.sub
def dAppend : List D → List D → Option (List D)
  | [d], ds => if ds.length < sizeLine then some (ds ++ [d]) else none
  | _, _ => none
theorem dAppend_ok : MethD rAppend dAppend := by
  intro G H a vs ds us as ds' Q s ha hd hu e q
  unfold dAppend at e
  split at e
  · obtain ⟨v, rfl, hv⟩ := dtAll1 hu
    obtain ⟨hl, ez⟩ := ifS e
    subst ez
    exact ⟨a, vs, v, rfl, rfl, ha, by rw [dpAll_len hd]; exact hl, q _ _ (dpAll_app hd (.cons hv .nil))⟩
  · cases e
def dInsert : List D → List D → Option (List D)
  | [.int i, d], ds => if ds.length < sizeLine ∧ 0 ≤ i ∧ i < 2 ^ 63 then some (ds.take i.toNat ++ [d] ++ ds.drop i.toNat) else none
  | _, _ => none
theorem dInsert_ok : MethD (fun x vs H Q => ∃ (l : Addr) (xs : List V) (i : Int) (y : V), x = .ref l ∧ vs = [.int i, y] ∧ H l = some (.lst xs) ∧ xs.length < sizeLine ∧ 0 ≤ i ∧ i < 2 ^ 63 ∧
    Q .non (upd H l (.lst (xs.take i.toNat ++ [y] ++ xs.drop i.toNat)))) dInsert := by
  intro G H a vs ds us as ds' Q s ha hd hu e q
  unfold dInsert at e
  split at e
  · obtain ⟨v, u, rfl, hv, hv2⟩ := dtAll2 hu
    cases dt_int hv
    obtain ⟨⟨hl, h0, h1⟩, ez⟩ := ifS e
    subst ez
    exact ⟨a, vs, _, u, rfl, rfl, ha, by rw [dpAll_len hd]; exact hl, h0, h1, q _ _ (dpAll_app (dpAll_app (dpAll_take _ hd) (.cons hv2 .nil)) (dpAll_drop _ hd))⟩
  · cases e
theorem dtAll_erase {G : Hp} : ∀ {vs : List V} {ds : List D} (k : Nat), DtAll G vs ds → DtAll G (vs.eraseIdx k) (ds.eraseIdx k)
  | _, _, k, .nil => by simpa using DtAll.nil
  | _, _, 0, .cons _ h2 => h2
  | _, _, k + 1, .cons h1 h2 => .cons h1 (dtAll_erase k h2)
def dPopAt : List D → List D → Option (List D)
  | [.int i], ds => if -(2 ^ 63) ≤ i ∧ i < 2 ^ 63 then (seqIndex? i ds.length).bind fun k => if k < ds.length then some (ds.eraseIdx k) else none else none
  | _, _ => none
theorem dPopAt_ok : MethD rPopAt dPopAt := by
  intro G H a vs ds us as ds' Q s ha hd hu e q
  unfold dPopAt at e
  split at e
  · rename_i i
    obtain ⟨v, rfl, hv⟩ := dtAll1 hu
    cases dt_int hv
    split at e
    · rename_i hb
      obtain ⟨k, hk, e⟩ := optS e
      obtain ⟨hl, ez⟩ := ifS e
      subst ez
      have hlv : k < vs.length := by rw [dpAll_len hd]; exact hl
      exact ⟨a, vs, _, k, vs[k], rfl, rfl, ha, hb.1, hb.2, by rw [dpAll_len hd]; exact hk, List.getElem?_eq_getElem hlv, q _ _ (dtAll_erase k hd)⟩
    · cases e
  · cases e
/-- x[i] = e -/
def setAt (j : D) (d : D) (ds : List D) : Option (List D) := match j with
  | .int k => (ixN ds.length k).map fun n => ds.set n d
  | _ => none
def mSetIx (i : Nat) (ma mj : M D) : MS := mBind ma fun d => fun env => if isOwnAt env i = true then mBind mj (fun j => mStore (chg i (setAt j d))) env else .bad
theorem js_setIx (i : Nat) {x : Str} {j : Expr} {mj : M D} {px sp : Pos} (he : JE X W e ma) (hj : JE X W j mj)
    (hN : X.N[i]? = some x := by rfl) (hv : Vis X.env.scope x := by first | exact Or.inl rfl | exact Or.inr (Or.inl rfl) | exact Or.inr (Or.inr rfl)) (hd : (x == ("__debug__" : Str)) = false := by decide)
    (hcd : (x == ("__classdict__" : Str)) = false := by decide)
    (has : ∀ v, assign (.Subscript (.Name x px) j sp) X.env v = (do
      let ov ← holding [v] (eval (.Name x px) X.env)
      let iv ← holding [v, ov] (eval j X.env)
      standAt sp
      holding [v, ov, iv] (setItem ov iv v)
      release [v, ov, iv] []) := by intro _; rfl)
    (hs : swapsWithSole [.Subscript (.Name x px) j sp] e pos.line X.env = pure false := by rfl) (hw : swappedStores [.Subscript (.Name x px) j sp] e X.env = pure none := by rfl)
    (h1 : (assignEach [.Subscript (.Name x px) j sp] X.env).map (·.2) = [assign (.Subscript (.Name x px) j sp) X.env] := by rfl) :
    JS X W (.Assign [.Subscript (.Name x px) j sp] e pos) (mSetIx i ma mj) := by
  refine PS.imp (ps_asg he (pg_sub (pe_var hN hv hd hcd) hj set_list has) hs hw h1) fun σ H D h => ?_
  obtain ⟨b, G, env, fr, h⟩ := h
  refine tE_one fr h (fun d e1 v G1 H1 fr1 st1 dp1 h2 => ?_) (fun c e he G' H' fr' => he σ G' H' fr')
  split at h2
  case isFalse => exact h2.elim
  rename_i ho
  obtain ⟨a, vs0, o1, _⟩ := isOwnAt_holds fr1 ho
  refine ⟨_, o1.2, ?_⟩
  refine tE_one fr1 h2 (fun dj e2 vj G2 H2 fr2 st2 dp2 h3 => ?_) (fun c e he G' H' fr' => he σ G' H' fr')
  obtain ⟨e3, h4, q⟩ := wpR.store h3
  obtain ⟨s, ds, ds', hi, hc, hf, rfl⟩ := chg_some h4
  obtain ⟨a1, vs, o2, q1, q2, q3⟩ := fr2.holds hi hc
  have ea := OwnI.uniq o2 o1
  subst ea
  unfold setAt at hf
  split at hf
  · rename_i k
    cases dt_int dp2
    cases hk : ixN ds.length k with
    | none => rw [hk] at hf; cases hf
    | some n =>
      rw [hk] at hf
      cases hf
      obtain ⟨fr3, st3⟩ := fr2.change hi hc o2 (growC_upd (o := .lst (vs.set n v)) fr2.sub q3) upd_same (dpAll_set (dp1.mono st2.sub) n q2)
      exact ⟨a1, vs, k, n, rfl, rfl, q1, by rw [dpAll_len q2]; exact hk, q σ G2 _ fr3 (st1.trans st2).sub⟩
  · cases hf
end
end DL

namespace DL
open PySem PySem.Spec PyProof.Rows L2

/-! ## what is walked -/
/-- the iterator gives the data ds, one by one -/
structure Feeds (G : Hp) (J : It) (ds : List D) : Prop where
  stop : ∀ i H, Sub G H → ds.length ≤ i → J.stop i H
  go : ∀ i H, Sub G H → i < ds.length → J.go i H
  yld : ∀ i H G1 x H', Sub G G1 → Sub G1 H → J.yld i H x H' → ∀ d, ds[i]? = some d → ∃ G2, Grow G1 H G2 H' ∧ Dt G2 x d
def tIt (K : PySem.W.Frag) (W : WX) (m : M (List D)) : TI := fun σ H R => ∃ b G env, Fr K b G H σ env ∧
  wpR (m env) (fun ds env' => ∀ J G' H', Fr K b G' H' σ env' → Step σ env env' G H G' H' → Feeds G' J ds → R J H') (fun c env' => ∀ G' H', Fr K b G' H' σ env' → W (clsV K c) none σ H')
abbrev JI (X : Cx) (W : WX) (tg it : Expr) (m : M (List D)) : Prop := PI X tg it (tIt X.K W m)
theorem PI.imp {X : Cx} {tg e : Expr} {t t' : TI} (h : PI X tg e t) (i : ∀ σ H Q, t' σ H Q → t σ H Q) : PI X tg e t' := ⟨fun p s σ H Q I q => h.run p s σ H Q I (i σ H Q q)⟩
/-- a list or a tuple -/
def iSeq (K : PySem.W.Frag) (tl : TE) : TI := fun σ H R => tl σ H fun x H1 => ∃ a, x = .ref a ∧ (((∃ xs, SqL K H1 a xs) ∧ R (Itl K a) H1) ∨ ((∃ xs, SqT K H1 a xs) ∧ R (Itt K a) H1))
theorem pi_seq {X : Cx} {tg l : Expr} {tl : TE} (hl : PE X l tl) : PI X tg l (iSeq X.K tl) := by
  refine ⟨fun pins s σ H R I h => ?_⟩
  refine thn (hl.run pins s σ H _ I h) fun v s1 ⟨x, H1, I1, r1, q1⟩ => ?_
  obtain ⟨a, e, q1⟩ := q1
  subst e
  cases r1
  rcases q1 with ⟨⟨xs, hq⟩, q⟩ | ⟨⟨xs, hq⟩, q⟩
  · obtain ⟨its, rv, p, hz⟩ := I1.list hq
    refine wpAny_pyIter_list p.isList ?_
    refine ⟨s1.heap.objs.size, [s1.heap.objs.size], _, _, H1, rfl, I1.kept (t' := s1.toks) fun b o e => Heap.get?_push_of_some _ e, turn_list a _, ⟨_, Heap.get?_push_size _ rfl, rfl, rfl⟩, fun b hb => ?_, q⟩
    have e : b = s1.heap.objs.size := by simpa using hb
    subst e
    exact I1.fpOk (Nat.le_refl _) (I1.hok.fresh (Nat.le_refl _))
  · obtain ⟨its, rv, p, hz⟩ := I1.tuple hq
    refine wpAny_pyIter_tuple (show s1.heap.IsTuple a its.toArray from p) ?_
    refine ⟨s1.heap.objs.size, [s1.heap.objs.size], _, _, H1, rfl, I1.kept (t' := s1.toks) fun b o e => Heap.get?_push_of_some _ e, turn_tuple a _, ⟨_, Heap.get?_push_size _ rfl, rfl, rfl⟩, fun b hb => ?_, q⟩
    have e : b = s1.heap.objs.size := by simpa using hb
    subst e
    exact I1.fpOk (Nat.le_refl _) (I1.hok.fresh (Nat.le_refl _))
theorem feeds_tup {K : PySem.W.Frag} {G : Hp} {a : Addr} {xs : List V} {ds : List D} (h : Rd G a (.tup xs)) (hd : DtAll G xs ds) : Feeds G (Itt K a) ds where
  stop := fun i H s hi => ⟨xs, .inl (rd_mono s h), by rw [dpAll_len hd]; exact hi⟩
  go := fun i H s hi => ⟨xs, xs[i]'(by rw [dpAll_len hd]; exact hi), .inl (rd_mono s h), List.getElem?_eq_getElem _⟩
  yld := fun i H G1 x H' s1 s2 ⟨e, y⟩ d hdd => by
    subst e
    obtain ⟨v, hv, dv⟩ := dpAll_get hd hdd
    have hx := y xs (.inl (rd_mono (s1.trans s2) h))
    rw [hv] at hx
    cases hx
    exact ⟨G1, .refl s2, dv.mono s1⟩
theorem feeds_list' {K : PySem.W.Frag} {G : Hp} {a : Addr} {xs : List V} {ds : List D} (h : Rd G a (.lst xs)) (hd : DtAll G xs ds) : Feeds G (Itl K a) ds where
  stop := fun i H s hi => ⟨xs, .inl (rd_mono s h), by rw [dpAll_len hd]; exact hi⟩
  go := fun i H s hi => ⟨xs, xs[i]'(by rw [dpAll_len hd]; exact hi), .inl (rd_mono s h), List.getElem?_eq_getElem _⟩
  yld := fun i H G1 x H' s1 s2 ⟨e, y⟩ d hdd => by
    subst e
    obtain ⟨v, hv, dv⟩ := dpAll_get hd hdd
    have hx := y xs (.inl (rd_mono (s1.trans s2) h))
    rw [hv] at hx
    cases hx
    exact ⟨G1, .refl s2, dv.mono s1⟩
def dItems : D → Option (List D)
  | .list ds => some ds
  | .tuple ds => some ds
  | _ => none
def mItems (ma : M D) : M (List D) := mBind ma fun d => mOpt (dItems d)
section
variable {X : Cx} {W : WX} {tg a b c e e2 : Expr} {es : List Expr} {ma mb mc : M D} {ml : M (List D)} {mt : M Bool} {ms mn : MS} {st : Stmt} {sts ss : List Stmt} {pos p p2 : Pos}
theorem ji_seq (h : JE X W e ma) : JI X W tg e (mItems ma) := by
  refine PI.imp (pi_seq h) fun σ H R h => ?_
  obtain ⟨b, G, env, fr, h⟩ := h
  refine tE_one fr h (fun d e1 v G1 H1 fr1 st1 dp1 h1 => ?_) (fun c e he => he)
  obtain ⟨z, hz, h3⟩ := wpR.opt h1
  cases dp1 with
  | @lst a vs ds hr ha =>
    cases hz
    exact ⟨a, rfl, .inl ⟨⟨vs, .inl (rd_mono fr1.sub hr)⟩, h3 _ G1 H1 fr1 st1 (feeds_list' hr ha)⟩⟩
  | @tup a vs ds hr ha =>
    cases hz
    exact ⟨a, rfl, .inr ⟨⟨vs, .inl (rd_mono fr1.sub hr)⟩, h3 _ G1 H1 fr1 st1 (feeds_tup hr ha)⟩⟩
  | _ => cases hz
/-- a text, sign by sign -/
def dSigns : D → Option (List D)
  | .str z => some (z.cps.toList.map fun c => .str ⟨#[c]⟩)
  | _ => none
def mSigns (ma : M D) : M (List D) := mBind ma fun d => mOpt (dSigns d)
theorem ji_str (h : JE X W e ma) : JI X W tg e (mSigns ma) := by
  refine PI.imp (pi_str h) fun σ H R h => ?_
  obtain ⟨b, G, env, fr, h⟩ := h
  refine tE_one fr h (fun d e1 v G1 H1 fr1 st1 dp1 h1 => ?_) (fun c e he => he)
  obtain ⟨z, hz, h3⟩ := wpR.opt h1
  cases dp1 with
  | str x =>
    cases hz
    refine ⟨x, rfl, h3 _ G1 H1 fr1 st1 ⟨fun i H s hi => show x.cps.size ≤ i from ?_, fun i H s hi => show i < x.cps.size from ?_, fun i H G2 y H' s1 s2 ⟨e, c, hc, ey⟩ d hd => ?_⟩⟩
    · simpa using hi
    · simpa using hi
    · subst e ey
      rw [List.getElem?_map, Array.getElem?_toList, hc] at hd
      cases hd
      exact ⟨G2, .refl s2, .str _⟩
  | _ => cases hz
/-- range -/
def rangeD (lo hi : Int) : List D := (List.range (hi - lo).toNat).map fun i => .int (lo + (i : Nat))
theorem feeds_range {G : Hp} (lo : Int) (n : Nat) : Feeds G (Itr lo n) ((List.range n).map fun i => PyData.int (lo + (i : Nat))) where
  stop := fun i H s hi => show n ≤ i by simpa using hi
  go := fun i H s hi => show i < n by simpa using hi
  yld := fun i H G1 x H' s1 s2 ⟨e, ex⟩ d hd => by
    subst e ex
    by_cases hi : i < n
    · rw [List.getElem?_map, List.getElem?_range hi] at hd
      cases hd
      exact ⟨G1, .refl s2, .int _⟩
    · rw [List.getElem?_eq_none (by simpa using Nat.le_of_not_lt hi)] at hd; cases hd
def rngOk (i : Int) : Bool := decide (i.natAbs.log2 < 62)
theorem rngOk_of {i : Int} (h : rngOk i = true) : -(2 ^ 62) ≤ i ∧ i < 2 ^ 62 := by
  have h := of_decide_eq_true h
  by_cases c : i.natAbs = 0
  · omega
  · have := (Nat.log2_lt c).mp h
    omega
theorem rngOk_mk {i : Int} (h : -1000000000000 ≤ i ∧ i ≤ 1000000000000) : rngOk i = true := by
  refine decide_eq_true ?_
  by_cases c : i.natAbs = 0
  · rw [c]; decide
  · exact (Nat.log2_lt c).mpr (by omega)
def dRange1 : List D → Option (List D)
  | [.int j] => if rngOk j = true then some (rangeD 0 j) else none
  | _ => none
def dRange2 : List D → Option (List D)
  | [.int i, .int j] => if rngOk i = true ∧ rngOk j = true then some (rangeD i j) else none
  | _ => none
def mRange1 (ml : M (List D)) : M (List D) := mBind ml fun ds => mOpt (dRange1 ds)
def mRange2 (ml : M (List D)) : M (List D) := mBind ml fun ds => mOpt (dRange2 ds)
theorem ji_range1 (hg : Gl X "range") (hm : X.mg "range" = none) (ha : JL X W [a] ml) (hs : starEach [a] X.env = [(false, eval a X.env)] := by rfl) : JI X W tg (.Call (.Name "range" p) [a] [] pos) (mRange1 ml) := by
  refine PI.imp (pi_range1 hg hm ha hs) fun σ H R h => ?_
  obtain ⟨b, G, env, fr, h⟩ := h
  refine tL_one fr h (fun ds e1 vs G1 H1 fr1 st1 dp1 h1 => ?_) (fun c e he => he)
  obtain ⟨z, hz, h3⟩ := wpR.opt h1
  unfold dRange1 at hz
  split at hz
  · obtain ⟨v, rfl, hv⟩ := dtAll1 dp1
    cases dt_int hv
    obtain ⟨hb, ez⟩ := ifS hz
    subst ez
    obtain ⟨h1, h2⟩ := rngOk_of hb
    refine ⟨_, rfl, h1, h2, h3 _ G1 H1 fr1 st1 ?_⟩
    unfold rangeD
    rw [Int.sub_zero]
    exact feeds_range 0 _
  · cases hz
theorem ji_range2 (hg : Gl X "range") (hm : X.mg "range" = none) (ha : JL X W [a, b] ml) (hs : starEach [a, b] X.env = [(false, eval a X.env), (false, eval b X.env)] := by rfl) (hs2 : starEach [b] X.env = [(false, eval b X.env)] := by rfl) : JI X W tg (.Call (.Name "range" p) [a, b] [] pos) (mRange2 ml) := by
  refine PI.imp (pi_range2 hg hm ha hs hs2) fun σ H R h => ?_
  obtain ⟨b, G, env, fr, h⟩ := h
  refine tL_one fr h (fun ds e1 vs G1 H1 fr1 st1 dp1 h1 => ?_) (fun c e he => he)
  obtain ⟨z, hz, h3⟩ := wpR.opt h1
  unfold dRange2 at hz
  split at hz
  · obtain ⟨v, u, rfl, hv, hu⟩ := dtAll2 dp1
    cases dt_int hv; cases dt_int hu
    obtain ⟨⟨hb, hb2⟩, ez⟩ := ifS hz
    subst ez
    obtain ⟨h1, h2⟩ := rngOk_of hb
    obtain ⟨h4, h5⟩ := rngOk_of hb2
    exact ⟨_, _, rfl, ⟨h1, h2, h4, h5⟩, h3 _ G1 H1 fr1 st1 (feeds_range _ _)⟩
  · cases hz
/-- zip of two lists, of two tuples -/
def zipD (xs ys : List D) : List D := List.zipWith (fun x y => .tuple [x, y]) xs ys
def dZip : List D → Option (List D)
  | [.list xs, .list ys] => some (zipD xs ys)
  | [.tuple xs, .tuple ys] => some (zipD xs ys)
  | _ => none
def mZip (ml : M (List D)) : M (List D) := mBind ml fun ds => mOpt (dZip ds)
theorem zipD_get {xs ys : List D} {i : Nat} {d : D} (h : (zipD xs ys)[i]? = some d) : ∃ x y, xs[i]? = some x ∧ ys[i]? = some y ∧ d = .tuple [x, y] := by
  unfold zipD at h
  rw [List.getElem?_zipWith] at h
  cases hx : xs[i]? with
  | none => rw [hx] at h; cases h
  | some x =>
    cases hy : ys[i]? with
    | none => rw [hx, hy] at h; cases h
    | some y =>
      rw [hx, hy] at h
      exact ⟨x, y, rfl, rfl, (Option.some.inj h).symm⟩
theorem zipD_len (xs ys : List D) : (zipD xs ys).length = min xs.length ys.length := by
  unfold zipD
  rw [List.length_zipWith]
theorem pair_new {G1 H : Hp} {T : Addr} {x y : V} {d e : D} (s : Sub G1 H) (hT : H T = none) (hx : Dt G1 x d) (hy : Dt G1 y e) : ∃ G2, Grow G1 H G2 (upd H T (.tup [x, y])) ∧ Dt G2 (.ref T) (.tuple [d, e]) := by
  have g : Grow G1 H (upd G1 T (.tup [x, y])) (upd H T (.tup [x, y])) := .laid s hT
  exact ⟨_, g, .tup (.inl upd_same) (.cons (hx.mono g.sub) (.cons (hy.mono g.sub) .nil))⟩
theorem ji_zip {elts : List Expr} {kk : Nat} {tpos : Pos} (hg : Gl X "zip") (hm : X.mg "zip" = none) (ha : JL X W [e, e2] ml)
    (hs : starEach [e, e2] X.env = (false, eval e X.env) :: starEach [e2] X.env := by rfl) (hpl : (backTo pos (starEach [e2] X.env)).any (·.1) = false := by rfl) : JI X W (.Tuple elts kk tpos) (.Call (.Name "zip" p) [e, e2] [] pos) (mZip ml) := by
  refine PI.imp (RZ.pi_zipA hg hm ha hs hpl) fun σ H R h => ?_
  obtain ⟨b, G, env, fr, h⟩ := h
  refine tL_one fr h (fun ds e1 vs G1 H1 fr1 st1 dp1 h1 => ?_) (fun c e he => he)
  obtain ⟨z, hz, h3⟩ := wpR.opt h1
  unfold dZip at hz
  split at hz
  · obtain ⟨v, u, rfl, hv, hu⟩ := dtAll2 dp1
    obtain ⟨a, xs, rfl, hr, hd⟩ := dt_lst hv
    obtain ⟨b', ys, rfl, hr2, hd2⟩ := dt_lst hu
    cases hz
    refine ⟨a, b', xs, ys, rfl, .inl ⟨.inl (rd_mono fr1.sub hr), .inl (rd_mono fr1.sub hr2), h3 _ G1 H1 fr1 st1 ⟨fun i H s hi => ?_, fun i H s hi => ?_, fun i H G2 x H' s1 s2 hy d hdd => ?_⟩⟩⟩
    · rw [zipD_len] at hi
      refine ⟨xs, ys, .inl (rd_mono s hr), .inl (rd_mono s hr2), ?_⟩
      rw [dpAll_len hd, dpAll_len hd2]; omega
    · rw [zipD_len] at hi
      exact ⟨xs, ys, xs[i]'(by rw [dpAll_len hd]; omega), ys[i]'(by rw [dpAll_len hd2]; omega), .inl (rd_mono s hr), .inl (rd_mono s hr2), List.getElem?_eq_getElem _, List.getElem?_eq_getElem _⟩
    · obtain ⟨T, x1, y1, rfl, hT, rfl, q1, q2⟩ := hy
      obtain ⟨dx, dy, hx, hy, rfl⟩ := zipD_get hdd
      obtain ⟨v1, hv1, dv1⟩ := dpAll_get hd hx
      obtain ⟨v2, hv2, dv2⟩ := dpAll_get hd2 hy
      have e1 := q1 xs (.inl (rd_mono (s1.trans s2) hr))
      have e2 := q2 ys (.inl (rd_mono (s1.trans s2) hr2))
      rw [hv1] at e1; rw [hv2] at e2
      cases e1; cases e2
      exact pair_new s2 hT (dv1.mono s1) (dv2.mono s1)
  · obtain ⟨v, u, rfl, hv, hu⟩ := dtAll2 dp1
    obtain ⟨a, xs, rfl, hr, hd⟩ := dt_tup hv
    obtain ⟨b', ys, rfl, hr2, hd2⟩ := dt_tup hu
    cases hz
    refine ⟨a, b', xs, ys, rfl, .inr ⟨.inl (rd_mono fr1.sub hr), .inl (rd_mono fr1.sub hr2), h3 _ G1 H1 fr1 st1 ⟨fun i H s hi => ?_, fun i H s hi => ?_, fun i H G2 x H' s1 s2 hy d hdd => ?_⟩⟩⟩
    · rw [zipD_len] at hi
      refine ⟨xs, ys, .inl (rd_mono s hr), .inl (rd_mono s hr2), ?_⟩
      rw [dpAll_len hd, dpAll_len hd2]; omega
    · rw [zipD_len] at hi
      exact ⟨xs, ys, xs[i]'(by rw [dpAll_len hd]; omega), ys[i]'(by rw [dpAll_len hd2]; omega), .inl (rd_mono s hr), .inl (rd_mono s hr2), List.getElem?_eq_getElem _, List.getElem?_eq_getElem _⟩
    · obtain ⟨T, x1, y1, rfl, hT, rfl, q1, q2⟩ := hy
      obtain ⟨dx, dy, hx, hy, rfl⟩ := zipD_get hdd
      obtain ⟨v1, hv1, dv1⟩ := dpAll_get hd hx
      obtain ⟨v2, hv2, dv2⟩ := dpAll_get hd2 hy
      have e1 := q1 xs (.inl (rd_mono (s1.trans s2) hr))
      have e2 := q2 ys (.inl (rd_mono (s1.trans s2) hr2))
      rw [hv1] at e1; rw [hv2] at e2
      cases e1; cases e2
      exact pair_new s2 hT (dv1.mono s1) (dv2.mono s1)
  · cases hz
/-- enumerate of a list -/
def enumD (ds : List D) : List D := zipD ((List.range ds.length).map fun i => .int (i : Nat)) ds
def dEnum : List D → Option (List D)
  | [.list xs] => some (enumD xs)
  | _ => none
def mEnum (ml : M (List D)) : M (List D) := mBind ml fun ds => mOpt (dEnum ds)
theorem enumD_len (ds : List D) : (enumD ds).length = ds.length := by
  unfold enumD; rw [zipD_len]; simp
theorem ji_enum {elts : List Expr} {kk : Nat} {tpos : Pos} (hg : Gl X "enumerate") (hm : X.mg "enumerate" = none) (ha : JL X W [e] ml)
    (hs : starEach [e] X.env = [(false, eval e X.env)] := by rfl) : JI X W (.Tuple elts kk tpos) (.Call (.Name "enumerate" p) [e] [] pos) (mEnum ml) := by
  refine PI.imp (pi_enum hg hm ha hs) fun σ H R h => ?_
  obtain ⟨b, G, env, fr, h⟩ := h
  refine tL_one fr h (fun ds e1 vs G1 H1 fr1 st1 dp1 h1 => ?_) (fun c e he => he)
  obtain ⟨z, hz, h3⟩ := wpR.opt h1
  unfold dEnum at hz
  split at hz
  · obtain ⟨v, rfl, hv⟩ := dtAll1 dp1
    obtain ⟨a, xs, rfl, hr, hd⟩ := dt_lst hv
    cases hz
    refine ⟨a, xs, rfl, .inl (rd_mono fr1.sub hr), h3 _ G1 H1 fr1 st1 ⟨fun i H s hi => ?_, fun i H s hi => ?_, fun i H G2 x H' s1 s2 hy d hdd => ?_⟩⟩
    · rw [enumD_len] at hi
      exact ⟨xs, .inl (rd_mono s hr), by rw [dpAll_len hd]; exact hi⟩
    · rw [enumD_len] at hi
      exact ⟨xs, xs[i]'(by rw [dpAll_len hd]; exact hi), .inl (rd_mono s hr), List.getElem?_eq_getElem _⟩
    · obtain ⟨T, x1, rfl, hT, rfl, q1⟩ := hy
      obtain ⟨dx, dy, hx, hy, rfl⟩ := zipD_get hdd
      obtain ⟨v2, hv2, dv2⟩ := dpAll_get hd hy
      have e2 := q1 xs (.inl (rd_mono (s1.trans s2) hr))
      rw [hv2] at e2
      cases e2
      have hil := (List.getElem?_eq_some_iff.mp hx).1
      rw [List.length_map, List.length_range] at hil
      rw [List.getElem?_map, List.getElem?_range hil] at hx
      cases hx
      exact pair_new s2 hT (.int _) (dv2.mono s1)
  · cases hz

/-! ## for -/
def forL (g : GT) (mb : MS) : List D → MS
  | [], env => .ok (.nx, env)
  | d :: r, env => match g d env with
    | none => .bad
    | some e1 => match mb e1 with
      | .ok (.nx, e2) => forL g mb r e2
      | .ok (.ct, e2) => forL g mb r e2
      | .ok (.bk, e2) => .ok (.nx, e2)
      | o => o
def mFor (mi : M (List D)) (g : GT) (mb : MS) : MS := mBind mi fun ds => forL g mb ds
theorem js_for {iter : Expr} {body : List Stmt} {mi : M (List D)} {ks : List Nat} {g : GT} {mb : MS} (hp : PassesOwn (model X.prog X.w) X.A X.env X.xe) (hc : X.calm = true) (hi : JI X W tg iter mi) (hg : JG X tg ks g) (hb : JSs X W body mb)
    (hs : ∀ x, foldedSetIterable iter X.env x = pure x := by intro _; rfl) : JS X W (.For tg iter body [] pos) (mFor mi g mb) := by
  refine PS.imp (ps_for hp hc hi hg hb hs) fun σ H D h => ?_
  obtain ⟨b, G, env, fr, h⟩ := h
  refine ⟨b, G, env, fr, (wpR.bind h).mono (fun ds e1 h1 J G1 H1 fr1 st1 F => ?_) (fun c e he G' H' fr' => he σ G' H' fr')⟩
  have h1 := wpS_sub st1.sub h1
  refine ⟨fun i m σ' H' => m = ds.length - i ∧ i ≤ ds.length ∧ ∃ G' env', Fr X.K b G' H' σ' env' ∧ Sub G1 G' ∧ wpR (forL g mb (ds.drop i) env') (fun fl env' => match fl with
    | .nx => ∀ σ' G' H', Fr X.K b G' H' σ' env' → Sub G1 G' → D.nx σ' H'
    | .bk => ∀ σ' G' H', Fr X.K b G' H' σ' env' → Sub G1 G' → D.bk σ' H'
    | .ct => ∀ σ' G' H', Fr X.K b G' H' σ' env' → Sub G1 G' → D.ct σ' H'
    | .rt d => ∀ v σ' G' H', Fr X.K b G' H' σ' env' → Dt G' v d → D.rt v H'
    | .ro ds => ∀ a vs σ' G' H', Fr X.K b G' H' σ' env' → H' a = some (.lst vs) → DtAll G' vs ds → G' a = none → b.H0 a = none → D.rt (.ref a) H') (fun c env' => ∀ σ' G' H', Fr X.K b G' H' σ' env' → W (clsV X.K c) none σ' H'),
    ⟨ds.length, rfl, Nat.zero_le _, G1, e1, fr1, Same.refl _, h1⟩, ?_⟩
  rintro i m σ2 H2 ⟨rfl, hle, G2, e2, fr2, s2, h2⟩
  have sG : Sub G1 H2 := s2.trans fr2.sub
  by_cases hlt : i < ds.length
  · refine .inr ⟨F.go i H2 sG hlt, fun σ' H' => i < ds.length ∧ ∃ G' env', Fr X.K b G' H' σ' env' ∧ Sub G1 G' ∧ wpR (forL g mb (ds.drop (i + 1)) env') _ _, fun σ' H' ⟨_, G', env', fr', s', h'⟩ => ⟨ds.length - (i + 1), by omega, rfl, hlt, G', env', fr', s', h'⟩, fun x H3 y => ?_⟩
    have hd : ds[i]? = some ds[i] := List.getElem?_eq_getElem hlt
    obtain ⟨G3, g3, dx⟩ := F.yld i H2 G2 x H3 s2 fr2.sub y _ hd
    rw [List.drop_eq_getElem_cons hlt] at h2
    unfold forL at h2
    cases hgd : g ds[i] e2 with
    | none => rw [hgd] at h2; exact h2.elim
    | some e3 =>
      rw [hgd] at h2
      refine ⟨b, G3, e2, ds[i], e3, fr2.grow g3, dx, hgd, fun σ3 fr3 _ => ?_⟩
      refine ⟨b, G3, e3, fr3, ?_⟩
      simp only at h2
      cases hm : mb e3 with
      | bad => rw [hm] at h2; exact h2
      | exc c e => rw [hm] at h2; exact h2
      | ok q =>
        obtain ⟨fl, e4⟩ := q
        rw [hm] at h2
        have s3 : Sub G1 G3 := s2.trans g3.sub
        cases fl with
        | nx => exact fun σ4 G4 H4 fr4 s4 => ⟨hlt, G4, e4, fr4, s3.trans s4, h2⟩
        | ct => exact fun σ4 G4 H4 fr4 s4 => ⟨hlt, G4, e4, fr4, s3.trans s4, h2⟩
        | bk => exact fun σ4 G4 H4 fr4 s4 => h2 σ4 G4 H4 fr4 (s3.trans s4)
        | rt d => exact h2
        | ro d => exact h2
  · have e : i = ds.length := by omega
    subst e
    rw [List.drop_length] at h2
    exact .inl ⟨F.stop _ H2 sG (Nat.le_refl _), h2 σ2 G2 H2 fr2 s2⟩
/-! ## while -/
def whileF (c : M Bool) (mb : MS) : Nat → MS
  | 0, _ => .bad
  | n + 1, env => match c env with
    | .ok (true, e1) => (match mb e1 with
      | .ok (.nx, e2) => whileF c mb n e2
      | .ok (.ct, e2) => whileF c mb n e2
      | .ok (.bk, e2) => .ok (.nx, e2)
      | o => o)
    | .ok (false, e1) => .ok (.nx, e1)
    | .exc c e => .exc c e
    | .bad => .bad
theorem js_while {body : List Stmt} {mb : MS} (k : Ev → Nat) (hp : PassesOwn (model X.prog X.w) X.A X.env X.xe) (hc : JT X W c mt) (hb : JSs X W body mb) : JS X W (.While c body [] pos) (fun env => whileF mt mb (k env) env) := by
  refine PS.imp (ps_while hp hc hb) fun σ H D h => ?_
  obtain ⟨b, G, env, fr, h⟩ := h
  refine ⟨fun m σ' H' => ∃ G' env', Fr X.K b G' H' σ' env' ∧ Sub G G' ∧ wpR (whileF mt mb m env') (fun fl env' => match fl with
    | .nx => ∀ σ' G' H', Fr X.K b G' H' σ' env' → Sub G G' → D.nx σ' H'
    | .bk => ∀ σ' G' H', Fr X.K b G' H' σ' env' → Sub G G' → D.bk σ' H'
    | .ct => ∀ σ' G' H', Fr X.K b G' H' σ' env' → Sub G G' → D.ct σ' H'
    | .rt d => ∀ v σ' G' H', Fr X.K b G' H' σ' env' → Dt G' v d → D.rt v H'
    | .ro ds => ∀ a vs σ' G' H', Fr X.K b G' H' σ' env' → H' a = some (.lst vs) → DtAll G' vs ds → G' a = none → b.H0 a = none → D.rt (.ref a) H') (fun c env' => ∀ σ' G' H', Fr X.K b G' H' σ' env' → W (clsV X.K c) none σ' H'),
    ⟨k env, G, env, fr, Same.refl _, h⟩, ?_⟩
  rintro m σ1 H1 ⟨G1, e1, fr1, s1, h1⟩
  cases m with
  | zero => exact h1.elim
  | succ n =>
    unfold whileF at h1
    refine ⟨b, G1, e1, fr1, ?_⟩
    cases hm : mt e1 with
    | bad => rw [hm] at h1; exact h1
    | exc c e => rw [hm] at h1; exact fun G' H' fr' => h1 σ1 G' H' fr'
    | ok q =>
      obtain ⟨kb, e2⟩ := q
      rw [hm] at h1
      intro G2 H2 fr2 st2
      cases kb with
      | false =>
        rw [if_neg Bool.false_ne_true]
        exact h1 σ1 G2 H2 fr2 (s1.trans st2.sub)
      | true =>
        rw [if_pos rfl]
        refine ⟨fun σ' H' => ∃ G' env', Fr X.K b G' H' σ' env' ∧ Sub G G' ∧ wpR (whileF mt mb n env') _ _, fun σ' H' ⟨G', env', fr', s', h'⟩ => ⟨n, Nat.lt_succ_self n, G', env', fr', s', h'⟩, ?_⟩
        refine ⟨b, G2, e2, fr2, ?_⟩
        simp only at h1
        cases hb2 : mb e2 with
        | bad => rw [hb2] at h1; exact h1
        | exc c e => rw [hb2] at h1; exact h1
        | ok q =>
          obtain ⟨fl, e3⟩ := q
          rw [hb2] at h1
          have s2 : Sub G G2 := s1.trans st2.sub
          cases fl with
          | nx => exact fun σ4 G4 H4 fr4 s4 => ⟨G4, e3, fr4, s2.trans s4, h1⟩
          | ct => exact fun σ4 G4 H4 fr4 s4 => ⟨G4, e3, fr4, s2.trans s4, h1⟩
          | bk => exact fun σ4 G4 H4 fr4 s4 => h1 σ4 G4 H4 fr4 (s2.trans s4)
          | rt d => exact h1
          | ro d => exact h1
end
end DL

namespace DL
open PySem PySem.Spec PyProof.Rows L2

/-! ## comprehensions -/
def wipeE (e : Ev) : List Nat → Ev
  | [] => e
  | v :: vs => (wipeE e vs).set v .un
def keepS : Option Sl → Sl
  | some (.dat d) => .dat d
  | some (.scr n) => .scr n
  | _ => .un
def restE (e0 : Ev) : List Nat → Ev → Ev
  | [], e => e
  | v :: vs, e => (restE e0 vs e).set v (keepS e0[v]?)
def compL (vs : List Nat) (g : GT) (mt : M Bool) (me : M D) : List D → List D → Ev → Res Ev (List D × Ev)
  | [], acc, e => .ok (acc, e)
  | d :: r, acc, e => match g d e with
    | none => .bad
    | some e1 => match mt e1 with
      | .ok (true, e2) => (match me e2 with
        | .ok (y, e3) => if acc.length < sizeLine then compL vs g mt me r (acc ++ [y]) (wipeE e3 vs) else .bad
        | _ => .bad)
      | .ok (false, e2) => compL vs g mt me r acc (wipeE e2 vs)
      | _ => .bad
def mComp (mi : M (List D)) (vs : List Nat) (g : GT) (mt : M Bool) (me : M D) : M (List D) := mBind mi fun ds e => match compL vs g mt me ds [] (wipeE e vs) with
  | .ok (acc, e') => .ok (acc, restE e vs e')
  | _ => .bad
/-- no exception leaves -/
abbrev WF : WX := fun _ _ _ _ => False
def isPl : Sl → Bool
  | .dat _ => true
  | _ => false
theorem isPl_own {s : Sl} (h : isPl s = true) : isOwn s = false := by cases s <;> first | rfl | cases h
structure TgOk (ks : List Nat) (g : GT) : Prop where
  len : ∀ d e e1, g d e = some e1 → e1.length = e.length
  off : ∀ d e e1, g d e = some e1 → ∀ j, j ∉ ks → e1[j]? = e[j]?
  on : ∀ d e e1, g d e = some e1 → ∀ j s, j ∈ ks → e1[j]? = some s → isPl s = true
structure TgsOk (ks : List Nat) (g : List D → Ev → Option Ev) : Prop where
  len : ∀ d e e1, g d e = some e1 → e1.length = e.length
  off : ∀ d e e1, g d e = some e1 → ∀ j, j ∉ ks → e1[j]? = e[j]?
  on : ∀ d e e1, g d e = some e1 → ∀ j s, j ∈ ks → e1[j]? = some s → isPl s = true
theorem tg_name (i : Nat) : TgOk [i] (gN i) where
  len := fun d e e1 h => by obtain ⟨_, rfl⟩ := putSl_some h; rw [List.length_set]
  off := fun d e e1 h j hj => by obtain ⟨_, rfl⟩ := putSl_some h; rw [List.getElem?_set_ne (fun z => hj (by simp [z]))]
  on := fun d e e1 h j s hj hs => by
    obtain ⟨hl, rfl⟩ := putSl_some h
    have : j = i := by simpa using hj
    subst this
    rw [List.getElem?_set_self hl] at hs
    cases hs; rfl
theorem tgs_nil : TgsOk [] gNil' where
  len := fun d e e1 h => by cases d with | nil => cases h; rfl | cons _ _ => cases h
  off := fun d e e1 h j _ => by cases d with | nil => cases h; rfl | cons _ _ => cases h
  on := fun d e e1 h j s hj => by cases hj
theorem tgs_cons {k1 k2 : List Nat} {g : GT} {gs : List D → Ev → Option Ev} (h1 : TgOk k1 g) (h2 : TgsOk k2 gs) : TgsOk (k1 ++ k2) (gCons' g gs) where
  len := fun d e e1 h => by
    cases d with
    | nil => cases h
    | cons d r => obtain ⟨e2, a, b⟩ := optS h; exact (h2.len r e2 e1 b).trans (h1.len d e e2 a)
  off := fun d e e1 h j hj => by
    cases d with
    | nil => cases h
    | cons d r =>
      obtain ⟨e2, a, b⟩ := optS h
      exact (h2.off r e2 e1 b j fun z => hj (List.mem_append_right _ z)).trans (h1.off d e e2 a j fun z => hj (List.mem_append_left _ z))
  on := fun d e e1 h j s hj hs => by
    cases d with
    | nil => cases h
    | cons d r =>
      obtain ⟨e2, a, b⟩ := optS h
      by_cases hk : j ∈ k2
      · exact h2.on r e2 e1 b j s hk hs
      · rw [h2.off r e2 e1 b j hk] at hs
        exact h1.on d e e2 a j s ((List.mem_append.mp hj).resolve_right hk) hs
theorem tg_tup {ks : List Nat} {gs : List D → Ev → Option Ev} (h : TgsOk ks gs) : TgOk ks (gTp gs) where
  len := fun d e e1 q => by cases d with | tuple ds => exact h.len ds e e1 q | _ => cases q
  off := fun d e e1 q => by cases d with | tuple ds => exact h.off ds e e1 q | _ => cases q
  on := fun d e e1 q => by cases d with | tuple ds => exact h.on ds e e1 q | _ => cases q

theorem wipeE_len (e : Ev) : ∀ vs : List Nat, (wipeE e vs).length = e.length
  | [] => rfl
  | v :: vs => by unfold wipeE; rw [List.length_set, wipeE_len e vs]
theorem wipeE_get {e : Ev} {i : Nat} {s : Sl} : ∀ {vs : List Nat}, (wipeE e vs)[i]? = some s → (i ∈ vs ∧ s = .un) ∨ (i ∉ vs ∧ e[i]? = some s)
  | [], h => .inr ⟨by simp, h⟩
  | v :: vs, h => by
    unfold wipeE at h
    rcases getset h with ⟨e1, e2⟩ | ⟨e1, e2⟩
    · subst e1; exact .inl ⟨by simp, e2⟩
    · rcases wipeE_get e2 with ⟨h1, h2⟩ | ⟨h1, h2⟩
      · exact .inl ⟨List.mem_cons_of_mem _ h1, h2⟩
      · exact .inr ⟨by simp only [List.mem_cons, not_or]; exact ⟨Ne.symm e1, h1⟩, h2⟩
theorem wipe_off {σ : St} {i : Nat} : ∀ {vs : List Nat}, i ∉ vs → (wipe σ vs)[i]? = σ[i]?
  | [], _ => rfl
  | v :: vs, h => by
    unfold wipe
    rw [List.getElem?_set_ne (fun z => h (by simp [z])), wipe_off (fun z => h (List.mem_cons_of_mem _ z))]
theorem wipe_on {σ : St} {i : Nat} : ∀ {vs : List Nat}, i ∈ vs → i < σ.length → (wipe σ vs)[i]? = some none
  | [], h, _ => by cases h
  | v :: vs, h, hl => by
    unfold wipe
    by_cases e : v = i
    · subst e; rw [List.getElem?_set_self (by rw [wipe_length]; exact hl)]
    · rw [List.getElem?_set_ne e]
      exact wipe_on ((List.mem_cons.mp h).resolve_left (Ne.symm e)) hl
theorem wipe_same {σ σ' : St} {ks vs : List Nat} (h : SameOff ks σ σ') (hk : ∀ k ∈ ks, k ∈ vs) : wipe σ' vs = wipe σ vs := by
  apply List.ext_getElem?
  intro i
  by_cases hi : i ∈ vs
  · by_cases hl : i < σ.length
    · rw [wipe_on hi hl, wipe_on hi (by rw [h.1]; exact hl)]
    · rw [List.getElem?_eq_none (by rw [wipe_length, h.1]; omega), List.getElem?_eq_none (by rw [wipe_length]; omega)]
  · rw [wipe_off hi, wipe_off hi]
    exact h.2 i fun z => hi (hk i z)
theorem wipe_wipe {σ : St} {vs : List Nat} : wipe (wipe σ vs) vs = wipe σ vs := by
  apply List.ext_getElem?
  intro i
  by_cases hi : i ∈ vs
  · by_cases hl : i < σ.length
    · rw [wipe_on hi (by rw [wipe_length]; exact hl), wipe_on hi hl]
    · rw [List.getElem?_eq_none (by rw [wipe_length, wipe_length]; omega), List.getElem?_eq_none (by rw [wipe_length]; omega)]
  · rw [wipe_off hi]
theorem ownI_wipe {σ : St} {env : Ev} {vs : List Nat} {i : Nat} {a : Addr} (h : OwnI (wipe σ vs) (wipeE env vs) i a) : OwnI σ env i a := by
  obtain ⟨⟨s, hs, ho⟩, hv⟩ := h
  rcases wipeE_get hs with ⟨h1, h2⟩ | ⟨h1, h2⟩
  · subst h2; cases ho
  · exact ⟨⟨s, h2, ho⟩, by rw [wipe_off h1] at hv; exact hv⟩
theorem Fr.wipe {K : PySem.W.Frag} {b : Bs} {G H : Hp} {σ : St} {env : Ev} (f : Fr K b G H σ env) (vs : List Nat) : Fr K b G H (L2.wipe σ vs) (wipeE env vs) where
  sub := f.sub
  base := f.base
  sub0 := f.sub0
  low := f.low
  celH := f.celH
  len := by rw [wipeE_len, wipe_length]; exact f.len
  slot := fun i s hs => by
    rcases wipeE_get hs with ⟨h1, h2⟩ | ⟨h1, h2⟩
    · subst h2
      have hl : i < σ.length := by
        have := (List.getElem?_eq_some_iff.mp hs).1
        rw [wipeE_len] at this
        rw [← f.len]; exact this
      exact ⟨_, wipe_on h1 hl, trivial⟩
    · obtain ⟨v, e, q⟩ := f.slot i s h2
      exact ⟨v, by rw [wipe_off h1]; exact e, q⟩
  inj := fun i j a hi hj => f.inj i j a (ownI_wipe hi) (ownI_wipe hj)
  nst := fun i rows a rs h1 h2 h3 => by
    rcases wipeE_get h1 with ⟨_, z⟩ | ⟨z1, z2⟩
    · cases z
    · have q := f.nst i rows a rs z2 (by rw [wipe_off z1] at h2; exact h2) h3
      exact ⟨fun ⟨k, hk⟩ => q.1 ⟨k, ownI_wipe hk⟩, fun r hr ⟨k, hk⟩ => q.2 r hr ⟨k, ownI_wipe hk⟩⟩
theorem NoNst.wipe {σ : St} {env : Ev} {H : Hp} {x : Addr} (vs : List Nat) (n : NoNst σ env H x) : NoNst (L2.wipe σ vs) (wipeE env vs) H x := fun i rows h => by
  rcases wipeE_get h with ⟨_, z⟩ | ⟨z1, z2⟩
  · cases z
  · obtain ⟨a, rs, h1, h2⟩ := n i rows z2
    exact ⟨a, rs, by rw [wipe_off z1]; exact h1, h2⟩
theorem restE_len (e0 e : Ev) : ∀ vs : List Nat, (restE e0 vs e).length = e.length
  | [] => rfl
  | v :: vs => by unfold restE; rw [List.length_set, restE_len e0 e vs]
theorem restE_get {e0 e : Ev} {i : Nat} {s : Sl} : ∀ {vs : List Nat}, (restE e0 vs e)[i]? = some s → (i ∈ vs ∧ s = keepS e0[i]?) ∨ (i ∉ vs ∧ e[i]? = some s)
  | [], h => .inr ⟨by simp, h⟩
  | v :: vs, h => by
    unfold restE at h
    rcases getset h with ⟨e1, e2⟩ | ⟨e1, e2⟩
    · subst e1; exact .inl ⟨by simp, e2⟩
    · rcases restE_get e2 with ⟨h1, h2⟩ | ⟨h1, h2⟩
      · exact .inl ⟨List.mem_cons_of_mem _ h1, h2⟩
      · exact .inr ⟨by simp only [List.mem_cons, not_or]; exact ⟨Ne.symm e1, h1⟩, h2⟩
theorem keepS_own (o : Option Sl) : isOwn (keepS o) = false := by
  cases o with
  | none => rfl
  | some s => cases s <;> rfl
theorem keepS_nst {o : Option Sl} {rows : List (List D)} (h : Sl.nst rows = keepS o) : False := by
  cases o with
  | none => cases h
  | some s => cases s <;> cases h
theorem NoNst.rest {σ : St} {e0 e : Ev} {vs : List Nat} {H : Hp} {x : Addr} (n : NoNst (L2.wipe σ vs) e H x) : NoNst σ (restE e0 vs e) H x := fun i rows h => by
  rcases restE_get h with ⟨_, z⟩ | ⟨z1, z2⟩
  · exact (keepS_nst z).elim
  · obtain ⟨a, rs, h1, h2⟩ := n i rows z2
    exact ⟨a, rs, by rw [wipe_off z1] at h1; exact h1, h2⟩
theorem ownI_rest {σ : St} {e0 e : Ev} {vs : List Nat} {i : Nat} {a : Addr} (h : OwnI σ (restE e0 vs e) i a) : OwnI (wipe σ vs) e i a := by
  obtain ⟨⟨s, hs, ho⟩, hv⟩ := h
  rcases restE_get hs with ⟨h1, h2⟩ | ⟨h1, h2⟩
  · subst h2; rw [keepS_own] at ho; cases ho
  · exact ⟨⟨s, h2, ho⟩, by rw [wipe_off h1]; exact hv⟩
theorem Fr.rest {K : PySem.W.Frag} {b : Bs} {G H G0 H0 : Hp} {σ : St} {env e0 : Ev} {vs : List Nat} (f : Fr K b G H (L2.wipe σ vs) env) (f0 : Fr K b G0 H0 σ e0) (s : Sub G0 G) : Fr K b G H σ (restE e0 vs env) where
  sub := f.sub
  base := f.base
  sub0 := f.sub0
  low := f.low
  celH := f.celH
  len := by rw [restE_len, f.len, wipe_length]
  slot := fun i t hs => by
    have hl : i < σ.length := by
      have := (List.getElem?_eq_some_iff.mp hs).1
      rw [restE_len, f.len, wipe_length] at this
      exact this
    rcases restE_get hs with ⟨h1, h2⟩ | ⟨h1, h2⟩
    · subst h2
      cases he : e0[i]? with
      | none => exact ⟨_, List.getElem?_eq_getElem hl, trivial⟩
      | some u =>
        obtain ⟨v, e, q⟩ := f0.slot i u he
        cases u with
        | dat d => obtain ⟨x, e2, hd⟩ := q; exact ⟨v, e, x, e2, hd.mono s⟩
        | scr n => obtain ⟨c, e2, hd⟩ := q; exact ⟨v, e, c, e2, s.seq hd⟩
        | un => exact ⟨v, e, trivial⟩
        | own ds => exact ⟨v, e, trivial⟩
        | cel ds => exact ⟨v, e, trivial⟩
        | dic ds => exact ⟨v, e, trivial⟩
        | nst ds => exact ⟨v, e, trivial⟩
    · obtain ⟨v, e, q⟩ := f.slot i t h2
      exact ⟨v, by rw [wipe_off h1] at e; exact e, q⟩
  inj := fun i j a hi hj => f.inj i j a (ownI_rest hi) (ownI_rest hj)
  nst := fun i rows a rs h1 h2 h3 => by
    rcases restE_get h1 with ⟨_, z⟩ | ⟨z1, z2⟩
    · exact (keepS_nst z).elim
    · have q := f.nst i rows a rs z2 (by rw [wipe_off z1]; exact h2) h3
      exact ⟨fun ⟨k, hk⟩ => q.1 ⟨k, ownI_rest hk⟩, fun r hr ⟨k, hk⟩ => q.2 r hr ⟨k, ownI_rest hk⟩⟩
/-- an object that no slot owns, that is not frozen and not of the entry is changed -/
theorem Fr.updOff {K : PySem.W.Frag} {b : Bs} {G H : Hp} {σ : St} {env : Ev} {a : Addr} {o : HO} (f : Fr K b G H σ env) (hn : ¬ OwnAt σ env a) (nn : NoNst σ env H a) (hg : G a = none) (h0 : b.H0 a = none) : Fr K b G (upd H a o) σ env where
  sub := fun c x h => by rw [upd_ne (ne_of_none h hg)]; exact f.sub _ _ h
  base := fun c x h n => by rw [upd_ne (ne_of_none h h0)]; exact f.base c x h n
  sub0 := f.sub0
  low := f.low
  celH := fun i c h q => by
    by_cases e : c = a
    · subst e; rw [upd_same] at q; cases q
    · rw [upd_ne e] at q; exact f.celH i c h q
  len := f.len
  slot := fun i s hs => by
    obtain ⟨v, e, q⟩ := f.slot i s hs
    refine ⟨v, e, ?_⟩
    cases s with
    | un => trivial
    | dat d => exact q
    | own ds => obtain ⟨c, us, e2, h1, h2, h3, h4⟩ := q; exact ⟨c, us, e2, by rw [upd_ne (fun z => hn ⟨i, ⟨_, hs, rfl⟩, by rw [e, e2, z]⟩)]; exact h1, h2, h3, h4⟩
    | cel ds => obtain ⟨c, us, e2, h1, h2, h3, h4⟩ := q; exact ⟨c, us, e2, by rw [upd_ne (fun z => hn ⟨i, ⟨_, hs, rfl⟩, by rw [e, e2, z]⟩)]; exact h1, h2, h3, h4⟩
    | scr ns => exact q
    | dic ds => obtain ⟨c, us, e2, h1, h2, h3, h4⟩ := q; exact ⟨c, us, e2, by rw [upd_ne (fun z => hn ⟨i, ⟨_, hs, rfl⟩, by rw [e, e2, z]⟩)]; exact h1, h2, h3, h4⟩
    | nst rows =>
      obtain ⟨c, rs, e2, h1, h2, h3⟩ := q
      obtain ⟨n1, n2⟩ := nn.at hs (by rw [e, e2]) h1
      exact ⟨c, rs, e2, by rw [upd_ne (Ne.symm n1)]; exact h1, h2.keepM (Same.refl _) (fun _ _ _ z => z) fun r hr x z => by rw [upd_ne fun y => n2 (by rw [← y]; exact hr)]; exact z, h3⟩
  inj := f.inj
  nst := fun i rows c rs h1 h2 h3 => by
    obtain ⟨v, e, c', rs', e2, q1, _⟩ := f.slot i _ h1
    rw [h2] at e; cases e; cases e2
    have n := nn.at h1 h2 q1
    rw [upd_ne (Ne.symm n.1)] at h3
    exact f.nst i rows c rs h1 h2 h3
abbrev JTs (X : Cx) (W : WX) (ifs : List Expr) (m : M Bool) : Prop := PTs X ifs (tT X.K W m)
section
variable {X : Cx} {W : WX} {tg a b c e e2 : Expr} {es : List Expr} {ma mb mc : M D} {ml : M (List D)} {mt : M Bool} {ms mn : MS} {st : Stmt} {sts ss : List Stmt} {pos p p2 : Pos}
theorem jts_nil : JTs X W [] (mPure true) := by
  refine ⟨fun pins s σ H Q I h => ?_⟩
  obtain ⟨b, G, env, fr, h⟩ := h
  exact (pts_nil).run pins s σ H Q I (h G H fr .refl)
theorem jts_one (h : JT X W c mt) : JTs X W [c] mt := pts_one h
theorem own_step {K : PySem.W.Frag} {G H : Hp} {σ σ2 : St} {e e1 : Ev} {ks : List Nat} {g : GT} {d : D} (T : TgOk ks g) (hg : g d e = some e1) (s : SameOff ks σ σ2) {a : Addr} (h : OwnAt σ2 e1 a) : OwnAt σ e a := by
  obtain ⟨j, ⟨t, ht, ho⟩, hv⟩ := h
  by_cases hj : j ∈ ks
  · have := isPl_own (T.on d e e1 hg j t hj ht)
    rw [this] at ho; cases ho
  · exact ⟨j, ⟨t, by rw [← T.off d e e1 hg j hj]; exact ht, ho⟩, by rw [← s.2 j hj]; exact hv⟩
theorem nn_step {H : Hp} {σ σ2 : St} {e e1 : Ev} {ks : List Nat} {g : GT} {d : D} (T : TgOk ks g) (hg : g d e = some e1) (s : SameOff ks σ σ2) {x : Addr} (n : NoNst σ e H x) : NoNst σ2 e1 H x := fun i rows h => by
  by_cases hi : i ∈ ks
  · have := T.on d e e1 hg i _ hi h
    cases this
  · rw [T.off d e e1 hg i hi] at h
    obtain ⟨a, rs, h1, h2⟩ := n i rows h
    exact ⟨a, rs, by rw [s.2 i hi]; exact h1, h2⟩
/-- the turn of a comprehension: D, the new list, holds acc -/
structure CInv (K : PySem.W.Frag) (b : Bs) (σ : St) (vs : List Nat) (eW : Ev) (G1 H1 : Hp) (L : Addr) (acc : List D) (G H : Hp) (env : Ev) : Prop where
  fr : Fr K b G H (wipe σ vs) env
  st : Step (wipe σ vs) eW env G1 H1 G H
  at_ : ∃ us, H L = some (.lst us) ∧ DtAll G us acc
  nof : G L = none
theorem comp_read {mi : M (List D)} {vs ks : List Nat} {g : GT} {me : M D} {K : PySem.W.Frag} {b : Bs} {G : Hp} {env : Ev} {σ : St} {H : Hp} {Q : VK} {R : List D → Ev → Prop} {Ee : Str → Ev → Prop}
    (hk : ∀ k ∈ ks, k ∈ vs) (T : TgOk ks g) (fr : Fr K b G H σ env) (h : wpR (mComp mi vs g mt me env) R Ee)
    (hq : ∀ ds e' l G' H', Fr K b G' H' σ e' → Step σ env e' G H G' H' → Fresh b σ env e' G' H H' l ds → R ds e' → Q (.ref l) H') (he : ∀ c e1, Ee c e1 → ∀ G' H', Fr K b G' H' σ e1 → W (clsV K c) none σ H') :
    tLc (tIt K W mi) (tGt K ks g) (tT K WF mt) (tE K WF me) vs σ H Q := by
  refine ⟨b, G, env, fr, (wpR.bind h).mono (fun ds e1 h1 J G1 H1 fr1 st1 F => ?_) he⟩
  intro L hL
  have hL0 : b.H0 L = none := fr1.h0none hL
  -- the end
  cases hc : compL vs g mt me ds [] (wipeE e1 vs) with
  | bad => rw [hc] at h1; exact h1.elim
  | exc c e => rw [hc] at h1; exact h1.elim
  | ok q =>
    obtain ⟨acc0, e0⟩ := q
    rw [hc] at h1
    refine ⟨fun i m H' => m = ds.length - i ∧ i ≤ ds.length ∧ ∃ acc G' env', CInv K b σ vs (wipeE e1 vs) G1 H1 L acc G' H' env' ∧ compL vs g mt me (ds.drop i) acc env' = .ok (acc0, e0), ⟨ds.length, rfl, Nat.zero_le _, [], G1, wipeE e1 vs, ⟨?_, ?_, ⟨[], upd_same, .nil⟩, fr1.sub.free hL⟩, hc⟩, ?_⟩
    · exact (fr1.wipe vs).grow (.laid' fr1.sub hL)
    · exact .grow (.laid' fr1.sub hL)
    rintro i m H2 ⟨rfl, hle, acc, G2, ev, C, hcc⟩
    have sG : Sub G1 H2 := C.st.sub.trans C.fr.sub
    have hLn : H1 L = none := hL
    by_cases hlt : i < ds.length
    · refine .inr ⟨F.go i H2 sG hlt, fun H' => i < ds.length ∧ ∃ acc G' env', CInv K b σ vs (wipeE e1 vs) G1 H1 L acc G' H' env' ∧ compL vs g mt me (ds.drop (i + 1)) acc env' = .ok (acc0, e0), fun H' ⟨_, acc', G', env', C', h'⟩ => ⟨ds.length - (i + 1), by omega, rfl, hlt, acc', G', env', C', h'⟩, fun x H3 y => ?_⟩
      have hd : ds[i]? = some ds[i] := List.getElem?_eq_getElem hlt
      obtain ⟨G3, g3, dx⟩ := F.yld i H2 G2 x H3 C.st.sub C.fr.sub y _ hd
      rw [List.drop_eq_getElem_cons hlt] at hcc
      unfold compL at hcc
      cases hgd : g ds[i] ev with
      | none => rw [hgd] at hcc; cases hcc
      | some e3 =>
        rw [hgd] at hcc
        obtain ⟨us, q1, q2⟩ := C.at_
        have noL : ¬ OwnAt (wipe σ vs) ev L := fun z => (fr1.wipe vs).fresh hLn (C.st.own L z)
        have fr3 := C.fr.grow g3
        have st3 : Step (wipe σ vs) (wipeE e1 vs) ev G1 H1 G3 H3 := C.st.trans (.grow g3)
        have L3 : H3 L = some (.lst us) := g3.keep _ _ q1
        have n3 : G3 L = none := by
          cases q : G3 L with
          | none => rfl
          | some o =>
            rcases g3.new L o q with z | z
            · rw [C.nof] at z; cases z
            · rw [q1] at z; cases z
        refine ⟨b, G3, ev, ds[i], e3, fr3, dx, hgd, fun σ2 fr4 so => ?_⟩
        have ws : wipe σ2 vs = wipe σ vs := (wipe_same so hk).trans wipe_wipe
        refine ⟨ws, ?_⟩
        have no4 : ¬ OwnAt σ2 e3 L := fun z => noL (own_step (K := K) (G := G3) (H := H3) T hgd so z)
        have own4 : ∀ c, OwnAt σ2 e3 c → OwnAt (wipe σ vs) ev c := fun c z => own_step (K := K) (G := G3) (H := H3) T hgd so z
        refine ⟨b, G3, e3, fr4, ?_⟩
        -- a step of the block, seen from its start
        have back : ∀ {ex : Ev} {Gx Hx : Hp}, Step σ2 e3 ex G3 H3 Gx Hx → Step (wipe σ vs) (wipeE e1 vs) (wipeE ex vs) G1 H1 Gx Hx := fun {ex Gx Hx} sx => by
          refine st3.trans ⟨sx.sub, fun c o hc hn => sx.keep c o hc fun z => hn (own4 c z), sx.dom, fun c o hc => ?_, fun c ⟨j, hj⟩ => ?_, fun x n => ws ▸ (sx.nn x (nn_step T hgd so n)).wipe vs⟩
          · rcases sx.new c o hc with z | z | z
            · exact .inl z
            · exact .inr (.inl z)
            · exact .inr (.inr (own4 c z))
          · rw [← ws] at hj
            exact own4 c (sx.own c ⟨j, ownI_wipe hj⟩)
        have keepL : ∀ {ex : Ev} {Gx Hx : Hp}, Step σ2 e3 ex G3 H3 Gx Hx → Hx L = some (.lst us) ∧ Gx L = none ∧ ¬ OwnAt σ2 ex L := fun {ex Gx Hx} sx => by
          refine ⟨sx.keep L _ L3 no4, ?_, fun z => no4 (sx.own L z)⟩
          cases q : Gx L with
          | none => rfl
          | some o =>
            rcases sx.new L o q with z | z | z
            · rw [n3] at z; cases z
            · rw [L3] at z; cases z
            · exact absurd z no4
        simp only at hcc
        cases hm : mt e3 with
        | bad => rw [hm] at hcc; cases hcc
        | exc c e => rw [hm] at hcc; cases hcc
        | ok q =>
          obtain ⟨kb, e4⟩ := q
          rw [hm] at hcc
          intro G4 H4 fr5 st5
          obtain ⟨L4, n4, no5⟩ := keepL st5
          cases kb with
          | false =>
            rw [if_neg Bool.false_ne_true]
            exact ⟨hlt, acc, G4, wipeE e4 vs, ⟨ws ▸ fr5.wipe vs, back st5, ⟨us, L4, q2.mono (g3.sub.trans st5.sub)⟩, n4⟩, hcc⟩
          | true =>
            rw [if_pos rfl]
            refine ⟨b, G4, e4, fr5, ?_⟩
            simp only at hcc
            cases hme : me e4 with
            | bad => rw [hme] at hcc; cases hcc
            | exc c e => rw [hme] at hcc; cases hcc
            | ok q =>
              obtain ⟨y, e5⟩ := q
              rw [hme] at hcc
              intro v G5 H5 fr6 st6 dv
              obtain ⟨L5, n5, no6⟩ := keepL (st5.trans st6)
              have nn6 : NoNst σ2 e5 H5 L := (st5.trans st6).nn L (nn_step T hgd so (st3.nn L ((fr1.wipe vs).noNst hLn)))
              simp only at hcc
              split at hcc
              case isFalse => cases hcc
              rename_i hsz
              have q5 : DtAll G5 us acc := q2.mono (g3.sub.trans (st5.trans st6).sub)
              refine ⟨us, L5, by rw [dpAll_len q2]; exact hsz, hlt, acc ++ [y], G5, wipeE e5 vs, ⟨?_, ?_, ⟨us ++ [v], upd_same, dpAll_app q5 (.cons dv .nil)⟩, n5⟩, hcc⟩
              · exact ws ▸ (fr6.updOff (o := .lst (us ++ [v])) no6 nn6 n5 hL0).wipe vs
              · have sb := back (st5.trans st6)
                refine ⟨sb.sub, fun c o hc hn => ?_, fun c hc q => ?_, sb.new, sb.own, fun x n i rows hi => ?_⟩
                · rw [upd_ne (ne_of_none hc hLn)]; exact sb.keep c o hc hn
                · by_cases e : c = L
                  · subst e; rw [upd_same] at q; cases q
                  · rw [upd_ne e] at q; exact sb.dom c hc q
                · obtain ⟨c, rs, z1, z2, z3⟩ := sb.nn x n i rows hi
                  have nL := ((back (st5.trans st6)).nn L (((fr1.wipe vs).noNst hLn))).at hi z1 z2
                  exact ⟨c, rs, z1, by rw [upd_ne (Ne.symm nL.1)]; exact z2, z3⟩
    · have e : i = ds.length := by omega
      subst e
      rw [List.drop_length] at hcc
      unfold compL at hcc
      cases hcc
      refine .inl ⟨F.stop _ H2 sG (Nat.le_refl _), ?_⟩
      have h1' : R acc0 (restE e1 vs e0) := h1
      obtain ⟨us, q1, q2⟩ := C.at_
      have fr9 : Fr K b G2 H2 σ (restE e1 vs e0) := C.fr.rest fr1 C.st.sub
      have ownR : ∀ c, OwnAt σ (restE e1 vs e0) c → OwnAt σ e1 c := fun c ⟨j, hj⟩ => by
        obtain ⟨j2, hj2⟩ := C.st.own c ⟨j, ownI_rest hj⟩
        exact ⟨j2, ownI_wipe hj2⟩
      have st9 : Step σ e1 (restE e1 vs e0) G1 H1 G2 H2 := by
        refine ⟨C.st.sub, fun c o hc hn => C.st.keep c o hc fun ⟨j, hj⟩ => hn ⟨j, ownI_wipe hj⟩, C.st.dom, fun c o hc => ?_, ownR, fun x n => (C.st.nn x (n.wipe vs)).rest⟩
        rcases C.st.new c o hc with z | z | ⟨j, hj⟩
        · exact .inl z
        · exact .inr (.inl z)
        · exact .inr (.inr ⟨j, ownI_wipe hj⟩)
      refine hq acc0 _ L G2 H2 fr9 (st1.trans st9) ⟨⟨us, q1, q2⟩, C.nof, fun z => fr1.fresh hLn (ownR L z), hL0, .inl ?_, st9.nn L (fr1.noNst hLn)⟩ h1'
      cases q : H L with
      | none => rfl
      | some o => exact absurd hLn (st1.dom L (by rw [q]; intro z; cases z))
theorem jo_comp {iter elt : Expr} {ifs : List Expr} {scope : Scope} {own : List (Str × Nat)} {mi : M (List D)} {ks : List Nat} {g : GT} {me : M D} (hc : X.calm = true) (hN : X.N.Nodup) (hi : JI X W tg iter mi) (ok : BlkOk X.N X.env.scope scope own)
    (hg : ∀ (s : Shared) (H : Hp) (C : Addr) (cl : List (Str × Addr)) (fp : List Addr), JG (X.blk s H scope (compEnvC scope cl C X.env) fp) tg ks g) (ht : ∀ (s : Shared) (H : Hp) (C : Addr) (cl : List (Str × Addr)) (fp : List Addr), JTs (X.blk s H scope (compEnvC scope cl C X.env) fp) WF ifs mt)
    (hel : ∀ (s : Shared) (H : Hp) (C : Addr) (cl : List (Str × Addr)) (fp : List Addr), JE (X.blk s H scope (compEnvC scope cl C X.env) fp) WF elt me) (hk : ∀ k ∈ ks, k ∈ own.map (·.2)) (T : TgOk ks g)
    (hs : ∀ x, foldedSetIterable iter X.env x = pure x := by intro _; rfl) :
    JO X W (.ListComp elt [⟨tg, iter, ifs, 0⟩] scope pos) (mComp mi (own.map (·.2)) g mt me) := by
  refine PE.imp (pe_lc (te := tE X.K WF me) (tt := tT X.K WF mt) (g := tGt X.K ks g) hc hN hi ok hg ht hel hs) fun σ H Q h => ?_
  obtain ⟨b, G, env, fr, h⟩ := h
  exact comp_read hk T fr h (fun ds e' l G' H' f s fs r => r l G' H' f s fs) (fun c e he => he)
/-- name = [..] on one line, the name a plain local -/
theorem js_setComp (i : Nat) {y : Str} {py spos : Pos} {iter elt : Expr} {ifs : List Expr} {scope : Scope} {own : List (Str × Nat)} {mi : M (List D)} {ks : List Nat} {g : GT} {me : M D} (hc : X.calm = true) (hN : X.N.Nodup) (hyl : X.env.scope.names.lookup y = some .local)
    (hsw : swapsWith (.ListComp elt [⟨tg, iter, ifs, 0⟩] scope pos) (some (.Name y py)) spos.line X.env = pure true) (hi : JI X W tg iter mi) (ok : BlkOk X.N X.env.scope scope own)
    (hg : ∀ (s : Shared) (H : Hp) (C : Addr) (cl : List (Str × Addr)) (fp : List Addr), JG (X.blk s H scope (compEnvC scope cl C X.env) fp) tg ks g) (ht : ∀ (s : Shared) (H : Hp) (C : Addr) (cl : List (Str × Addr)) (fp : List Addr), JTs (X.blk s H scope (compEnvC scope cl C X.env) fp) WF ifs mt)
    (hel : ∀ (s : Shared) (H : Hp) (C : Addr) (cl : List (Str × Addr)) (fp : List Addr), JE (X.blk s H scope (compEnvC scope cl C X.env) fp) WF elt me) (hk : ∀ k ∈ ks, k ∈ own.map (·.2)) (T : TgOk ks g)
    (hy : X.N[i]? = some y := by rfl) (hs : ∀ x, foldedSetIterable iter X.env x = pure x := by intro _; rfl) :
    JS X W (.Assign [.Name y py] (.ListComp elt [⟨tg, iter, ifs, 0⟩] scope pos) spos) (mSetO i (mComp mi (own.map (·.2)) g mt me)) := by
  refine PS.imp (ps_setLc (te := tE X.K WF me) (tt := tT X.K WF mt) (g := tGt X.K ks g) hc hN hy hyl hsw hi ok hg ht hel hs) fun σ H D h => ?_
  obtain ⟨b, G, env, fr, h⟩ := h
  refine comp_read (Q := fun x H1 => gName i x σ H1 D.nx) hk T fr (wpR.bind h) (fun ds e' l G' H' f s fs r => ?_) (fun c e he G' H' fr' => he σ G' H' fr')
  obtain ⟨e2, h2, q⟩ := wpR.store r
  obtain ⟨hl, rfl⟩ := putSl_some h2
  obtain ⟨vs, q1, q2⟩ := fs.at_
  exact q _ G' H' (f.setOwn q1 q2 fs.nofrz fs.h0 fs.noown fs.nn hl) s.sub
end
end DL

namespace DL
open PySem PySem.Spec PyProof.Rows L2

/-! ## defs -/
abbrev FR (α : Type) := Res Unit α
/-- a def on data -/
abbrev Fn := List D → FR D
/-- a def that changes the list that comes first -/
abbrev FnC := List D → List D → Res (List D) (D × List D)
def liftF {α : Type} (r : FR α) : M α := fun e => match r with
  | .ok d => .ok (d, e)
  | .exc c _ => .exc c e
  | .bad => .bad
def mF (f : Fn) (ml : M (List D)) : M D := mBind ml fun ds => liftF (f ds)
def mFO (f : List D → FR (List D)) (ml : M (List D)) : M (List D) := mBind ml fun ds => liftF (f ds)
/-- slot i is handed on; it may be changed -/
def mFC (i : Nat) (f : FnC) (ml : M (List D)) : M D := fun env => if isOwnAt env i = true then mBind ml (fun ds e => match e[i]? with
  | some s => (match cont s with
    | some ds0 => (match f ds0 ds with
      | .ok (d, ds1) => .ok (d, e.set i (reSl s ds1))
      | .exc c ds1 => .exc c (e.set i (reSl s ds1))
      | .bad => .bad)
    | none => .bad)
  | none => .bad) env else .bad
def spF (K : PySem.W.Frag) (n : Nat) (f : Fn) : Sp := fun vs H Q E => vs.length = n ∧ ∃ G ds, Sub G H ∧ DtAll G vs ds ∧ match f ds with
  | .ok d => ∀ v G' H', Grow G H G' H' → Dt G' v d → Q v H'
  | .exc c _ => ∀ G' H', Grow G H G' H' → E (clsV K c) none H'
  | .bad => False
def spO (K : PySem.W.Frag) (n : Nat) (f : List D → FR (List D)) : Sp := fun vs H Q E => vs.length = n ∧ ∃ G ds, Sub G H ∧ DtAll G vs ds ∧ match f ds with
  | .ok d => ∀ a us G' H', Grow G H G' H' → H' a = some (.lst us) → DtAll G' us d → G' a = none → H a = none → Q (.ref a) H'
  | .exc c _ => ∀ G' H', Grow G H G' H' → E (clsV K c) none H'
  | .bad => False
def spC (K : PySem.W.Frag) (n : Nat) (f : FnC) : Sp := fun vs H Q E => vs.length = n ∧ ∃ G a vs0 ds0 us ds, vs = .ref a :: us ∧ Sub G H ∧ G a = none ∧ H a = some (.lst vs0) ∧ DtAll G vs0 ds0 ∧ DtAll G us ds ∧ match f ds0 ds with
  | .ok (d, ds1) => ∀ v G' H' vs1, GrowC a G H G' H' → H' a = some (.lst vs1) → DtAll G' vs1 ds1 → Dt G' v d → Q v H'
  | .exc c ds1 => ∀ G' H' vs1, GrowC a G H G' H' → H' a = some (.lst vs1) → DtAll G' vs1 ds1 → E (clsV K c) none H'
  | .bad => False
/-- the script comes first, a new list is given back -/
def spS (K : PySem.W.Frag) (n : Nat) (f : List Int → List D → FR (List D)) : Sp := fun vs H Q E => vs.length = n ∧ ∃ G a ns us ds, vs = .ref a :: us ∧ Sub G H ∧ SqL K G a (ns.map V.int) ∧ DtAll G us ds ∧ match f ns ds with
  | .ok d => ∀ a us G' H', Grow G H G' H' → H' a = some (.lst us) → DtAll G' us d → G' a = none → H a = none → Q (.ref a) H'
  | .exc c _ => ∀ G' H', Grow G H G' H' → E (clsV K c) none H'
  | .bad => False
/-- the frame at a def's entry -/
def envOf (n : Nat) (ss : List Sl) : Ev := ss ++ List.replicate (n - ss.length) .un
def retD (r : Res Ev (Fl × Ev)) : FR D := match r with
  | .ok (.rt d, _) => .ok d
  | .ok (.ro ds, _) => .ok (.list ds)
  | .ok (.nx, _) => .ok .none
  | .exc c _ => .exc c ()
  | _ => .bad
def retO (r : Res Ev (Fl × Ev)) : FR (List D) := match r with
  | .ok (.ro ds, _) => .ok ds
  | .exc c _ => .exc c ()
  | _ => .bad
def celAt (e : Ev) : Option (List D) := match e with
  | .cel ds :: _ => some ds
  | _ => none
def retC (r : Res Ev (Fl × Ev)) : Res (List D) (D × List D) := match r with
  | .ok (.rt d, e) => (match celAt e with | some ds => .ok (d, ds) | none => .bad)
  | .ok (.ro ls, e) => (match celAt e with | some ds => .ok (.list ls, ds) | none => .bad)
  | .ok (.nx, e) => (match celAt e with | some ds => .ok (.none, ds) | none => .bad)
  | .exc c e => (match celAt e with | some ds => .exc c ds | none => .bad)
  | _ => .bad
def runF (n : Nat) (m : MS) : Fn := fun ds => retD (m (envOf n (ds.map .dat)))
def runO (n : Nat) (m : MS) : List D → FR (List D) := fun ds => retO (m (envOf n (ds.map .dat)))
def runC (n : Nat) (m : MS) : FnC := fun ds0 ds => retC (m (envOf n (.cel ds0 :: ds.map .dat)))
def runS (n : Nat) (m : MS) : List Int → List D → FR (List D) := fun ns ds => retO (m (envOf n (.scr ns :: ds.map .dat)))

section
variable {X : Cx} {W : WX} {e : Expr} {es : List Expr} {ml : M (List D)} {pos p px : Pos} {k n : Nat} {f : Addr} {fd : FuncData} {ps : List Str} {x y : Str}
theorem fF_wp {α : Type} {r : FR α} {env : Ev} {Q : α → Ev → Prop} {E : Str → Ev → Prop} (h : wpR (liftF r env) Q E) : (∃ d, r = .ok d ∧ Q d env) ∨ (∃ c u, r = .exc c u ∧ E c env) := by
  cases r with
  | ok d => exact .inl ⟨d, rfl, h⟩
  | exc c u => exact .inr ⟨c, u, rfl, h⟩
  | bad => exact h.elim
theorem je_fn {fm : Fn} (F : FnOk X.prog X.w X.K X.mg X.base (L2.CX X.prog X.w) k f fd ps (spF X.K n fm)) (hr : Room k X.A) (hg : Gl X x) (hm : X.mg x = some (.ref f)) (hk : PySem.W.keepIn X.K (.ref f) = true) (hb : Binds X.K fd ps []) (tk : Takes X W)
    (ha : JL X W (e :: es) ml) (hn : (e :: es).length = n := by rfl) (hdb : (x == ("__debug__" : Str)) = false := by decide) (he : starEach (e :: es) X.env = (false, eval e X.env) :: starEach es X.env := by rfl) (hpl : (backTo pos (starEach es X.env)).any (·.1) = false := by rfl)
    (hlen : ∀ env ds env', ml env = .ok (ds, env') → ds.length = n) :
    JE X W (.Call (.Name x p) (e :: es) [] pos) (mF fm ml) := by
  refine PE.imp (pe_callS F hr hg hm hk hb (fun σ => passAt tk σ) ha hdb he hpl) fun σ H Q h => ?_
  obtain ⟨b, G, env, fr, h⟩ := h
  have hw := wpR.bind h
  refine ⟨b, G, env, fr, ?_⟩
  cases hml : ml env with
  | bad => rw [hml] at hw; exact hw
  | exc c e => rw [hml] at hw; exact hw
  | ok q =>
    obtain ⟨ds, e1⟩ := q
    rw [hml] at hw
    intro vs G1 H1 fr1 st1 dp1
    have hl := hlen env ds e1 hml
    rcases fF_wp (r := fm ds) (env := e1) hw with ⟨d, hf, q⟩ | ⟨c, u, hf, q⟩
    · refine ⟨by rw [dpAll_len dp1]; exact hl, G1, ds, fr1.sub, dp1, ?_⟩
      rw [hf]
      exact fun v G' H' g dv => q v G' H' (fr1.grow g) (st1.trans (.grow g)) dv
    · refine ⟨by rw [dpAll_len dp1]; exact hl, G1, ds, fr1.sub, dp1, ?_⟩
      rw [hf]
      exact fun G' H' g => q G' H' (fr1.grow g)
theorem jo_fn {fm : List D → FR (List D)} (F : FnOk X.prog X.w X.K X.mg X.base (L2.CX X.prog X.w) k f fd ps (spO X.K n fm)) (hr : Room k X.A) (hg : Gl X x) (hm : X.mg x = some (.ref f)) (hk : PySem.W.keepIn X.K (.ref f) = true) (hb : Binds X.K fd ps []) (tk : Takes X W)
    (ha : JL X W (e :: es) ml) (hn : (e :: es).length = n := by rfl) (hdb : (x == ("__debug__" : Str)) = false := by decide) (he : starEach (e :: es) X.env = (false, eval e X.env) :: starEach es X.env := by rfl) (hpl : (backTo pos (starEach es X.env)).any (·.1) = false := by rfl)
    (hlen : ∀ env ds env', ml env = .ok (ds, env') → ds.length = n) :
    JO X W (.Call (.Name x p) (e :: es) [] pos) (mFO fm ml) := by
  refine PE.imp (pe_callS F hr hg hm hk hb (fun σ => passAt tk σ) ha hdb he hpl) fun σ H Q h => ?_
  obtain ⟨b, G, env, fr, h⟩ := h
  have hw := wpR.bind h
  refine ⟨b, G, env, fr, ?_⟩
  cases hml : ml env with
  | bad => rw [hml] at hw; exact hw
  | exc c e => rw [hml] at hw; exact hw
  | ok q =>
    obtain ⟨ds, e1⟩ := q
    rw [hml] at hw
    intro vs G1 H1 fr1 st1 dp1
    have hl := hlen env ds e1 hml
    rcases fF_wp (r := fm ds) (env := e1) hw with ⟨d, hf, q⟩ | ⟨c, u, hf, q⟩
    · refine ⟨by rw [dpAll_len dp1]; exact hl, G1, ds, fr1.sub, dp1, ?_⟩
      rw [hf]
      exact fun l us G' H' g h1 h2 h3 h4 => q l G' H' (fr1.grow g) (st1.trans (.grow g)) (fresh_of fr1 st1 g h4 h3 h1 h2)
    · refine ⟨by rw [dpAll_len dp1]; exact hl, G1, ds, fr1.sub, dp1, ?_⟩
      rw [hf]
      exact fun G' H' g => q G' H' (fr1.grow g)
theorem len_nil : ∀ env ds env', mNil env = .ok (ds, env') → ds.length = 0 := fun env ds env' h => by
  have : (Res.ok (([] : List D), env) : Res Ev (List D × Ev)) = .ok (ds, env') := h
  cases this; rfl
theorem len_cons {ma : M D} {mr : M (List D)} {n : Nat} (hl : ∀ env ds env', mr env = .ok (ds, env') → ds.length = n) : ∀ env ds env', mCons ma mr env = .ok (ds, env') → ds.length = n + 1 := fun env ds env' h => by
  have h2 : bindR (ma env) (fun x => mBind mr fun xs => mPure (x :: xs)) = .ok (ds, env') := h
  cases ha : ma env with
  | bad => rw [ha] at h2; cases h2
  | exc c e => rw [ha] at h2; cases h2
  | ok q =>
    obtain ⟨x, e1⟩ := q
    rw [ha] at h2
    have h3 : bindR (mr e1) (fun xs => mPure (x :: xs)) = .ok (ds, env') := h2
    cases hb : mr e1 with
    | bad => rw [hb] at h3; cases h3
    | exc c e => rw [hb] at h3; cases h3
    | ok q =>
      obtain ⟨xs, e2⟩ := q
      rw [hb] at h3
      have h4 : (Res.ok (x :: xs, e2) : Res Ev (List D × Ev)) = .ok (ds, env') := h3
      cases h4
      exact congrArg Nat.succ (hl e1 xs _ hb)
/-- a def that changes the list at slot i -/
theorem je_fnC (i : Nat) {fm : FnC} (F : FnOk X.prog X.w X.K X.mg X.base (L2.CX X.prog X.w) k f fd ps (spC X.K (n + 1) fm)) (hr : Room k X.A) (hg : Gl X x) (hm : X.mg x = some (.ref f)) (hk : PySem.W.keepIn X.K (.ref f) = true) (hb : Binds X.K fd ps []) (tk : Takes X W)
    (ha : JL X W es ml) (hlen : ∀ env ds env', ml env = .ok (ds, env') → ds.length = n)
    (hN : X.N[i]? = some y := by rfl) (hv : Vis X.env.scope y := by first | exact Or.inl rfl | exact Or.inr (Or.inl rfl) | exact Or.inr (Or.inr rfl)) (hd : (y == ("__debug__" : Str)) = false := by decide)
    (hcd : (y == ("__classdict__" : Str)) = false := by decide) (hdb : (x == ("__debug__" : Str)) = false := by decide) (he : starEach ((Expr.Name y px) :: es) X.env = (false, eval (Expr.Name y px) X.env) :: starEach es X.env := by rfl) (hpl : (backTo pos (starEach es X.env)).any (·.1) = false := by rfl) :
    JE X W (.Call (.Name x p) ((.Name y px) :: es) [] pos) (mFC i fm ml) := by
  refine PE.imp (pe_callS F hr hg hm hk hb (fun σ => passAt tk σ) (pa_cons (pe_var hN hv hd hcd) ha he) hdb he hpl) fun σ H Q h => ?_
  obtain ⟨b, G, env, fr, h⟩ := h
  unfold mFC at h
  split at h
  case isFalse => exact h.elim
  rename_i ho
  obtain ⟨a, vs0, o1, _⟩ := isOwnAt_holds fr ho
  refine ⟨_, o1.2, ?_⟩
  have hw := wpR.bind h
  refine ⟨b, G, env, fr, ?_⟩
  cases hml : ml env with
  | bad => rw [hml] at hw; exact hw
  | exc c e => rw [hml] at hw; exact hw
  | ok q =>
    obtain ⟨ds, e1⟩ := q
    rw [hml] at hw
    intro vs G1 H1 fr1 st1 dp1
    have hl := hlen env ds e1 hml
    cases hs : e1[i]? with
    | none => simp only [wpR, hs] at hw
    | some s =>
      cases hc : cont s with
      | none => simp only [wpR, hs, hc] at hw
      | some ds0 =>
        obtain ⟨a1, us0, o2, q1, q2, q3⟩ := fr1.holds hs hc
        have ea := OwnI.uniq o2 o1
        subst ea
        refine ⟨by rw [List.length_cons, dpAll_len dp1, hl], G1, a1, us0, ds0, vs, ds, rfl, fr1.sub, q3, q1, q2, dp1, ?_⟩
        cases hf : fm ds0 ds with
        | bad => simp only [wpR, hs, hc, hf] at hw
        | ok r =>
          obtain ⟨d, ds1⟩ := r
          simp only [wpR, hs, hc, hf] at hw
          intro v G' H' vs1 g h1 h2 dv
          obtain ⟨fr2, st2⟩ := fr1.change hs hc o2 g h1 h2
          exact hw v G' H' fr2 (st1.trans st2) dv
        | exc c ds1 =>
          simp only [wpR, hs, hc, hf] at hw
          intro G' H' vs1 g h1 h2
          obtain ⟨fr2, st2⟩ := fr1.change hs hc o2 g h1 h2
          exact hw G' H' fr2
/-- a def on the script -/
def mFS (i : Nat) (fm : List Int → List D → FR (List D)) (ml : M (List D)) : M (List D) := fun env => match env[i]? with
  | some (.scr ns) => mBind ml (fun ds e => match e[i]? with
    | some (.scr ns) => (match fm ns ds with
      | .ok d => .ok (d, e)
      | .exc c _ => .exc c e
      | .bad => .bad)
    | _ => .bad) env
  | _ => .bad
theorem jo_fnS (i : Nat) {fm : List Int → List D → FR (List D)} (F : FnOk X.prog X.w X.K X.mg X.base (L2.CX X.prog X.w) k f fd ps (spS X.K (n + 1) fm)) (hr : Room k X.A) (hg : Gl X x) (hm : X.mg x = some (.ref f)) (hk : PySem.W.keepIn X.K (.ref f) = true) (hb : Binds X.K fd ps []) (tk : Takes X W)
    (ha : JL X W es ml) (hlen : ∀ env ds env', ml env = .ok (ds, env') → ds.length = n)
    (hN : X.N[i]? = some y := by rfl) (hv : Vis X.env.scope y := by first | exact Or.inl rfl | exact Or.inr (Or.inl rfl) | exact Or.inr (Or.inr rfl)) (hd : (y == ("__debug__" : Str)) = false := by decide)
    (hcd : (y == ("__classdict__" : Str)) = false := by decide) (hdb : (x == ("__debug__" : Str)) = false := by decide) (he : starEach ((Expr.Name y px) :: es) X.env = (false, eval (Expr.Name y px) X.env) :: starEach es X.env := by rfl) (hpl : (backTo pos (starEach es X.env)).any (·.1) = false := by rfl) :
    JO X W (.Call (.Name x p) ((.Name y px) :: es) [] pos) (mFS i fm ml) := by
  refine PE.imp (pe_callS F hr hg hm hk hb (fun σ => passAt tk σ) (pa_cons (pe_var hN hv hd hcd) ha he) hdb he hpl) fun σ H Q h => ?_
  obtain ⟨b, G, env, fr, h⟩ := h
  unfold mFS at h
  cases hi : env[i]? with
  | none => rw [hi] at h; exact h.elim
  | some s =>
    rw [hi] at h
    cases s with
    | scr ns =>
      obtain ⟨v, ev, a, e2, _⟩ := fr.slot i _ hi
      subst e2
      refine ⟨_, ev, ?_⟩
      have hw := wpR.bind h
      refine ⟨b, G, env, fr, ?_⟩
      cases hml : ml env with
      | bad => rw [hml] at hw; exact hw
      | exc c e => rw [hml] at hw; exact hw
      | ok q =>
        obtain ⟨ds, e1⟩ := q
        rw [hml] at hw
        intro vs G1 H1 fr1 st1 dp1
        have hl := hlen env ds e1 hml
        cases hs : e1[i]? with
        | none => simp only [wpR, hs] at hw
        | some s =>
          cases s with
          | scr ns' =>
            obtain ⟨v', ev', a', e2', hq⟩ := fr1.slot i _ hs
            subst e2'
            rw [ev] at ev'
            cases ev'
            refine ⟨by rw [List.length_cons, dpAll_len dp1, hl], G1, a, ns', vs, ds, rfl, fr1.sub, hq, dp1, ?_⟩
            cases hf : fm ns' ds with
            | bad => simp only [wpR, hs, hf] at hw
            | ok r =>
              simp only [wpR, hs, hf] at hw
              exact fun l us G' H' g h1 h2 h3 h4 => hw l G' H' (fr1.grow g) (st1.trans (.grow g)) (fresh_of fr1 st1 g h4 h3 h1 h2)
            | exc c u =>
              simp only [wpR, hs, hf] at hw
              exact fun G' H' g => hw G' H' (fr1.grow g)
          | _ => simp only [wpR, hs] at hw
    | _ => exact h.elim
/-- raise X('..') -/
theorem js_raise {C : Addr} {m : Str} {j : Nat} {p2 : Pos} (hc : X.calm = true) (tk : Takes X W) (q : PySem.W.excIn X.K C He.veBase "ValueError.__new__" = true) (gC : X.mg x = some (.ref C)) (kC : PySem.W.keepIn X.K (.ref C) = true) (r : Raises X (.ref C)) (hC : C = He.ga X.K x) (hg : Gl X x)
    (hdb : (x == ("__debug__" : Str)) = false := by decide) : JS X W (.Raise (some (.Call (.Name x p) [.Constant (.str m) j p2] [] px)) none pos) (mRaise x) := by
  subst hC
  refine PS.imp (ps_raise hc tk (pmk_own PySem.F.excBase_ValueError q gC kC r hg hdb)) fun σ H D h => ?_
  obtain ⟨b, G, env, fr, h⟩ := h
  exact h σ G H fr
end

/-! ### a def keeps its promise -/
theorem start_len {N : List Str} {vs : List V} (h : vs.length ≤ N.length) : (L2.start N vs).length = N.length := by
  unfold L2.start
  rw [List.length_append, List.length_map, List.length_replicate]
  omega
theorem start_get {N : List Str} {vs : List V} {i : Nat} {v : V} (h : vs[i]? = some v) : (L2.start N vs)[i]? = some (some v) := by
  unfold L2.start
  have hl := (List.getElem?_eq_some_iff.mp h).1
  rw [List.getElem?_append_left (by simpa using hl), List.getElem?_map, h]
  rfl
/-- at the entry a list of slots stands for the values -/
structure Starts (K : PySem.W.Frag) (b : Bs) (G H : Hp) (vs : List V) (ss : List Sl) : Prop where
  len : vs.length = ss.length
  ok : ∀ (i : Nat) (s : Sl), ss[i]? = some s → ∃ v, vs[i]? = some v ∧ SlOk K b G H i (some v) s
  inj : ∀ (i j : Nat) (s t : Sl) (a : Addr), ss[i]? = some s → ss[j]? = some t → isOwn s = true → isOwn t = true → vs[i]? = some (V.ref a) → vs[j]? = some (V.ref a) → i = j
theorem fr_start {K : PySem.W.Frag} {b : Bs} {H : Hp} {N : List Str} {vs : List V} {ss : List Sl} (s : Sub b.G0 b.H0) (hH : b.H0 = H) (st : Starts K b b.G0 H vs ss) (hl : ss.length ≤ N.length) (hc : ∀ i a, b.ca i = some a → H a ≠ none) : Fr K b b.G0 H (L2.start N vs) (envOf N.length ss) where
  sub := hH ▸ s
  base := fun a o h _ => hH ▸ h
  sub0 := Same.refl _
  low := fun a o h => .inl h
  celH := hc
  len := by
    unfold envOf
    rw [start_len (by rw [st.len]; exact hl), List.length_append, List.length_replicate]
    omega
  slot := fun i s hs => by
    unfold envOf at hs
    by_cases hi : i < ss.length
    · rw [List.getElem?_append_left hi] at hs
      obtain ⟨v, hv, q⟩ := st.ok i s hs
      exact ⟨_, start_get hv, q⟩
    · rw [List.getElem?_append_right (by omega)] at hs
      have hs2 := hs
      rw [List.getElem?_replicate] at hs2
      split at hs2
      · cases hs2
        have hil : i < (L2.start N vs).length := by
          rw [start_len (by rw [st.len]; exact hl)]
          omega
        exact ⟨_, List.getElem?_eq_getElem hil, trivial⟩
      · cases hs2
  inj := fun i j a ⟨⟨s, hs, ho⟩, hv⟩ ⟨⟨t, ht, hto⟩, hw⟩ => by
    have key : ∀ {i : Nat} {s : Sl}, (envOf N.length ss)[i]? = some s → isOwn s = true → ss[i]? = some s := fun {i s} h ho => by
      unfold envOf at h
      by_cases hi : i < ss.length
      · rw [List.getElem?_append_left hi] at h; exact h
      · rw [List.getElem?_append_right (by omega), List.getElem?_replicate] at h
        split at h
        · cases h; cases ho
        · cases h
    have e1 := key hs ho
    have e2 := key ht hto
    obtain ⟨v, hv2, _⟩ := st.ok i s e1
    obtain ⟨w, hw2, _⟩ := st.ok j t e2
    have a1 := (start_get (N := N) hv2).symm.trans hv
    have a2 := (start_get (N := N) hw2).symm.trans hw
    cases a1; cases a2
    exact st.inj i j s t a e1 e2 ho hto hv2 hw2
  nst := fun i rows a rs h1 h2 h3 => by
    unfold envOf at h1
    by_cases hi : i < ss.length
    · rw [List.getElem?_append_left hi] at h1
      obtain ⟨v, hv, a', rs', e, q1, _, _, q2, _⟩ := st.ok i _ h1
      rw [hH, q1] at q2
      cases q2
    · rw [List.getElem?_append_right (by omega), List.getElem?_replicate] at h1
      split at h1 <;> cases h1
section
variable {P : Program} {w : World} {K : PySem.W.Frag} {mg : Str → Option Value} {base : Heap} {x qual : Str} {params : Arguments} {body : List Stmt} {scope : Scope} {f : Addr} {fd : FuncData} {N ps : List Str} {k : Nat} {m : MS}
/-- the body, at every entry -/
def Body (P : Program) (w : World) (K : PySem.W.Frag) (mg : Str → Option Value) (base : Heap) (N : List Str) (qual : Str) (scope : Scope) (f : Addr) (k : Nat) (body : List Stmt) (m : MS) : Prop :=
  ∀ (cdv : Value) (A : Around) (outer : List Env) (s : Shared) (H : Hp) (E : XK), Room k (A.deeper (envOfC qual scope s.heap.objs.size f cdv)) →
    JSs (cxOf (L2.CX P w) P w K mg base N qual scope f cdv A outer s H E) (fun cls d _ H => E cls d H) body m
theorem sl_dat {G : Hp} {vs : List V} {ds : List D} {b : Bs} {H : Hp} (h : DtAll G vs ds) : Starts K b G H vs (ds.map .dat) where
  len := by rw [List.length_map]; exact dpAll_len h
  ok := fun i s hs => by
    rw [List.getElem?_map] at hs
    cases hd : ds[i]? with
    | none => rw [hd] at hs; cases hs
    | some d =>
      rw [hd] at hs
      cases hs
      obtain ⟨v, hv, dv⟩ := dpAll_get h hd
      exact ⟨v, hv, v, rfl, dv⟩
  inj := fun i j s t a hs _ ho _ _ _ => by
    rw [List.getElem?_map] at hs
    cases hd : ds[i]? with
    | none => rw [hd] at hs; cases hs
    | some d => rw [hd] at hs; cases hs; cases ho
theorem Fr.out {b : Bs} {G H : Hp} {σ : St} {env : Ev} (fr : Fr K b G H σ env) (hc : ∀ i, b.ca i = none) : Grow b.G0 b.H0 G H :=
  ⟨fr.sub0, fr.sub, fun a o h => fr.base a o h (fun i z => by rw [hc i] at z; cases z), fr.low⟩
theorem fn_pure (F : FunD K x qual params body scope [] [] f fd) (S : FnScope N ps scope) (hl : ps.length ≤ N.length) (hb : Body P w K mg base N qual scope f k body m) : FnOk P w K mg base (L2.CX P w) (k + 1) f fd ps (spF K ps.length (runF N.length m)) := by
  refine F.ok S (fun vs H Q E h => h.1) (fun cdv A outer s H vs Q E hr h => ⟨_, hb cdv A outer s H E hr, ?_⟩)
  obtain ⟨hn, G, ds, s1, dp, h⟩ := h
  refine ⟨⟨H, G, fun _ => none⟩, G, envOf N.length (ds.map .dat), fr_start s1 rfl (sl_dat dp) (by rw [List.length_map, ← dpAll_len dp, hn]; exact hl) (fun i a h => by cases h), ?_⟩
  unfold runF at h
  cases hm : m (envOf N.length (ds.map .dat)) with
  | bad => rw [hm] at h; exact h
  | exc c e => rw [hm] at h; exact fun σ' G' H' fr => h G' H' (fr.out fun _ => rfl)
  | ok q =>
    obtain ⟨fl, e⟩ := q
    rw [hm] at h
    cases fl with
    | nx => exact fun σ' G' H' fr _ => h .non G' H' (fr.out fun _ => rfl) .non
    | bk => exact h.elim
    | ct => exact h.elim
    | rt d => exact fun v σ' G' H' fr dv => h v G' H' (fr.out fun _ => rfl) dv
    | ro ds =>
        intro a vs σ' G' H' fr h1 h2 h3 h4
        have g := fr.out fun _ => rfl
        refine h (.ref a) (upd G' a (.lst vs)) H' ⟨g.sub.trans (sub_upd h3), fun c o hc => ?_, g.keep, fun c o hc => ?_⟩ (.lst (.inl upd_same) (h2.mono (sub_upd h3)))
        · by_cases e : c = a
          · subst e; rw [upd_same] at hc; rw [← hc]; exact h1
          · rw [upd_ne e] at hc; exact g.in' _ _ hc
        · by_cases e : c = a
          · subst e; exact .inr h4
          · rw [upd_ne e] at hc; exact g.new _ _ hc
theorem fn_own (F : FunD K x qual params body scope [] [] f fd) (S : FnScope N ps scope) (hl : ps.length ≤ N.length) (hb : Body P w K mg base N qual scope f k body m) : FnOk P w K mg base (L2.CX P w) (k + 1) f fd ps (spO K ps.length (runO N.length m)) := by
  refine F.ok S (fun vs H Q E h => h.1) (fun cdv A outer s H vs Q E hr h => ⟨_, hb cdv A outer s H E hr, ?_⟩)
  obtain ⟨hn, G, ds, s1, dp, h⟩ := h
  refine ⟨⟨H, G, fun _ => none⟩, G, envOf N.length (ds.map .dat), fr_start s1 rfl (sl_dat dp) (by rw [List.length_map, ← dpAll_len dp, hn]; exact hl) (fun i a h => by cases h), ?_⟩
  unfold runO at h
  cases hm : m (envOf N.length (ds.map .dat)) with
  | bad => rw [hm] at h; exact h
  | exc c e => rw [hm] at h; exact fun σ' G' H' fr => h G' H' (fr.out fun _ => rfl)
  | ok q =>
    obtain ⟨fl, e⟩ := q
    rw [hm] at h
    cases fl with
    | ro ds => exact fun a vs σ' G' H' fr h1 h2 h3 h4 => h a vs G' H' (fr.out fun _ => rfl) h1 h2 h3 h4
    | _ => exact h.elim
theorem fn_scr (F : FunD K x qual params body scope [] [] f fd) (S : FnScope N ps scope) (hl : ps.length ≤ N.length) (hb : Body P w K mg base N qual scope f k body m) : FnOk P w K mg base (L2.CX P w) (k + 1) f fd ps (spS K ps.length (runS N.length m)) := by
  refine F.ok S (fun vs H Q E h => h.1) (fun cdv A outer s H vs Q E hr h => ⟨_, hb cdv A outer s H E hr, ?_⟩)
  obtain ⟨hn, G, a, ns, us, ds, rfl, s1, hs, dp, h⟩ := h
  have d0 := sl_dat (K := K) (b := ⟨H, G, fun _ => none⟩) (H := H) dp
  have st : Starts K ⟨H, G, fun _ => none⟩ G H (.ref a :: us) (.scr ns :: ds.map .dat) := by
    refine ⟨congrArg Nat.succ d0.len, fun i s hi => ?_, fun i j s t c hi hj ho hto _ _ => ?_⟩
    · cases i with
      | zero => cases hi; exact ⟨_, rfl, a, rfl, hs⟩
      | succ i =>
        obtain ⟨v, hv, q⟩ := d0.ok i s hi
        refine ⟨v, hv, ?_⟩
        rw [List.getElem?_cons_succ, List.getElem?_map] at hi
        cases hd : ds[i]? with
        | none => rw [hd] at hi; cases hi
        | some d => rw [hd] at hi; cases hi; exact q
    · cases i with
      | zero => cases hi; cases ho
      | succ i =>
        rw [List.getElem?_cons_succ, List.getElem?_map] at hi
        cases hd : ds[i]? with
        | none => rw [hd] at hi; cases hi
        | some d => rw [hd] at hi; cases hi; cases ho
  have hlen : (Sl.scr ns :: ds.map Sl.dat).length ≤ N.length := by
    rw [List.length_cons, List.length_map, ← dpAll_len dp]
    have : us.length + 1 = ps.length := hn
    omega
  refine ⟨⟨H, G, fun _ => none⟩, G, envOf N.length (.scr ns :: ds.map .dat), fr_start s1 rfl st hlen (fun i a h => by cases h), ?_⟩
  unfold runS at h
  cases hm : m (envOf N.length (.scr ns :: ds.map .dat)) with
  | bad => rw [hm] at h; exact h
  | exc c e => rw [hm] at h; exact fun σ' G' H' fr => h G' H' (fr.out fun _ => rfl)
  | ok q =>
    obtain ⟨fl, e⟩ := q
    rw [hm] at h
    cases fl with
    | ro ds => exact fun a vs σ' G' H' fr h1 h2 h3 h4 => h a vs G' H' (fr.out fun _ => rfl) h1 h2 h3 h4
    | _ => exact h.elim
end
end DL

namespace DL
open PySem PySem.Spec PyProof.Rows L2
section
variable {P : Program} {w : World} {K : PySem.W.Frag} {mg : Str → Option Value} {base : Heap} {x qual : Str} {params : Arguments} {body : List Stmt} {scope : Scope} {f : Addr} {fd : FuncData} {N ps : List Str} {k : Nat} {m : MS}
theorem celAt_get {e : Ev} {ds : List D} (h : celAt e = some ds) : e[0]? = some (.cel ds) := by
  unfold celAt at h
  split at h
  · cases h; rfl
  · cases h
theorem fn_cell (F : FunD K x qual params body scope [] [] f fd) (S : FnScope N ps scope) (hl : ps.length ≤ N.length) (hb : Body P w K mg base N qual scope f k body m) : FnOk P w K mg base (L2.CX P w) (k + 1) f fd ps (spC K ps.length (runC N.length m)) := by
  refine F.ok S (fun vs H Q E h => h.1) (fun cdv A outer s H vs Q E hr h => ⟨_, hb cdv A outer s H E hr, ?_⟩)
  obtain ⟨hn, G, a, vs0, ds0, us, ds, rfl, s1, hga, hha, dp0, dp, h⟩ := h
  have d0 := sl_dat (K := K) (b := ⟨H, G, fun i => if i = 0 then some a else none⟩) (H := H) dp
  have st : Starts K ⟨H, G, fun i => if i = 0 then some a else none⟩ G H (.ref a :: us) (.cel ds0 :: ds.map .dat) := by
    refine ⟨congrArg Nat.succ d0.len, fun i s hi => ?_, fun i j s t c hi hj ho hto _ _ => ?_⟩
    · cases i with
      | zero => cases hi; exact ⟨_, rfl, a, vs0, rfl, hha, dp0, hga, rfl⟩
      | succ i =>
        obtain ⟨v, hv, q⟩ := d0.ok i s hi
        refine ⟨v, hv, ?_⟩
        rw [List.getElem?_cons_succ, List.getElem?_map] at hi
        cases hd : ds[i]? with
        | none => rw [hd] at hi; cases hi
        | some d => rw [hd] at hi; cases hi; exact q
    · have key : ∀ {i : Nat} {s : Sl}, (Sl.cel ds0 :: ds.map Sl.dat)[i]? = some s → isOwn s = true → i = 0 := fun {i s} hi ho => by
        cases i with
        | zero => rfl
        | succ i =>
          rw [List.getElem?_cons_succ, List.getElem?_map] at hi
          cases hd : ds[i]? with
          | none => rw [hd] at hi; cases hi
          | some d => rw [hd] at hi; cases hi; cases ho
      rw [key hi ho, key hj hto]
  have hlen : (Sl.cel ds0 :: ds.map Sl.dat).length ≤ N.length := by
    rw [List.length_cons, List.length_map, ← dpAll_len dp]
    have : us.length + 1 = ps.length := hn
    omega
  refine ⟨⟨H, G, fun i => if i = 0 then some a else none⟩, G, envOf N.length (.cel ds0 :: ds.map .dat), fr_start s1 rfl st hlen (fun i c h => ?_), ?_⟩
  · have h' : (if i = 0 then some a else none) = some c := h
    split at h'
    · cases h'; rw [hha]; intro z; cases z
    · cases h'
  have out : ∀ {σ' : St} {e : Ev} {G' H' : Hp} {ds1 : List D}, Fr K ⟨H, G, fun i => if i = 0 then some a else none⟩ G' H' σ' e → celAt e = some ds1 → GrowC a G H G' H' ∧ ∃ vs1, H' a = some (.lst vs1) ∧ DtAll G' vs1 ds1 ∧ G' a = none := fun {σ' e G' H' ds1} fr hc => by
    obtain ⟨v, ev, q⟩ := fr.slot 0 _ (celAt_get hc)
    obtain ⟨c, vs1, e2, h1, h2, h3, h4⟩ := q
    have ec : a = c := by
      have h4' : (if (0 : Nat) = 0 then some a else none) = some c := h4
      rw [if_pos rfl] at h4'
      exact Option.some.inj h4'
    subst ec
    refine ⟨⟨fr.sub0, fr.sub, fun b o hb ho => fr.base b o ho fun i z => ?_, fr.low⟩, vs1, h1, h2, h3⟩
    have z' : (if i = 0 then some a else none) = some b := z
    split at z'
    · cases z'; exact hb rfl
    · cases z'
  unfold runC at h
  cases hm : m (envOf N.length (.cel ds0 :: ds.map .dat)) with
  | bad => rw [hm] at h; exact h
  | exc c e =>
    rw [hm] at h
    cases hc : celAt e with
    | none => simp only [retC, hc] at h
    | some ds1 =>
      simp only [retC, hc] at h
      intro σ' G' H' fr
      obtain ⟨g, vs1, h1, h2, _⟩ := out fr hc
      exact h G' H' vs1 g h1 h2
  | ok q =>
    obtain ⟨fl, e⟩ := q
    rw [hm] at h
    cases fl with
    | nx =>
      cases hc : celAt e with
      | none => simp only [retC, hc] at h
      | some ds1 =>
        simp only [retC, hc] at h
        intro σ' G' H' fr _
        obtain ⟨g, vs1, h1, h2, _⟩ := out fr hc
        exact h .non G' H' vs1 g h1 h2 .non
    | bk => exact h.elim
    | ct => exact h.elim
    | rt d =>
      cases hc : celAt e with
      | none => simp only [retC, hc] at h
      | some ds1 =>
        simp only [retC, hc] at h
        intro v σ' G' H' fr dv
        obtain ⟨g, vs1, h1, h2, _⟩ := out fr hc
        exact h v G' H' vs1 g h1 h2 dv
    | ro ls =>
      cases hc : celAt e with
      | none => simp only [retC, hc] at h
      | some ds1 =>
        simp only [retC, hc] at h
        intro l ws σ' G' H' fr q1 q2 q3 q4
        obtain ⟨g, vs1, h1, h2, h3⟩ := out fr hc
        have sg : Sub G' (upd G' l (.lst ws)) := sub_upd q3
        refine h (.ref l) (upd G' l (.lst ws)) H' vs1 ⟨g.sub.trans sg, fun c o hc => ?_, g.keep, fun c o hc => ?_⟩ h1 (h2.mono sg) (.lst (.inl upd_same) (q2.mono sg))
        · by_cases e : c = l
          · subst e; rw [upd_same] at hc; rw [← hc]; exact q1
          · rw [upd_ne e] at hc; exact g.in' _ _ hc
        · by_cases e : c = l
          · subst e; exact .inr q4
          · rw [upd_ne e] at hc; exact g.new _ _ hc
/-- the law: from the script, True -/
def runL (n : Nat) (m : MS) : List Int → FR D := fun ns => retD (m (envOf n [.scr ns]))
def spL (K : PySem.W.Frag) (f : List Int → FR D) : Sp := fun vs H Q E => ∃ a ns, vs = [.ref a] ∧ Only H ∧ SqL K H a (ns.map V.int) ∧ f ns = .ok (.bool true) ∧ ∀ H', Q (.bl true) H'
theorem fn_law (F : FunD K x qual params body scope [] [] f fd) (S : FnScope N ps scope) (hp : ps.length = 1) (hl : 1 ≤ N.length) (hb : Body P w K mg base N qual scope f k body m) : FnOk P w K mg base (L2.CX P w) (k + 1) f fd ps (spL K (runL N.length m)) := by
  refine F.ok S (fun vs H Q E h => by obtain ⟨a, ns, rfl, _⟩ := h; exact hp.symm) (fun cdv A outer s H vs Q E hr h => ⟨_, hb cdv A outer s H E hr, ?_⟩)
  obtain ⟨a, ns, rfl, hO, hs, hf, q⟩ := h
  have st : Starts K ⟨H, H, fun _ => none⟩ H H [V.ref a] [Sl.scr ns] := by
    refine ⟨rfl, fun i s hi => ?_, fun i j s t c hi hj ho hto _ _ => ?_⟩
    · cases i with
      | zero => cases hi; exact ⟨_, rfl, a, rfl, hs⟩
      | succ i => simp at hi
    · cases i with
      | zero => cases hi; cases ho
      | succ i => simp at hi
  refine ⟨⟨H, H, fun _ => none⟩, H, envOf N.length [.scr ns], fr_start (b := ⟨H, H, fun _ => none⟩) (Same.refl _) rfl st hl (fun i a h => by cases h), ?_⟩
  unfold runL at hf
  cases hm : m (envOf N.length [.scr ns]) with
  | bad => rw [hm] at hf; cases hf
  | exc c e => rw [hm] at hf; cases hf
  | ok r =>
    obtain ⟨fl, e⟩ := r
    rw [hm] at hf
    cases fl with
    | rt d =>
      cases hf
      intro v σ' G' H' fr dv
      cases dt_bool dv
      exact q H'
    | nx => cases hf
    | ro ds => cases hf
    | bk => cases hf
    | ct => cases hf
end
section
variable {X : Cx} {W : WX} {tg a b c e e2 : Expr} {es : List Expr} {ma mb mc : M D} {ml : M (List D)} {pos p p2 : Pos}
/-- range(i, j, -1) -/
def dRange3 : List D → Option (List D)
  | [.int i, .int j, .int c] => if c = -1 ∧ rngOk i = true ∧ rngOk j = true then some ((List.range (i - j).toNat).map fun n => .int (i + (n : Nat) * (-1))) else none
  | _ => none
def mRange3 (ml : M (List D)) : M (List D) := mBind ml fun ds => mOpt (dRange3 ds)
theorem ji_range3 (hg : Gl X "range") (hm : X.mg "range" = none) (ha : JL X W [a, b, c] ml)
    (hs : starEach [a, b, c] X.env = (false, eval a X.env) :: starEach [b, c] X.env := by rfl) (hpl : (backTo pos (starEach [b, c] X.env)).any (·.1) = false := by rfl) : JI X W tg (.Call (.Name "range" p) [a, b, c] [] pos) (mRange3 ml) := by
  refine PI.imp (pi_range3 hg hm ha hs hpl) fun σ H R h => ?_
  obtain ⟨b, G, env, fr, h⟩ := h
  refine tL_one fr h (fun ds e1 vs G1 H1 fr1 st1 dp1 h1 => ?_) (fun c e he => he)
  obtain ⟨z, hz, h3⟩ := wpR.opt h1
  unfold dRange3 at hz
  split at hz
  · cases dp1 with
    | cons v1 dp1 =>
      obtain ⟨v2, v3, rfl, hv2, hv3⟩ := dtAll2 dp1
      cases dt_int v1; cases dt_int hv2; cases dt_int hv3
      obtain ⟨⟨hc, hb, hb2⟩, ez⟩ := ifS hz
      subst ez hc
      obtain ⟨q1, q2⟩ := rngOk_of hb
      obtain ⟨q4, q5⟩ := rngOk_of hb2
      refine ⟨_, _, _, _, rfl, RgC.neg q1 q2 q4 q5, h3 _ G1 H1 fr1 st1 ⟨fun i H s hi => ?_, fun i H s hi => ?_, fun i H G1 x H' s1 s2 ⟨e, ex⟩ d hd => ?_⟩⟩
      · rw [List.length_map, List.length_range] at hi; exact hi
      · rw [List.length_map, List.length_range] at hi; exact hi
      · subst e ex
        have hi := (List.getElem?_eq_some_iff.mp hd).1
        rw [List.length_map, List.length_range] at hi
        rw [List.getElem?_map, List.getElem?_range hi] at hd
        cases hd
        exact ⟨G1, .refl s2, .int _⟩
  · cases hz

end
end DL

namespace DL
open PySem PySem.Spec PyProof.Rows L2

theorem u65 {k : Nat} {A : Around} (r : Room k A) : A.units + 65 < cLine := by have := r.un; omega
abbrev FnP (K : PySem.W.Frag) (x : Str) (st : Stmt) (f : Addr) (fd : FuncData) : Prop := FunD K x x (defArgs st) (defBody st) (defScope st) [] [] f fd
/-- a def that stands behind the top and keeps its promise -/
structure Gd (P : Program) (w : World) (K : PySem.W.Frag) (mg : Str → Option Value) (base : Heap) (x : Str) (k : Nat) (sp : Sp) : Prop where
  ex : ∃ f fd ps, FnOk P w K mg base (L2.CX P w) k f fd ps sp ∧ mg x = some (.ref f) ∧ PySem.W.keepIn K (.ref f) = true ∧ Binds K fd ps []
section
variable {X : Cx} {W : WX} {a b c e : Expr} {es : List Expr} {ma mb : M D} {ml : M (List D)} {pos p px : Pos} {k n : Nat} {x y : Str}
theorem je_fn' {fm : Fn} (G : Gd X.prog X.w X.K X.mg X.base x k (spF X.K n fm)) (hr : Room k X.A) (hg : Gl X x) (tk : Takes X W)
    (ha : JL X W (e :: es) ml) (hlen : ∀ env ds env', ml env = .ok (ds, env') → ds.length = n) (hn : (e :: es).length = n := by rfl) (hdb : (x == ("__debug__" : Str)) = false := by decide) (he : starEach (e :: es) X.env = (false, eval e X.env) :: starEach es X.env := by rfl) (hpl : (backTo pos (starEach es X.env)).any (·.1) = false := by rfl) :
    JE X W (.Call (.Name x p) (e :: es) [] pos) (mF fm ml) := by
  obtain ⟨f, fd, ps, F, hm, hk, hb⟩ := G.ex
  exact je_fn F hr hg hm hk hb tk ha hn hdb he hpl hlen
theorem jo_fn' {fm : List D → FR (List D)} (G : Gd X.prog X.w X.K X.mg X.base x k (spO X.K n fm)) (hr : Room k X.A) (hg : Gl X x) (tk : Takes X W)
    (ha : JL X W (e :: es) ml) (hlen : ∀ env ds env', ml env = .ok (ds, env') → ds.length = n) (hn : (e :: es).length = n := by rfl) (hdb : (x == ("__debug__" : Str)) = false := by decide) (he : starEach (e :: es) X.env = (false, eval e X.env) :: starEach es X.env := by rfl) (hpl : (backTo pos (starEach es X.env)).any (·.1) = false := by rfl) :
    JO X W (.Call (.Name x p) (e :: es) [] pos) (mFO fm ml) := by
  obtain ⟨f, fd, ps, F, hm, hk, hb⟩ := G.ex
  exact jo_fn F hr hg hm hk hb tk ha hn hdb he hpl hlen
theorem je_fnC' (i : Nat) {fm : FnC} (G : Gd X.prog X.w X.K X.mg X.base x k (spC X.K (n + 1) fm)) (hr : Room k X.A) (hg : Gl X x) (tk : Takes X W)
    (ha : JL X W es ml) (hlen : ∀ env ds env', ml env = .ok (ds, env') → ds.length = n)
    (hN : X.N[i]? = some y := by rfl) (hv : Vis X.env.scope y := by first | exact Or.inl rfl | exact Or.inr (Or.inl rfl) | exact Or.inr (Or.inr rfl)) (hd : (y == ("__debug__" : Str)) = false := by decide)
    (hcd : (y == ("__classdict__" : Str)) = false := by decide) (hdb : (x == ("__debug__" : Str)) = false := by decide) (he : starEach ((Expr.Name y px) :: es) X.env = (false, eval (Expr.Name y px) X.env) :: starEach es X.env := by rfl) (hpl : (backTo pos (starEach es X.env)).any (·.1) = false := by rfl) :
    JE X W (.Call (.Name x p) ((.Name y px) :: es) [] pos) (mFC i fm ml) := by
  obtain ⟨f, fd, ps, F, hm, hk, hb⟩ := G.ex
  exact je_fnC i F hr hg hm hk hb tk ha hlen hN hv hd hcd hdb he hpl
theorem jo_fnS' (i : Nat) {fm : List Int → List D → FR (List D)} (G : Gd X.prog X.w X.K X.mg X.base x k (spS X.K (n + 1) fm)) (hr : Room k X.A) (hg : Gl X x) (tk : Takes X W)
    (ha : JL X W es ml) (hlen : ∀ env ds env', ml env = .ok (ds, env') → ds.length = n)
    (hN : X.N[i]? = some y := by rfl) (hv : Vis X.env.scope y := by first | exact Or.inl rfl | exact Or.inr (Or.inl rfl) | exact Or.inr (Or.inr rfl)) (hd : (y == ("__debug__" : Str)) = false := by decide)
    (hcd : (y == ("__classdict__" : Str)) = false := by decide) (hdb : (x == ("__debug__" : Str)) = false := by decide) (he : starEach ((Expr.Name y px) :: es) X.env = (false, eval (Expr.Name y px) X.env) :: starEach es X.env := by rfl) (hpl : (backTo pos (starEach es X.env)).any (·.1) = false := by rfl) :
    JO X W (.Call (.Name x p) ((.Name y px) :: es) [] pos) (mFS i fm ml) := by
  obtain ⟨f, fd, ps, F, hm, hk, hb⟩ := G.ex
  exact jo_fnS i F hr hg hm hk hb tk ha hlen hN hv hd hcd hdb he hpl
/-- an own error class -/
structure Ex (K : PySem.W.Frag) (mg : Str → Option Value) (x : Str) : Prop where
  g : mg x = some (.ref (He.ga K x))
  f : (He.Fa.exc x).ok K = true
theorem js_raiseX {m : Str} {j : Nat} {p2 : Pos} (E : Ex X.K X.mg x) (tk : Takes X W) (hg : Gl X x := by rfl) (hc : X.calm = true := by rfl)
    (hdb : (x == ("__debug__" : Str)) = false := by decide) : JS X W (.Raise (some (.Call (.Name x p) [.Constant (.str m) j p2] [] px)) none pos) (mRaise x) := by
  obtain ⟨h1, h2, h3, h4⟩ := He.exc_ok E.f
  exact js_raise hc tk h1 E.g h2 (raises_own h3 h4) rfl hg hdb
/-- a list of one's own on the left of a comparison -/
def mCmpO (f : D → D → Option Bool) (i : Nat) (mb : M D) : M Bool := fun env => if isOwnAt env i = true then mBind mb (fun y e => match e[i]? with
  | some s => (match cont s with
    | some ds => mOpt (f (.list ds) y) e
    | none => .bad)
  | none => .bad) env else .bad
theorem tCmpO_of {i : Nat} {r : R2} {f : D → D → Option Bool} (od : CmpD r f) {K : PySem.W.Frag} {σ : St} {H : Hp} {Q : Bool → Hp → Prop} (h : tT K W (mCmpO f i mb) σ H Q) : tOp r (tVar i) (tE K W mb) σ H (fun x H' => ∃ k, x = .bl k ∧ Q k H') := by
  obtain ⟨b, G, env, fr, h⟩ := h
  unfold mCmpO at h
  split at h
  case isFalse => exact h.elim
  rename_i ho
  obtain ⟨a, vs0, o1, _⟩ := isOwnAt_holds fr ho
  refine ⟨_, o1.2, ?_⟩
  refine tE_one fr h (fun d e1 v G1 H1 fr1 st1 dp1 h1 => ?_) (fun c e he => he)
  cases hs : e1[i]? with
  | none => simp only [wpR, hs] at h1
  | some s =>
    cases hc : cont s with
    | none => simp only [wpR, hs, hc] at h1
    | some ds =>
      simp only [hs, hc] at h1
      obtain ⟨z, hz, h3⟩ := wpR.opt h1
      obtain ⟨a1, us, o2, q1, q2, q3⟩ := fr1.holds hs hc
      have ea := OwnI.uniq o2 o1
      subst ea
      exact od H1 H1 (.ref a1) v (.list ds) d z _ (Same.refl _) (.lst (.inl q1) (q2.mono fr1.sub)) (dp1.mono fr1.sub) hz ⟨_, rfl, h3 G1 H1 fr1 st1⟩
theorem jt_cmpO (i : Nat) {op : CmpOp} {r : R2} {f : D → D → Option Bool} (ho : OpR X (compareOp op) r) (od : CmpD r f) (hb : JE X W b mb) (hm : behindInMarks op b = false)
    (hN : X.N[i]? = some x := by rfl) (hv : Vis X.env.scope x := by first | exact Or.inl rfl | exact Or.inr (Or.inl rfl) | exact Or.inr (Or.inr rfl)) (hd : (x == ("__debug__" : Str)) = false := by decide)
    (hcd : (x == ("__classdict__" : Str)) = false := by decide) : JT X W (.Compare (.Name x px) [op] [b] pos) (mCmpO f i mb) :=
  PT.imp (pt_cmpR ho (pe_var hN hv hd hcd) hb hm) fun _ _ _ h => tCmpO_of od h
theorem je_cmpO (i : Nat) {op : CmpOp} {r : R2} {f : D → D → Option Bool} (ho : OpR X (compareOp op) r) (od : CmpD r f) (hb : JE X W b mb) (hm : behindInMarks op b = false)
    (hN : X.N[i]? = some x := by rfl) (hv : Vis X.env.scope x := by first | exact Or.inl rfl | exact Or.inr (Or.inl rfl) | exact Or.inr (Or.inr rfl)) (hd : (x == ("__debug__" : Str)) = false := by decide)
    (hcd : (x == ("__classdict__" : Str)) = false := by decide) : JE X W (.Compare (.Name x px) [op] [b] pos) (mB (mCmpO f i mb)) := by
  refine PE.imp (pe_cmpR ho (pe_var hN hv hd hcd) hb hm) fun σ H Q h => ?_
  obtain ⟨b, G, env, fr, h⟩ := tB_of h
  unfold mCmpO at h
  split at h
  case isFalse => exact h.elim
  rename_i ho
  obtain ⟨a, vs0, o1, _⟩ := isOwnAt_holds fr ho
  refine ⟨_, o1.2, ?_⟩
  refine tE_one fr h (fun d e1 v G1 H1 fr1 st1 dp1 h1 => ?_) (fun c e he => he)
  cases hs : e1[i]? with
  | none => simp only [wpR, hs] at h1
  | some s =>
    cases hc : cont s with
    | none => simp only [wpR, hs, hc] at h1
    | some ds =>
      simp only [hs, hc] at h1
      obtain ⟨z, hz, h3⟩ := wpR.opt h1
      obtain ⟨a1, us, o2, q1, q2, q3⟩ := fr1.holds hs hc
      have ea := OwnI.uniq o2 o1
      subst ea
      exact od H1 H1 (.ref a1) v (.list ds) d z _ (Same.refl _) (.lst (.inl q1) (q2.mono fr1.sub)) (dp1.mono fr1.sub) hz (h3 G1 H1 fr1 st1)
/-- [..] * n -/
def mRep (ml : M (List D)) (mb : M D) : M (List D) := mBind (mLst ml) fun xs => mBind mb fun y => mOpt (match y with
  | .int k => if -(2 ^ 63) ≤ k ∧ k < 2 ^ 63 ∧ xs.length * k.toNat ≤ sizeLine then some (List.replicate k.toNat xs).flatten else none
  | _ => none)
theorem jo_rep {p2 : Pos} (ha : JL X W es ml) (hb : JE X W b mb) : JO X W (.BinOp (.List es p2) .Mult b pos) (mRep ml mb) := by
  refine PE.imp (pe_op op_rep (jo_lst ha) hb) fun σ H Q h => ?_
  obtain ⟨b, G, env, fr, h⟩ := h
  refine tO_one fr h (fun ds e1 a G1 H1 fr1 st1 f1 h1 => tE_one fr1 h1 (fun d2 e2 v2 G2 H2 fr2 st2 dp2 h2 => ?_) (fun c e he => he)) (fun c e he => he)
  obtain ⟨z, hz, h3⟩ := wpR.opt h2
  obtain ⟨vs, q1, q2⟩ := f1.at_
  cases d2 with
  | int k =>
    cases dt_int dp2
    obtain ⟨⟨h4, h5, h6⟩, ez⟩ := ifS hz
    subst ez
    refine ⟨a, k, vs, rfl, rfl, st2.keep a _ q1 f1.noown, h4, h5, by rw [dpAll_len q2]; exact h6, fun p hp => ?_⟩
    have g : Grow G2 H2 G2 (upd H2 p (.lst (List.replicate k.toNat vs).flatten)) := .laid' fr2.sub hp
    exact h3 p _ _ (fr2.grow g) ((st1.trans st2).trans (.grow g)) (fresh_of fr2 (st1.trans st2) g hp (fr2.sub.free hp) upd_same ((dtAll_rep q2 k.toNat).mono st2.sub))
  | _ => cases hz
/-- x.extend(a new list) -/
def mExtend (i : Nat) (mo : M (List D)) : MS := fun env => if isOwnAt env i = true then mBind mo (fun zs => mStore (chg i fun ds => if ds.length + zs.length ≤ sizeLine then some (ds ++ zs) else none)) env else .bad
theorem js_extend (i : Nat) {apos cpos : Pos} (ha : JO X W e ml)
    (hN : X.N[i]? = some x := by rfl) (hv : Vis X.env.scope x := by first | exact Or.inl rfl | exact Or.inr (Or.inl rfl) | exact Or.inr (Or.inr rfl)) (hd : (x == ("__debug__" : Str)) = false := by decide)
    (hcd : (x == ("__classdict__" : Str)) = false := by decide)
    (hbase : attributeBase (.Name x px) "extend" X.env (eval (.Name x px) X.env) = eval (.Name x px) X.env := by rfl)
    (hfew : ((backTo cpos (starEach (e :: []) X.env)).all (fun x => !x.1) && (backToKw cpos (keywordEach [] X.env)).all (fun x => x.1.isSome)
      && decide ((e :: ([] : List Expr)).length + ([] : List Keyword).length + (if ([] : List Keyword).isEmpty then 0 else 1) < 30)) = true := by rfl)
    (hline : (apos.endLine == cpos.line) = true := by rfl) (hs : starEach (e :: []) X.env = (false, eval e X.env) :: starEach [] X.env := by rfl) (hplain : (backTo cpos (starEach [] X.env)).any (·.1) = false := by rfl)
    (hsw : swapsWith (.Call (.Attribute (.Name x px) "extend" apos) (e :: []) [] cpos) none pos.line X.env = pure false := by rfl) :
    JS X W (.Expr (.Call (.Attribute (.Name x px) "extend" apos) (e :: []) [] cpos) pos) (mExtend i ml) := by
  refine PS.imp (ps_expr (pe_bm PySem.F.plainAttrs_list PySem.F.slot_list_extend PySem.F.type_list_extend mt_extend (pe_var hN hv hd hcd) (pa_cons ha pa_nil hs) hbase hfew hline hs hplain) hsw) fun σ H D h => ?_
  obtain ⟨b, G, env, fr, h⟩ := h
  unfold mExtend at h
  split at h
  case isFalse => exact h.elim
  rename_i ho
  obtain ⟨a, vs0, h1, h2⟩ := isOwnAt_holds fr ho
  refine ⟨_, h1.2, .inl ⟨rfl, _, .inl (.inl h2)⟩, ?_⟩
  refine tO_one fr h (fun zs e1 l G1 H1 fr1 st1 f1 h3 => ?_) (fun c e he G' H' fr' => he σ G' H' fr')
  obtain ⟨e2, h4, q⟩ := wpR.store h3
  obtain ⟨s, ds, ds', hi, hc, hf, rfl⟩ := chg_some h4
  obtain ⟨hl, ez⟩ := ifS hf
  subst ez
  obtain ⟨a1, vs, o1, q1, q2, q3⟩ := fr1.holds hi hc
  have ea := OwnI.uniq o1 h1
  subst ea
  obtain ⟨us, q4, q5⟩ := f1.at_
  obtain ⟨fr2, st2⟩ := fr1.change hi hc o1 (growC_upd (o := .lst (vs ++ us)) fr1.sub q3) upd_same (dpAll_app q2 q5)
  exact ⟨a1, l, vs, us, rfl, rfl, q1, q4, by rw [dpAll_len q2, dpAll_len q5]; exact hl, q σ G1 _ fr2 st1.sub⟩
/-- list(range(a, b)) -/
def dListRg : List D → Option (List D)
  | [.int i, .int j] => if rngOk i = true ∧ rngOk j = true ∧ (j - i).toNat ≤ 2 ^ 24 then some (rangeD i j) else none
  | _ => none
def mListRg (ma mb : M D) : M (List D) := mBind ma fun x => mBind mb fun y => mOpt (dListRg [x, y])
theorem rgV_dt {G : Hp} (i j : Int) : DtAll G (rgV i j) (rangeD i j) := by
  unfold rgV rangeD
  generalize (j - i).toNat = n
  generalize hl : List.range n = l
  clear hl
  induction l with
  | nil => exact .nil
  | cons x r ih => exact .cons (.int _) ih
theorem jo_listRange {pr : Pos} (hg : Gl X "list") (hm : X.mg "list" = none) (hg2 : Gl X "range") (hm2 : X.mg "range" = none) (ha : JE X W a ma) (hb : JE X W b mb) (hc : X.calm = true := by rfl)
    (na : starEach [a, b] X.env = (false, eval a X.env) :: starEach [b] X.env := by rfl) (na2 : (backTo pr (starEach [b] X.env)).any (·.1) = false := by rfl) (nb : starEach [b] X.env = (false, eval b X.env) :: starEach [] X.env := by rfl) (nc : starEach [(.Call (.Name "range" px) [a, b] [] pr)] X.env = (false, eval (.Call (.Name "range" px) [a, b] [] pr) X.env) :: starEach [] X.env := by rfl) :
    JO X W (.Call (.Name "list" p) [.Call (.Name "range" px) [a, b] [] pr] [] pos) (mListRg ma mb) := by
  refine PE.imp (pe_listRg hc hg hm (prg_2 hg2 hm2 ha hb na nb na2) nc) fun σ H Q h => ?_
  obtain ⟨b, G, env, fr, h⟩ := h
  refine tE_one fr h (fun d e1 v G1 H1 fr1 st1 dp1 h1 => tE_one fr1 h1 (fun d2 e2 v2 G2 H2 fr2 st2 dp2 h2 => ?_) (fun c e he => he)) (fun c e he => he)
  obtain ⟨z, hz, h3⟩ := wpR.opt h2
  cases d with
  | int i =>
    cases d2 with
    | int j =>
      cases dt_int dp1; cases dt_int dp2
      obtain ⟨⟨h4, h5, h6⟩, ez⟩ := ifS hz
      subst ez
      obtain ⟨r1, r2⟩ := rngOk_of h4
      obtain ⟨r3, r4⟩ := rngOk_of h5
      refine ⟨i, j, rfl, rfl, ⟨r1, r2, r3, r4, h6⟩, fun p hp => ?_⟩
      have g : Grow G2 H2 G2 (upd H2 p (.lst (rgV i j))) := .laid' fr2.sub hp
      exact h3 p _ _ (fr2.grow g) ((st1.trans st2).trans (.grow g)) (fresh_of fr2 (st1.trans st2) g hp (fr2.sub.free hp) upd_same (rgV_dt i j))
    | _ => cases hz
  | _ => cases hz
def dIsBl : D → D → Option Bool
  | .bool a, .bool b => some (decide (a = b))
  | _, _ => none
def dNotBl : D → D → Option Bool
  | .bool a, .bool b => some (!decide (a = b))
  | _, _ => none
theorem dIsBl_ok : CmpD rIsB dIsBl := by
  intro G H x y dx dy k Q s hx hy e q
  unfold dIsBl at e
  split at e
  · cases dt_bool hx; cases dt_bool hy; cases e
    exact ⟨_, _, rfl, rfl, q⟩
  · cases e
theorem dNotBl_ok : CmpD rNotB dNotBl := by
  intro G H x y dx dy k Q s hx hy e q
  unfold dNotBl at e
  split at e
  · cases dt_bool hx; cases dt_bool hy; cases e
    exact ⟨_, _, rfl, rfl, q⟩
  · cases e
end
/-- a while of at most k turns -/
def mWhile (k : Ev → Nat) (mt : M Bool) (mb : MS) : MS := fun env => whileF mt mb (k env) env
end DL

namespace DL
open PySem PySem.Spec PyProof.Rows L2
/-! ## the mirrors, run -/
def Ok {α : Type} (r : Res Ev (α × Ev)) (Q : α → Ev → Prop) : Prop := match r with
  | .ok (a, e) => Q a e
  | _ => False
def okF {α : Type} (r : FR α) (P : α → Prop) : Prop := match r with
  | .ok a => P a
  | _ => False
def okC {ε α : Type} (r : Res ε α) (P : α → Prop) : Prop := match r with
  | .ok a => P a
  | _ => False
def okO {α : Type} (o : Option α) (P : α → Prop) : Prop := match o with
  | some a => P a
  | none => False
theorem Ok.mono {α : Type} {r : Res Ev (α × Ev)} {Q Q' : α → Ev → Prop} (h : Ok r Q) (i : ∀ a e, Q a e → Q' a e) : Ok r Q' := by
  cases r with
  | ok p => exact i _ _ h
  | exc c e => exact h
  | bad => exact h
theorem okO_some {α : Type} {a : α} {P : α → Prop} : okO (some a) P = P a := rfl
theorem okO_none {α : Type} {P : α → Prop} : okO (none : Option α) P = False := rfl
theorem okO_ite {α : Type} {c : Prop} [Decidable c] {a : α} {P : α → Prop} : okO (if c then some a else none) P = (c ∧ P a) := by
  by_cases h : c
  · rw [if_pos h]; exact propext ⟨fun p => ⟨h, p⟩, fun p => p.2⟩
  · rw [if_neg h]; exact propext ⟨fun p => p.elim, fun p => absurd p.1 h⟩
theorem okF_ok {α : Type} {a : α} {P : α → Prop} : okF (.ok a) P = P a := rfl
theorem okC_ok {ε α : Type} {a : α} {P : α → Prop} : okC (.ok a : Res ε α) P = P a := rfl
theorem ok_ok {α : Type} {a : α} {e : Ev} {Q : α → Ev → Prop} : Ok (.ok (a, e)) Q = Q a e := rfl
theorem ok_bind {α β : Type} {m : M α} {k : α → M β} {e : Ev} {Q : β → Ev → Prop} : Ok (mBind m k e) Q = Ok (m e) (fun a e' => Ok (k a e') Q) := by
  unfold mBind bindR
  cases m e <;> rfl
theorem ok_pure {α : Type} {a : α} {e : Ev} {Q : α → Ev → Prop} : Ok (mPure a e) Q = Q a e := rfl
theorem ok_opt {α : Type} {o : Option α} {e : Ev} {Q : α → Ev → Prop} : Ok (mOpt o e) Q = okO o fun a => Q a e := by cases o <;> rfl
def slD (o : Option Sl) (P : D → Prop) : Prop := match o with
  | some (.dat d) => P d
  | _ => False
theorem slD_dat {d : D} {P : D → Prop} : slD (some (.dat d)) P = P d := rfl
theorem ok_var {i : Nat} {e : Ev} {Q : D → Ev → Prop} : Ok (mVar i e) Q = slD e[i]? fun d => Q d e := by
  unfold mVar
  cases e[i]? with
  | none => rfl
  | some s => cases s <;> rfl
theorem ok_op {f : D → D → Option D} {ma mb : M D} {e : Ev} {Q : D → Ev → Prop} : Ok (mOp f ma mb e) Q = Ok (ma e) (fun x e1 => Ok (mb e1) (fun y e2 => okO (f x y) fun z => Q z e2)) := by
  unfold mOp; simp only [ok_bind, ok_opt]
theorem ok_opO {f : D → D → Option (List D)} {ma mb : M D} {e : Ev} {Q : List D → Ev → Prop} : Ok (mOpO f ma mb e) Q = Ok (ma e) (fun x e1 => Ok (mb e1) (fun y e2 => okO (f x y) fun z => Q z e2)) := by
  unfold mOpO; simp only [ok_bind, ok_opt]
theorem ok_un {f : D → Option D} {ma : M D} {e : Ev} {Q : D → Ev → Prop} : Ok (mUn f ma e) Q = Ok (ma e) (fun x e1 => okO (f x) fun z => Q z e1) := by
  unfold mUn; simp only [ok_bind, ok_opt]
theorem ok_cmp {f : D → D → Option Bool} {ma mb : M D} {e : Ev} {Q : Bool → Ev → Prop} : Ok (mCmp f ma mb e) Q = Ok (ma e) (fun x e1 => Ok (mb e1) (fun y e2 => okO (f x y) fun z => Q z e2)) := by
  unfold mCmp; simp only [ok_bind, ok_opt]
theorem ok_B {m : M Bool} {e : Ev} {Q : D → Ev → Prop} : Ok (mB m e) Q = Ok (m e) (fun k e1 => Q (.bool k) e1) := by
  unfold mB; simp only [ok_bind, ok_pure]
theorem ok_ite {α : Type} {k : Bool} {m n : M α} {e : Ev} {Q : α → Ev → Prop} : Ok ((if k = true then m else n) e) Q = if k = true then Ok (m e) Q else Ok (n e) Q := by cases k <;> rfl
theorem ok_chain {f g : D → D → Option Bool} {ma mb mc : M D} {e : Ev} {Q : Bool → Ev → Prop} : Ok (mChain f g ma mb mc e) Q = Ok (ma e) (fun x e1 => Ok (mb e1) (fun y e2 => okO (f x y) fun k => if k = true then Ok (mc e2) (fun z e3 => okO (g y z) fun r => Q r e3) else Q false e2)) := by
  unfold mChain; simp only [ok_bind, ok_opt, ok_ite, ok_pure]
theorem ok_and {m n : M Bool} {e : Ev} {Q : Bool → Ev → Prop} : Ok (mAnd m n e) Q = Ok (m e) (fun k e1 => if k = true then Ok (n e1) Q else Q false e1) := by
  unfold mAnd; simp only [ok_bind, ok_ite, ok_pure]
theorem ok_or {m n : M Bool} {e : Ev} {Q : Bool → Ev → Prop} : Ok (mOr m n e) Q = Ok (m e) (fun k e1 => if k = true then Q true e1 else Ok (n e1) Q) := by
  unfold mOr; simp only [ok_bind, ok_ite, ok_pure]
theorem ok_not {m : M Bool} {e : Ev} {Q : Bool → Ev → Prop} : Ok (mNot m e) Q = Ok (m e) (fun k e1 => Q (!k) e1) := by
  unfold mNot; simp only [ok_bind, ok_pure]
theorem ok_ifE {t : M Bool} {ma mb : M D} {e : Ev} {Q : D → Ev → Prop} : Ok (mIfE t ma mb e) Q = Ok (t e) (fun k e1 => if k = true then Ok (ma e1) Q else Ok (mb e1) Q) := by
  unfold mIfE; simp only [ok_bind, ok_ite]
theorem ok_tru {ma : M D} {e : Ev} {Q : Bool → Ev → Prop} : Ok (mTru ma e) Q = Ok (ma e) (fun x e1 => okO (dTru x) fun k => Q k e1) := by
  unfold mTru; simp only [ok_bind, ok_opt]
theorem ok_andV {ma mb : M D} {e : Ev} {Q : D → Ev → Prop} : Ok (mAndV ma mb e) Q = Ok (ma e) (fun x e1 => okO (dBl x) fun k => if k = true then Ok (mb e1) Q else Q (.bool false) e1) := by
  unfold mAndV; simp only [ok_bind, ok_opt, ok_ite, ok_pure]
theorem ok_orV {ma mb : M D} {e : Ev} {Q : D → Ev → Prop} : Ok (mOrV ma mb e) Q = Ok (ma e) (fun x e1 => okO (dBl x) fun k => if k = true then Q (.bool true) e1 else Ok (mb e1) Q) := by
  unfold mOrV; simp only [ok_bind, ok_opt, ok_ite, ok_pure]
theorem ok_notV {ma : M D} {e : Ev} {Q : D → Ev → Prop} : Ok (mNotV ma e) Q = Ok (ma e) (fun x e1 => okO (dBl x) fun k => Q (.bool (!k)) e1) := by
  unfold mNotV; simp only [ok_bind, ok_opt, ok_pure]
theorem ok_nil {e : Ev} {Q : List D → Ev → Prop} : Ok (mNil e) Q = Q [] e := rfl
theorem ok_cons {ma : M D} {mr : M (List D)} {e : Ev} {Q : List D → Ev → Prop} : Ok (mCons ma mr e) Q = Ok (ma e) (fun x e1 => Ok (mr e1) (fun xs e2 => Q (x :: xs) e2)) := by
  unfold mCons; simp only [ok_bind, ok_pure]
theorem ok_tup {m : M (List D)} {e : Ev} {Q : D → Ev → Prop} : Ok (mTup m e) Q = Ok (m e) (fun xs e1 => xs.length ≤ sizeLine ∧ Q (.tuple xs) e1) := by
  unfold mTup; simp only [ok_bind, ok_opt, okO_ite]
theorem ok_lst {m : M (List D)} {e : Ev} {Q : List D → Ev → Prop} : Ok (mLst m e) Q = Ok (m e) (fun xs e1 => xs.length ≤ sizeLine ∧ Q xs e1) := by
  unfold mLst; simp only [ok_bind, ok_opt, okO_ite]
theorem ok_fz {m : M (List D)} {e : Ev} {Q : D → Ev → Prop} : Ok (mFz m e) Q = Ok (m e) (fun xs e1 => Q (.list xs) e1) := by
  unfold mFz; simp only [ok_bind, ok_pure]
theorem ok_isi {T : String} {ma : M D} {e : Ev} {Q : Bool → Ev → Prop} : Ok (mIsi T ma e) Q = Ok (ma e) (fun x e1 => Q (isiB T x) e1) := by
  unfold mIsi; simp only [ok_bind, ok_pure]
theorem ok_call {f : List D → Option D} {ml : M (List D)} {e : Ev} {Q : D → Ev → Prop} : Ok (mCall f ml e) Q = Ok (ml e) (fun xs e1 => okO (f xs) fun z => Q z e1) := by
  unfold mCall; simp only [ok_bind, ok_opt]
theorem ok_callO {f : List D → Option (List D)} {ml : M (List D)} {e : Ev} {Q : List D → Ev → Prop} : Ok (mCallO f ml e) Q = Ok (ml e) (fun xs e1 => okO (f xs) fun z => Q z e1) := by
  unfold mCallO; simp only [ok_bind, ok_opt]
theorem ok_noP {e : Ev} {Q : Option Int → Ev → Prop} : Ok (mNoP e) Q = Q none e := rfl
theorem ok_part {m : M D} {e : Ev} {Q : Option Int → Ev → Prop} : Ok (mPart m e) Q = Ok (m e) (fun d e1 => okO (dInt d) fun i => Q (some i) e1) := by
  unfold mPart; simp only [ok_bind, ok_opt, ok_pure]
theorem ok_sl {ma : M D} {ml mh : M (Option Int)} {e : Ev} {Q : D → Ev → Prop} : Ok (mSl ma ml mh e) Q = Ok (ma e) (fun x e1 => Ok (ml e1) (fun lo e2 => Ok (mh e2) (fun hi e3 => okO (dSl x lo hi) fun z => Q z e3))) := by
  unfold mSl; simp only [ok_bind, ok_opt]
/-- a slot of one's own (or of the caller's, the script) -/
def slL (o : Option Sl) (P : List D → Prop) : Prop := match o with
  | some (.own ds) => P ds
  | some (.cel ds) => P ds
  | _ => False
theorem slL_own {ds : List D} {P : List D → Prop} : slL (some (.own ds)) P = P ds := rfl
theorem slL_cel {ds : List D} {P : List D → Prop} : slL (some (.cel ds)) P = P ds := rfl
def ixP (o : Option Sl) (k : D) (P : D → Prop) : Prop := match o, k with
  | some (.own ds), .int j => okO (atI ds j) P
  | some (.cel ds), .int j => okO (atI ds j) P
  | some (.scr ns), .int j => okO (atI ns j) fun n => P (.int n)
  | _, _ => False
theorem ixP_own {ds : List D} {j : Int} {P : D → Prop} : ixP (some (.own ds)) (.int j) P = okO (atI ds j) P := rfl
theorem ixP_cel {ds : List D} {j : Int} {P : D → Prop} : ixP (some (.cel ds)) (.int j) P = okO (atI ds j) P := rfl
theorem ixP_scr {ns : List Int} {j : Int} {P : D → Prop} : ixP (some (.scr ns)) (.int j) P = okO (atI ns j) fun n => P (.int n) := rfl
theorem ok_slAt {i : Nat} {k : D} {e : Ev} {Q : D → Ev → Prop} : Ok (slAt i k e) Q = ixP e[i]? k fun d => Q d e := by
  unfold slAt
  cases e[i]? with
  | none => cases k <;> rfl
  | some s =>
    cases s with
    | own ds => cases k <;> first | rfl | exact ok_opt
    | cel ds => cases k <;> first | rfl | exact ok_opt
    | scr ns =>
      cases k with
      | int j =>
        show Ok (mOpt ((atI ns j).map PyData.int) e) Q = okO (atI ns j) fun n => Q (.int n) e
        rw [ok_opt]
        cases atI ns j <;> rfl
      | _ => rfl
    | _ => cases k <;> rfl
theorem isL_own {ds : List D} : isL (some (.own ds)) = true := rfl
theorem isL_cel {ds : List D} : isL (some (.cel ds)) = true := rfl
theorem isL_scr {ds : List Int} : isL (some (.scr ds)) = true := rfl
theorem ok_ixO {i : Nat} {mb : M D} {e : Ev} {Q : D → Ev → Prop} : Ok (mIxO i mb e) Q = (isL e[i]? = true ∧ Ok (mb e) (fun k e1 => ixP e1[i]? k fun d => Q d e1)) := by
  unfold mIxO
  by_cases h : isL e[i]? = true
  · rw [if_pos h, ok_bind]
    simp only [ok_slAt]
    exact propext ⟨fun p => ⟨h, p⟩, fun p => p.2⟩
  · rw [if_neg h]; exact propext ⟨fun p => p.elim, fun p => absurd p.1 h⟩
def lenP (o : Option Sl) (P : D → Prop) : Prop := match o with
  | some (.own ds) => P (.int ds.length)
  | some (.cel ds) => P (.int ds.length)
  | some (.scr ds) => P (.int ds.length)
  | _ => False
theorem lenP_own {ds : List D} {P : D → Prop} : lenP (some (.own ds)) P = P (.int ds.length) := rfl
theorem lenP_cel {ds : List D} {P : D → Prop} : lenP (some (.cel ds)) P = P (.int ds.length) := rfl
theorem lenP_scr {ds : List Int} {P : D → Prop} : lenP (some (.scr ds)) P = P (.int ds.length) := rfl
theorem ok_lenO {i : Nat} {e : Ev} {Q : D → Ev → Prop} : Ok (mLenO i e) Q = lenP e[i]? fun d => Q d e := by
  unfold mLenO
  cases e[i]? with
  | none => rfl
  | some s => cases s <;> rfl
theorem ok_move {i : Nat} {e : Ev} {Q : List D → Ev → Prop} : Ok (mMove i e) Q = (match e[i]? with | some (.own ds) => Q ds (e.set i .un) | _ => False) := by
  unfold mMove
  cases e[i]? with
  | none => rfl
  | some s => cases s <;> rfl
/-! statements -/
def seqP (n : MS) (Q : Fl → Ev → Prop) (fl : Fl) (e : Ev) : Prop := match fl with
  | .nx => Ok (n e) Q
  | fl => Q fl e
theorem seqP_nx {n : MS} {Q : Fl → Ev → Prop} {e : Ev} : seqP n Q .nx e = Ok (n e) Q := rfl
theorem seqP_rt {n : MS} {Q : Fl → Ev → Prop} {e : Ev} {d : D} : seqP n Q (.rt d) e = Q (.rt d) e := rfl
theorem seqP_ro {n : MS} {Q : Fl → Ev → Prop} {e : Ev} {d : List D} : seqP n Q (.ro d) e = Q (.ro d) e := rfl
theorem seqP_ct {n : MS} {Q : Fl → Ev → Prop} {e : Ev} : seqP n Q .ct e = Q .ct e := rfl
theorem seqP_bk {n : MS} {Q : Fl → Ev → Prop} {e : Ev} : seqP n Q .bk e = Q .bk e := rfl
theorem ok_seq {m n : MS} {e : Ev} {Q : Fl → Ev → Prop} : Ok (mSeq m n e) Q = Ok (m e) (seqP n Q) := by
  unfold mSeq
  cases m e with
  | ok p => obtain ⟨fl, e⟩ := p; cases fl <;> rfl
  | exc c e => rfl
  | bad => rfl
theorem ok_nx {e : Ev} {Q : Fl → Ev → Prop} : Ok (mNx e) Q = Q .nx e := rfl
theorem ok_if {t : M Bool} {m n : MS} {e : Ev} {Q : Fl → Ev → Prop} : Ok (mIf t m n e) Q = Ok (t e) (fun k e1 => if k = true then Ok (m e1) Q else Ok (n e1) Q) := by
  unfold mIf; simp only [ok_bind, ok_ite]
theorem ok_ret {m : M D} {e : Ev} {Q : Fl → Ev → Prop} : Ok (mRet m e) Q = Ok (m e) (fun d e1 => Q (.rt d) e1) := by
  unfold mRet; simp only [ok_bind, ok_pure]
theorem ok_retO {m : M (List D)} {e : Ev} {Q : Fl → Ev → Prop} : Ok (mRetO m e) Q = Ok (m e) (fun d e1 => Q (.ro d) e1) := by
  unfold mRetO; simp only [ok_bind, ok_pure]
theorem ok_drop {m : M D} {e : Ev} {Q : Fl → Ev → Prop} : Ok (mDrop m e) Q = Ok (m e) (fun d e1 => Q .nx e1) := by
  unfold mDrop; simp only [ok_bind, ok_pure]
theorem ok_store {g : Ev → Option Ev} {e : Ev} {Q : Fl → Ev → Prop} : Ok (mStore g e) Q = okO (g e) fun e1 => Q .nx e1 := by
  unfold mStore; cases g e <;> rfl
/-- a slot may be written -/
def wrS : Option Sl → Bool
  | none => false
  | some (.cel _) => false
  | some _ => true
theorem putSl_eq {i : Nat} {s : Sl} {e : Ev} {P : Ev → Prop} : okO (putSl i s e) P = (wrS e[i]? = true ∧ P (e.set i s)) := by
  unfold putSl
  cases e[i]? with
  | none => exact propext ⟨fun p => p.elim, fun p => nomatch p.1⟩
  | some t => cases t <;> first | exact propext ⟨fun p => ⟨rfl, p⟩, fun p => p.2⟩ | exact propext ⟨fun p => p.elim, fun p => nomatch p.1⟩
theorem wrS_un : wrS (some .un) = true := rfl
theorem wrS_dat {d : D} : wrS (some (.dat d)) = true := rfl
theorem wrS_own {d : List D} : wrS (some (.own d)) = true := rfl
theorem wrS_scr {d : List Int} : wrS (some (.scr d)) = true := rfl
theorem ok_set {i : Nat} {m : M D} {e : Ev} {Q : Fl → Ev → Prop} : Ok (mSet i m e) Q = Ok (m e) (fun d e1 => wrS e1[i]? = true ∧ Q .nx (e1.set i (.dat d))) := by
  unfold mSet; simp only [ok_bind, ok_store, putSl_eq]
theorem ok_setO {i : Nat} {m : M (List D)} {e : Ev} {Q : Fl → Ev → Prop} : Ok (mSetO i m e) Q = Ok (m e) (fun d e1 => wrS e1[i]? = true ∧ Q .nx (e1.set i (.own d))) := by
  unfold mSetO; simp only [ok_bind, ok_store, putSl_eq]
theorem okO_bind {α β : Type} {o : Option α} {f : α → Option β} {P : β → Prop} : okO (o.bind f) P = okO o fun a => okO (f a) P := by cases o <;> rfl
theorem okO_map {α β : Type} {o : Option α} {f : α → β} {P : β → Prop} : okO (o.map f) P = okO o fun a => P (f a) := by cases o <;> rfl
theorem okO_gN {i : Nat} {d : D} {e : Ev} {P : Ev → Prop} : okO (gN i d e) P = (wrS e[i]? = true ∧ P (e.set i (.dat d))) := putSl_eq
theorem okO_gTp {gs : List D → Ev → Option Ev} {ds : List D} {e : Ev} {P : Ev → Prop} : okO (gTp gs (.tuple ds) e) P = okO (gs ds e) P := rfl
theorem okO_gCons {g : GT} {gs : List D → Ev → Option Ev} {d : D} {ds : List D} {e : Ev} {P : Ev → Prop} : okO (gCons' g gs (d :: ds) e) P = okO (g d e) fun e1 => okO (gs ds e1) P := okO_bind
theorem okO_gNil {e : Ev} {P : Ev → Prop} : okO (gNil' [] e) P = P e := rfl
theorem ok_asg {g : GT} {m : M D} {e : Ev} {Q : Fl → Ev → Prop} : Ok (mAsg g m e) Q = Ok (m e) (fun d e1 => okO (g d e1) fun e2 => Q .nx e2) := by
  unfold mAsg; simp only [ok_bind, ok_store]
theorem ok_dat {m : M D} {e : Ev} {Q : Sl → Ev → Prop} : Ok (mDat m e) Q = Ok (m e) (fun d e1 => Q (.dat d) e1) := by
  unfold mDat; simp only [ok_bind, ok_pure]
theorem ok_own {m : M (List D)} {e : Ev} {Q : Sl → Ev → Prop} : Ok (mOwn m e) Q = Ok (m e) (fun d e1 => Q (.own d) e1) := by
  unfold mOwn; simp only [ok_bind, ok_pure]
theorem ok_par2 {i j : Nat} {va vb : M Sl} {e : Ev} {Q : Fl → Ev → Prop} : Ok (mPar2 i j va vb e) Q = Ok (va e) (fun x e1 => Ok (vb e1) (fun y e2 => wrS e2[j]? = true ∧ wrS (e2.set j y)[i]? = true ∧ Q .nx ((e2.set j y).set i x))) := by
  unfold mPar2; simp only [ok_bind, ok_store, okO_bind, putSl_eq]
theorem ok_par3 {i j l : Nat} {va vb vc : M Sl} {e : Ev} {Q : Fl → Ev → Prop} : Ok (mPar3 i j l va vb vc e) Q = Ok (va e) (fun x e1 => Ok (vb e1) (fun y e2 => Ok (vc e2) (fun z e3 => wrS e3[l]? = true ∧ wrS (e3.set l z)[j]? = true ∧ wrS ((e3.set l z).set j y)[i]? = true ∧ Q .nx (((e3.set l z).set j y).set i x)))) := by
  unfold mPar3; simp only [ok_bind, ok_store, okO_bind, putSl_eq]
def chgP (i : Nat) (o : Option Sl) (e : Ev) (f : List D → Option (List D)) (P : Ev → Prop) : Prop := match o with
  | some (.own ds) => okO (f ds) fun ds' => P (e.set i (.own ds'))
  | some (.cel ds) => okO (f ds) fun ds' => P (e.set i (.cel ds'))
  | _ => False
theorem chgP_own {i : Nat} {ds : List D} {e : Ev} {f : List D → Option (List D)} {P : Ev → Prop} : chgP i (some (.own ds)) e f P = okO (f ds) fun ds' => P (e.set i (.own ds')) := rfl
theorem chgP_cel {i : Nat} {ds : List D} {e : Ev} {f : List D → Option (List D)} {P : Ev → Prop} : chgP i (some (.cel ds)) e f P = okO (f ds) fun ds' => P (e.set i (.cel ds')) := rfl
theorem okO_chg {i : Nat} {f : List D → Option (List D)} {e : Ev} {P : Ev → Prop} : okO (chg i f e) P = chgP i e[i]? e f P := by
  unfold chg
  cases e[i]? with
  | none => rfl
  | some s => cases s <;> first | rfl | exact okO_map
def ownB (o : Option Sl) : Bool := match o with
  | some s => (cont s).isSome
  | none => false
theorem ownB_own {d : List D} : ownB (some (.own d)) = true := rfl
theorem ownB_cel {d : List D} : ownB (some (.cel d)) = true := rfl
theorem isOwnAt_eq {e : Ev} {i : Nat} : isOwnAt e i = ownB e[i]? := rfl
theorem ok_ifOwn {α : Type} {e : Ev} {i : Nat} {r : Res Ev (α × Ev)} {Q : α → Ev → Prop} : Ok (if isOwnAt e i = true then r else .bad) Q = (ownB e[i]? = true ∧ Ok r Q) := by
  rw [isOwnAt_eq]
  by_cases h : ownB e[i]? = true
  · rw [if_pos h]; exact propext ⟨fun p => ⟨h, p⟩, fun p => p.2⟩
  · rw [if_neg h]; exact propext ⟨fun p => p.elim, fun p => absurd p.1 h⟩
theorem ok_meth {i : Nat} {f : List D → List D → Option (List D)} {ml : M (List D)} {e : Ev} {Q : Fl → Ev → Prop} : Ok (mMeth i f ml e) Q = (ownB e[i]? = true ∧ Ok (ml e) (fun as e1 => chgP i e1[i]? e1 (f as) fun e2 => Q .nx e2)) := by
  unfold mMeth; rw [ok_ifOwn]; simp only [ok_bind, ok_store, okO_chg]
theorem ok_setIx {i : Nat} {ma mj : M D} {e : Ev} {Q : Fl → Ev → Prop} : Ok (mSetIx i ma mj e) Q = Ok (ma e) (fun d e1 => ownB e1[i]? = true ∧ Ok (mj e1) (fun j e2 => chgP i e2[i]? e2 (setAt j d) fun e3 => Q .nx e3)) := by
  unfold mSetIx; simp only [ok_bind, ok_ifOwn, ok_store, okO_chg]
theorem ok_extend {i : Nat} {mo : M (List D)} {e : Ev} {Q : Fl → Ev → Prop} : Ok (mExtend i mo e) Q = (ownB e[i]? = true ∧ Ok (mo e) (fun zs e1 => chgP i e1[i]? e1 (fun ds => if ds.length + zs.length ≤ sizeLine then some (ds ++ zs) else none) fun e2 => Q .nx e2)) := by
  unfold mExtend; rw [ok_ifOwn]; simp only [ok_bind, ok_store, okO_chg]
theorem ok_frz {i : Nat} {m : MS} {e : Ev} {Q : Fl → Ev → Prop} : Ok (mFrz i m e) Q = (match e[i]? with | some (.own ds) => Ok (m (e.set i (.dat (.list ds)))) Q | _ => False) := by
  unfold mFrz
  cases e[i]? with
  | none => rfl
  | some s => cases s <;> rfl
theorem ok_cmpO {f : D → D → Option Bool} {i : Nat} {mb : M D} {e : Ev} {Q : Bool → Ev → Prop} : Ok (mCmpO f i mb e) Q = (ownB e[i]? = true ∧ Ok (mb e) (fun y e1 => slL e1[i]? fun ds => okO (f (.list ds) y) fun k => Q k e1)) := by
  unfold mCmpO; rw [ok_ifOwn, ok_bind]
  congr 1
  congr 1
  funext y e1
  cases e1[i]? with
  | none => rfl
  | some s => cases s <;> first | rfl | exact ok_opt
theorem ok_rep {ml : M (List D)} {mb : M D} {e : Ev} {Q : List D → Ev → Prop} : Ok (mRep ml mb e) Q = Ok (ml e) (fun xs e1 => xs.length ≤ sizeLine ∧ Ok (mb e1) (fun y e2 => okO (match y with
  | .int k => if -(2 ^ 63) ≤ k ∧ k < 2 ^ 63 ∧ xs.length * k.toNat ≤ sizeLine then some (List.replicate k.toNat xs).flatten else none
  | _ => none) fun z => Q z e2)) := by
  unfold mRep; simp only [ok_bind, ok_lst, ok_opt] <;> rfl
theorem ok_listRg {ma mb : M D} {e : Ev} {Q : List D → Ev → Prop} : Ok (mListRg ma mb e) Q = Ok (ma e) (fun x e1 => Ok (mb e1) (fun y e2 => okO (dListRg [x, y]) fun z => Q z e2)) := by
  unfold mListRg; simp only [ok_bind, ok_opt]
/-! defs -/
theorem ok_F {f : Fn} {ml : M (List D)} {e : Ev} {Q : D → Ev → Prop} : Ok (mF f ml e) Q = Ok (ml e) (fun ds e1 => okF (f ds) fun d => Q d e1) := by
  unfold mF; rw [ok_bind]; congr 1; funext ds e1; unfold liftF; cases f ds <;> rfl
theorem ok_FO {f : List D → FR (List D)} {ml : M (List D)} {e : Ev} {Q : List D → Ev → Prop} : Ok (mFO f ml e) Q = Ok (ml e) (fun ds e1 => okF (f ds) fun d => Q d e1) := by
  unfold mFO; rw [ok_bind]; congr 1; funext ds e1; unfold liftF; cases f ds <;> rfl
def celP (i : Nat) (o : Option Sl) (e : Ev) (f : FnC) (ds : List D) (Q : D → Ev → Prop) : Prop := match o with
  | some (.own ds0) => okC (f ds0 ds) fun p => Q p.1 (e.set i (.own p.2))
  | some (.cel ds0) => okC (f ds0 ds) fun p => Q p.1 (e.set i (.cel p.2))
  | _ => False
theorem celP_own {i : Nat} {ds0 : List D} {e : Ev} {f : FnC} {ds : List D} {Q : D → Ev → Prop} : celP i (some (.own ds0)) e f ds Q = okC (f ds0 ds) fun p => Q p.1 (e.set i (.own p.2)) := rfl
theorem celP_cel {i : Nat} {ds0 : List D} {e : Ev} {f : FnC} {ds : List D} {Q : D → Ev → Prop} : celP i (some (.cel ds0)) e f ds Q = okC (f ds0 ds) fun p => Q p.1 (e.set i (.cel p.2)) := rfl
theorem ok_FC {i : Nat} {f : FnC} {ml : M (List D)} {e : Ev} {Q : D → Ev → Prop} : Ok (mFC i f ml e) Q = (ownB e[i]? = true ∧ Ok (ml e) (fun ds e1 => celP i e1[i]? e1 f ds Q)) := by
  unfold mFC; rw [ok_ifOwn, ok_bind]
  congr 1
  congr 1
  funext ds e1
  cases e1[i]? with
  | none => rfl
  | some s =>
    cases s with
    | own ds0 =>
      show Ok (match f ds0 ds with | .ok (d, ds1) => .ok (d, e1.set i (reSl (.own ds0) ds1)) | .exc c ds1 => .exc c (e1.set i (reSl (.own ds0) ds1)) | .bad => .bad) Q = _
      rw [celP_own]
      cases f ds0 ds <;> rfl
    | cel ds0 =>
      show Ok (match f ds0 ds with | .ok (d, ds1) => .ok (d, e1.set i (reSl (.cel ds0) ds1)) | .exc c ds1 => .exc c (e1.set i (reSl (.cel ds0) ds1)) | .bad => .bad) Q = _
      rw [celP_cel]
      cases f ds0 ds <;> rfl
    | _ => rfl
def scrP (o : Option Sl) (P : List Int → Prop) : Prop := match o with
  | some (.scr ns) => P ns
  | _ => False
theorem scrP_scr {ns : List Int} {P : List Int → Prop} : scrP (some (.scr ns)) P = P ns := rfl
theorem ok_FS {i : Nat} {f : List Int → List D → FR (List D)} {ml : M (List D)} {e : Ev} {Q : List D → Ev → Prop} : Ok (mFS i f ml e) Q = scrP e[i]? fun _ => Ok (ml e) (fun ds e1 => scrP e1[i]? fun ns => okF (f ns ds) fun d => Q d e1) := by
  unfold mFS
  cases e[i]? with
  | none => rfl
  | some s =>
    cases s with
    | scr ns =>
      show Ok (mBind ml _ e) Q = _
      rw [ok_bind]
      show Ok (ml e) _ = Ok (ml e) _
      congr 1
      funext ds e1
      cases e1[i]? with
      | none => rfl
      | some s =>
        cases s with
        | scr ns =>
          show Ok (match f ns ds with | .ok d => .ok (d, e1) | .exc c _ => .exc c e1 | .bad => .bad) Q = okF (f ns ds) fun d => Q d e1
          cases f ns ds <;> rfl
        | _ => rfl
    | _ => rfl
/-! what is walked, loops -/
theorem ok_items {m : M D} {e : Ev} {Q : List D → Ev → Prop} : Ok (mItems m e) Q = Ok (m e) (fun d e1 => okO (dItems d) fun z => Q z e1) := by
  unfold mItems; simp only [ok_bind, ok_opt]
theorem ok_signs {m : M D} {e : Ev} {Q : List D → Ev → Prop} : Ok (mSigns m e) Q = Ok (m e) (fun d e1 => okO (dSigns d) fun z => Q z e1) := by
  unfold mSigns; simp only [ok_bind, ok_opt]
theorem ok_range1 {m : M (List D)} {e : Ev} {Q : List D → Ev → Prop} : Ok (mRange1 m e) Q = Ok (m e) (fun d e1 => okO (dRange1 d) fun z => Q z e1) := by
  unfold mRange1; simp only [ok_bind, ok_opt]
theorem ok_range2 {m : M (List D)} {e : Ev} {Q : List D → Ev → Prop} : Ok (mRange2 m e) Q = Ok (m e) (fun d e1 => okO (dRange2 d) fun z => Q z e1) := by
  unfold mRange2; simp only [ok_bind, ok_opt]
theorem ok_range3 {m : M (List D)} {e : Ev} {Q : List D → Ev → Prop} : Ok (mRange3 m e) Q = Ok (m e) (fun d e1 => okO (dRange3 d) fun z => Q z e1) := by
  unfold mRange3; simp only [ok_bind, ok_opt]
theorem ok_zip {m : M (List D)} {e : Ev} {Q : List D → Ev → Prop} : Ok (mZip m e) Q = Ok (m e) (fun d e1 => okO (dZip d) fun z => Q z e1) := by
  unfold mZip; simp only [ok_bind, ok_opt]
theorem ok_enum {m : M (List D)} {e : Ev} {Q : List D → Ev → Prop} : Ok (mEnum m e) Q = Ok (m e) (fun d e1 => okO (dEnum d) fun z => Q z e1) := by
  unfold mEnum; simp only [ok_bind, ok_opt]
theorem ok_for {mi : M (List D)} {g : GT} {mb : MS} {e : Ev} {Q : Fl → Ev → Prop} : Ok (mFor mi g mb e) Q = Ok (mi e) (fun ds e1 => Ok (forL g mb ds e1) Q) := by
  unfold mFor; rw [ok_bind]
theorem forL_nil {g : GT} {mb : MS} {e : Ev} {Q : Fl → Ev → Prop} : Ok (forL g mb [] e) Q = Q .nx e := rfl
/-- what a turn's end asks -/
def turnP (g : GT) (mb : MS) (r : List D) (Q : Fl → Ev → Prop) (fl : Fl) (e : Ev) : Prop := match fl with
  | .nx => Ok (forL g mb r e) Q
  | .ct => Ok (forL g mb r e) Q
  | .bk => Q .nx e
  | fl => Q fl e
theorem forL_cons {g : GT} {mb : MS} {d : D} {r : List D} {e : Ev} {Q : Fl → Ev → Prop} : Ok (forL g mb (d :: r) e) Q = okO (g d e) fun e1 => Ok (mb e1) (turnP g mb r Q) := by
  show Ok (match g d e with
    | none => .bad
    | some e1 => match mb e1 with
      | .ok (.nx, e2) => forL g mb r e2
      | .ok (.ct, e2) => forL g mb r e2
      | .ok (.bk, e2) => .ok (.nx, e2)
      | o => o) Q = _
  cases g d e with
  | none => rfl
  | some e1 =>
    show Ok (match mb e1 with
      | .ok (.nx, e2) => forL g mb r e2
      | .ok (.ct, e2) => forL g mb r e2
      | .ok (.bk, e2) => .ok (.nx, e2)
      | o => o) Q = Ok (mb e1) (turnP g mb r Q)
    cases mb e1 with
    | ok p => obtain ⟨fl, e2⟩ := p; cases fl <;> rfl
    | exc c e => rfl
    | bad => rfl
/-- a loop by what holds between two turns; R: what a return asks -/
theorem forL_inv {g : GT} {mb : MS} {ds : List D} {e : Ev} {Q : Fl → Ev → Prop} (P : Nat → Ev → Prop) (h0 : P 0 e)
    (hs : ∀ i d e, ds[i]? = some d → P i e → okO (g d e) fun e1 => Ok (mb e1) fun fl e2 => match fl with
      | .nx => P (i + 1) e2
      | .ct => P (i + 1) e2
      | .bk => Q .nx e2
      | fl => Q fl e2)
    (hd : ∀ e, P ds.length e → Q .nx e) : Ok (forL g mb ds e) Q := by
  suffices h : ∀ (n i : Nat) (e : Ev), i + n = ds.length → P i e → Ok (forL g mb (ds.drop i) e) Q by
    have := h ds.length 0 e (by omega) h0
    rwa [List.drop_zero] at this
  intro n
  induction n with
  | zero =>
    intro i e hi p
    rw [List.drop_of_length_le (by omega)]
    have : i = ds.length := by omega
    subst this
    exact hd e p
  | succ n ih =>
    intro i e hi p
    have hlt : i < ds.length := by omega
    rw [List.drop_eq_getElem_cons hlt, forL_cons]
    have q := hs i _ e (List.getElem?_eq_getElem hlt) p
    cases hg : g ds[i] e with
    | none => rw [hg] at q; exact q.elim
    | some e1 =>
      rw [hg] at q
      refine Ok.mono (show Ok (mb e1) _ from q) fun fl e2 q2 => ?_
      cases fl with
      | nx => exact ih (i + 1) e2 (by omega) q2
      | ct => exact ih (i + 1) e2 (by omega) q2
      | bk => exact q2
      | rt d => exact q2
      | ro d => exact q2
theorem ok_comp {mi : M (List D)} {vs : List Nat} {g : GT} {mt : M Bool} {me : M D} {e : Ev} {Q : List D → Ev → Prop} : Ok (mComp mi vs g mt me e) Q = Ok (mi e) (fun ds e1 => Ok (compL vs g mt me ds [] (wipeE e1 vs)) fun acc e2 => Q acc (restE e1 vs e2)) := by
  unfold mComp; rw [ok_bind]; congr 1; funext ds e1
  cases compL vs g mt me ds [] (wipeE e1 vs) <;> rfl
/-- a comprehension whose items are each asked alone, the frame as it was -/
theorem compL_map {vs : List Nat} {g : GT} {mt : M Bool} {me : M D} {ds : List D} {e : Ev} {Q : List D → Ev → Prop} (F : D → List D) (hn : ds.length ≤ sizeLine) (hw : wipeE e vs = e)
    (hs : ∀ d ∈ ds, okO (g d e) fun e1 => Ok (mt e1) fun k e2 => if k = true then Ok (me e2) fun y e3 => F d = [y] ∧ wipeE e3 vs = e else F d = [] ∧ wipeE e2 vs = e)
    (hq : Q (ds.flatMap F) e) : Ok (compL vs g mt me ds [] e) Q := by
  suffices h : ∀ (ds : List D) (acc : List D), acc.length + ds.length ≤ sizeLine → (∀ d ∈ ds, okO (g d e) fun e1 => Ok (mt e1) fun k e2 => if k = true then Ok (me e2) fun y e3 => F d = [y] ∧ wipeE e3 vs = e else F d = [] ∧ wipeE e2 vs = e) → compL vs g mt me ds acc e = .ok (acc ++ ds.flatMap F, e) by
    rw [h ds [] (by simpa using hn) hs]
    exact hq
  intro ds
  induction ds with
  | nil => intro acc _ _; simp [compL]
  | cons d r ih =>
    intro acc hl hs
    have q := hs d (by simp)
    unfold compL
    cases hg : g d e with
    | none => rw [hg] at q; exact q.elim
    | some e1 =>
      rw [hg] at q
      have q : Ok (mt e1) fun k e2 => if k = true then Ok (me e2) fun y e3 => F d = [y] ∧ wipeE e3 vs = e else F d = [] ∧ wipeE e2 vs = e := q
      simp only
      cases hm : mt e1 with
      | bad => rw [hm] at q; exact q.elim
      | exc c e => rw [hm] at q; exact q.elim
      | ok p =>
        obtain ⟨k, e2⟩ := p
        rw [hm, ok_ok] at q
        cases k with
        | false =>
          rw [if_neg Bool.false_ne_true] at q
          simp only
          rw [q.2, ih acc (by simp at hl; omega) fun d hd => hs d (by simp [hd]), List.flatMap_cons, q.1]
          simp
        | true =>
          rw [if_pos rfl] at q
          simp only
          cases hme : me e2 with
          | bad => rw [hme] at q; exact q.elim
          | exc c e => rw [hme] at q; exact q.elim
          | ok p =>
            obtain ⟨y, e3⟩ := p
            rw [hme, ok_ok] at q
            simp only
            have hacc : acc.length < sizeLine := by simp at hl; omega
            rw [if_pos hacc, q.2, ih (acc ++ [y]) (by simp at hl ⊢; omega) fun d hd => hs d (by simp [hd]), List.flatMap_cons, q.1]
            simp
/-! runs -/
theorem okF_ret {r : Res Ev (Fl × Ev)} {P : D → Prop} : okF (retD r) P = Ok r fun fl _ => match fl with
    | .rt d => P d
    | .ro ds => P (.list ds)
    | .nx => P .none
    | _ => False := by
  cases r with
  | ok p => obtain ⟨fl, e⟩ := p; cases fl <;> rfl
  | exc c e => rfl
  | bad => rfl
theorem okF_retO {r : Res Ev (Fl × Ev)} {P : List D → Prop} : okF (retO r) P = Ok r fun fl _ => match fl with
    | .ro ds => P ds
    | _ => False := by
  cases r with
  | ok p => obtain ⟨fl, e⟩ := p; cases fl <;> rfl
  | exc c e => rfl
  | bad => rfl
theorem okC_ret {r : Res Ev (Fl × Ev)} {P : D × List D → Prop} : okC (retC r) P = Ok r fun fl e => okO (celAt e) fun ds => match fl with
    | .rt d => P (d, ds)
    | .ro ls => P (.list ls, ds)
    | .nx => P (.none, ds)
    | _ => False := by
  cases r with
  | ok p =>
    obtain ⟨fl, e⟩ := p
    cases fl with
    | bk => show False = _; rw [ok_ok]; cases celAt e <;> rfl
    | ct => show False = _; rw [ok_ok]; cases celAt e <;> rfl
    | rt d =>
      show okC (match celAt e with | some ds => .ok (d, ds) | none => .bad) P = okO (celAt e) fun ds => P (d, ds)
      cases celAt e <;> rfl
    | ro d =>
      show okC (match celAt e with | some ds => .ok (.list d, ds) | none => .bad) P = okO (celAt e) fun ds => P (.list d, ds)
      cases celAt e <;> rfl
    | nx =>
      show okC (match celAt e with | some ds => .ok (.none, ds) | none => .bad) P = okO (celAt e) fun ds => P (.none, ds)
      cases celAt e <;> rfl
  | exc c e =>
    show okC (match celAt e with | some ds => .exc c ds | none => .bad) P = False
    cases celAt e <;> rfl
  | bad => rfl
theorem okF_eq {α : Type} {r : FR α} {a : α} (h : okF r fun x => x = a) : r = .ok a := by
  cases r with
  | ok x => exact congrArg Res.ok h
  | _ => exact h.elim
theorem okF_ex {α : Type} {r : FR α} {P : α → Prop} (h : okF r P) : ∃ a, r = .ok a ∧ P a := by
  cases r with
  | ok x => exact ⟨x, rfl, h⟩
  | _ => exact h.elim
theorem okC_ex {ε α : Type} {r : Res ε α} {P : α → Prop} (h : okC r P) : ∃ a, r = .ok a ∧ P a := by
  cases r with
  | ok x => exact ⟨x, rfl, h⟩
  | _ => exact h.elim
/-! values -/
section
variable {P : D → Prop} {R : Bool → Prop} {i j : Int} {k : Bool} {xs ys : List D} {x y : Str} {dx dy : D}
theorem v_addII : okO (dAdd (.int i) (.int j)) P = P (.int (i + j)) := rfl
theorem v_addIB : okO (dAdd (.int i) (.bool k)) P = P (.int (i + b2i k)) := rfl
theorem v_addTT : okO (dAdd (.tuple xs) (.tuple ys)) P = (xs.length + ys.length ≤ sizeLine ∧ P (.tuple (xs ++ ys))) := okO_ite
theorem v_addLL : okO (dAdd (.list xs) (.list ys)) P = (xs.length + ys.length ≤ sizeLine ∧ P (.list (xs ++ ys))) := okO_ite
theorem v_addSS : okO (dAdd (.str x) (.str y)) P = (x.length + y.length ≤ sizeLine ∧ P (.str (x ++ y))) := okO_ite
theorem v_catLL {P : List D → Prop} : okO (dCatO (.list xs) (.list ys)) P = (xs.length + ys.length ≤ sizeLine ∧ P (xs ++ ys)) := okO_ite
theorem v_sub : okO (dSub (.int i) (.int j)) P = P (.int (i - j)) := rfl
theorem v_mul : okO (dMulI (.int i) (.int j)) P = (((-(2 ^ 64) < i ∧ i < 2 ^ 64) ∨ (-(2 ^ 64) < j ∧ j < 2 ^ 64)) ∧ P (.int (i * j))) := okO_ite
theorem v_mod : okO (dMod (.int i) (.int j)) P = (0 < j ∧ P (.int (i % j))) := okO_ite
theorem v_div : okO (dDiv (.int i) (.int j)) P = ((0 < j ∧ j < 1073741824) ∧ P (.int (i / j))) := okO_ite
theorem v_pow : okO (dPow (.int i) (.int j)) P = ((0 ≤ j ∧ j ≤ 1000000 ∧ i.natAbs < 2 ^ 64) ∧ P (.int (i ^ j.toNat))) := okO_ite
theorem v_neg : okO (dNeg (.int i)) P = P (.int (-i)) := rfl
theorem v_cmp {p : Int → Int → Bool} : okO (dCmp p (.int i) (.int j)) R = R (p i j) := rfl
theorem v_eq : okO (dEq dx dy) R = ((SeqAt.shaped dx = true ∧ SeqAt.shaped dy = true) ∧ R (PyData.eqv dx dy)) := okO_ite
theorem v_ne : okO (dNe dx dy) R = ((SeqAt.shaped dx = true ∧ SeqAt.shaped dy = true) ∧ R (!PyData.eqv dx dy)) := okO_ite
theorem v_isNone_n : okO (dIsNone .none .none) R = R true := rfl
theorem v_isNone_b : okO (dIsNone (.bool k) .none) R = R false := rfl
theorem v_isNone_i : okO (dIsNone (.int i) .none) R = R false := rfl
theorem v_isNone_s : okO (dIsNone (.str x) .none) R = R false := rfl
theorem v_isNone_l : okO (dIsNone (.list xs) .none) R = R false := rfl
theorem v_isNone_t : okO (dIsNone (.tuple xs) .none) R = R false := rfl
theorem v_notNone_n : okO (dNotNone .none .none) R = R false := rfl
theorem v_notNone_b : okO (dNotNone (.bool k) .none) R = R true := rfl
theorem v_notNone_i : okO (dNotNone (.int i) .none) R = R true := rfl
theorem v_notNone_s : okO (dNotNone (.str x) .none) R = R true := rfl
theorem v_notNone_l : okO (dNotNone (.list xs) .none) R = R true := rfl
theorem v_notNone_t : okO (dNotNone (.tuple xs) .none) R = R true := rfl
theorem v_isBl {a b : Bool} : okO (dIsBl (.bool a) (.bool b)) R = R (decide (a = b)) := rfl
theorem v_in : okO (dInA dx (.list ys)) R = ((SeqAt.shaped dx = true ∧ SeqAt.shaped (.list ys) = true) ∧ R (ys.any fun y => PyData.eqv y dx)) := by
  have h : dInA dx (.list ys) = if SeqAt.shaped dx = true ∧ SeqAt.shaped (.list ys) = true then some (ys.any fun y => PyData.eqv y dx) else none := by
    unfold dInA
    split
    · rename_i h; cases h; rfl
    · rename_i h; cases h
    · rename_i h1 h2; exact absurd rfl (h1 ys)
  rw [h]
  exact okO_ite
theorem v_notIn : okO (dNotInA dx (.list ys)) R = ((SeqAt.shaped dx = true ∧ SeqAt.shaped (.list ys) = true) ∧ R (!ys.any fun y => PyData.eqv y dx)) := by
  unfold dNotInA; rw [okO_map, v_in]
theorem v_inS : okO (dInA (.str x) (.str y)) R = okO (oneSign x) fun c => R (decide (c ∈ y.cps.toList)) := okO_map
theorem v_notInS : okO (dNotInA (.str x) (.str y)) R = okO (oneSign x) fun c => R (!decide (c ∈ y.cps.toList)) := by
  unfold dNotInA; rw [okO_map, v_inS]
theorem v_ixL : okO (dIx (.list xs) (.int i)) P = okO (atI xs i) P := rfl
theorem v_ixT : okO (dIx (.tuple xs) (.int i)) P = okO (atI xs i) P := rfl
theorem v_ixS : okO (dIx (.str x) (.int i)) P = (x.length ≤ sizeLine ∧ okO (atI x.cps.toList i) fun c => P (.str ⟨#[c]⟩)) := by
  show okO (if x.length ≤ sizeLine then (atI x.cps.toList i).map fun c => PyData.str ⟨#[c]⟩ else none) P = _
  by_cases h : x.length ≤ sizeLine
  · rw [if_pos h, okO_map]; exact propext ⟨fun p => ⟨h, p⟩, fun p => p.2⟩
  · rw [if_neg h]; exact propext ⟨fun p => p.elim, fun p => absurd p.1 h⟩
theorem v_slL {lo hi : Option Int} : okO (dSl (.list xs) lo hi) P = P (.list (cutD xs lo hi)) := rfl
theorem v_slT {lo hi : Option Int} : okO (dSl (.tuple xs) lo hi) P = P (.tuple (cutD xs lo hi)) := rfl
theorem v_revL : okO (dRev (.list xs)) P = P (.list xs.reverse) := rfl
theorem v_revT : okO (dRev (.tuple xs)) P = P (.tuple xs.reverse) := rfl
theorem v_lenL : okO (dLen [.list xs]) P = P (.int xs.length) := rfl
theorem v_lenT : okO (dLen [.tuple xs]) P = P (.int xs.length) := rfl
theorem v_lenS : okO (dLen [.str x]) P = (x.length ≤ sizeLine ∧ P (.int x.length)) := okO_ite
theorem v_max2 : okO (dMax2 [.int i, .int j]) P = P (.int (max i j)) := rfl
theorem v_min2 : okO (dMin2 [.int i, .int j]) P = P (.int (min i j)) := rfl
theorem v_sum {ns : List Int} (h : ints? xs = some ns) : okO (dSum [.list xs]) P = P (.int ns.sum) := by
  show okO ((ints? xs).map fun ns => .int ns.sum) P = _
  rw [h]; rfl
theorem v_all {ns : List Bool} (h : bools? xs = some ns) : okO (dAll [.list xs]) P = P (.bool (ns.all id)) := by
  show okO ((bools? xs).map fun ns => .bool (ns.all id)) P = _
  rw [h]; rfl
theorem v_intB : okO (dIntC [.bool k]) P = P (.int (if k then 1 else 0)) := rfl
theorem v_intI : okO (dIntC [.int i]) P = P (.int i) := rfl
theorem v_tupL : okO (dTupC [.list xs]) P = P (.tuple xs) := rfl
theorem v_tupT : okO (dTupC [.tuple xs]) P = P (.tuple xs) := rfl
theorem v_listL {P : List D → Prop} : okO (dListC [.list xs]) P = P xs := rfl
theorem v_listT {P : List D → Prop} : okO (dListC [.tuple xs]) P = P xs := rfl
theorem v_truB : okO (dTru (.bool k)) R = R k := rfl
theorem v_truI : okO (dTru (.int i)) R = R (i != 0) := rfl
theorem v_truN : okO (dTru .none) R = R false := rfl
theorem v_blB : okO (dBl (.bool k)) R = R k := rfl
theorem v_int {P : Int → Prop} : okO (dInt (.int i)) P = P i := rfl
theorem v_itL {P : List D → Prop} : okO (dItems (.list xs)) P = P xs := rfl
theorem v_itT {P : List D → Prop} : okO (dItems (.tuple xs)) P = P xs := rfl
theorem v_sig {P : List D → Prop} : okO (dSigns (.str x)) P = P (x.cps.toList.map fun c => .str ⟨#[c]⟩) := rfl
theorem v_rng1 {P : List D → Prop} : okO (dRange1 [.int j]) P = (rngOk j = true ∧ P (rangeD 0 j)) := okO_ite
theorem v_rng2 {P : List D → Prop} : okO (dRange2 [.int i, .int j]) P = ((rngOk i = true ∧ rngOk j = true) ∧ P (rangeD i j)) := okO_ite
theorem v_lrg {P : List D → Prop} : okO (dListRg [.int i, .int j]) P = ((rngOk i = true ∧ rngOk j = true ∧ (j - i).toNat ≤ 2 ^ 24) ∧ P (rangeD i j)) := okO_ite
theorem v_zipL {P : List D → Prop} : okO (dZip [.list xs, .list ys]) P = P (zipD xs ys) := rfl
theorem v_zipT {P : List D → Prop} : okO (dZip [.tuple xs, .tuple ys]) P = P (zipD xs ys) := rfl
theorem v_enum {P : List D → Prop} : okO (dEnum [.list xs]) P = P (enumD xs) := rfl
theorem v_app {P : List D → Prop} : okO (dAppend [dx] xs) P = (xs.length < sizeLine ∧ P (xs ++ [dx])) := okO_ite
theorem v_setAt {P : List D → Prop} : okO (setAt (.int i) dx xs) P = okO (ixN xs.length i) fun n => P (xs.set n dx) := okO_map
theorem atI_some {α : Type} {l : List α} {i : Int} {n : Nat} {a : α} (hi : i = (n : Int)) (h : l[n]? = some a) : atI l i = some a := by
  subst hi; exact atI_nat h
end
end DL

namespace DL
open PySem PySem.Spec PyProof.Rows L2
/-! ## sets of keys (ints, texts): how many -/
section
variable {K : Type} [DecidableEq K]
def addK (l : List K) (x : K) : List K := if x ∈ l then l else l ++ [x]
def metK (xs : List K) : Nat → List K
  | 0 => []
  | i + 1 => match xs[i]? with
    | some x => addK (metK xs i) x
    | none => metK xs i
theorem metK_len (xs : List K) : ∀ i, (metK xs i).length ≤ i
  | 0 => Nat.le_refl _
  | i + 1 => by
    have ih := metK_len xs i
    unfold metK
    cases xs[i]? with
    | none => exact Nat.le_succ_of_le ih
    | some x =>
      show (addK _ x).length ≤ _
      unfold addK
      split
      · omega
      · simp; exact ih
def mixS (l : List K) : K → Bool := fun k => decide (k ∈ l)
theorem mixS_add (l : List K) (x : K) : (fun k => mixS l k || decide (k = x)) = mixS (addK l x) := by
  funext k
  unfold mixS addK
  by_cases h : x ∈ l
  · rw [if_pos h]
    by_cases e : k = x
    · subst e; simp [h]
    · simp [e]
  · rw [if_neg h]
    simp
theorem mixS_n (l : List K) (x : K) : (if mixS l x = true then l.length else l.length + 1) = (addK l x).length := by
  unfold mixS addK
  by_cases h : x ∈ l
  · simp [h]
  · simp [h]
variable {P : Program} {w : World} {A : Around} {R : Result → Shared → Prop} {I : Addr} {fp wr : List Addr} {G : Array GenState → Array GenState → Prop} {n : Nat} {Pv : Nat → Value → Prop} {St : Nat → Shared → Prop}
theorem loopMix (kd : PySem.KeyKind P w K) (W : WalksS P w A.in1 I fp wr G n Pv St) (S : Addr) (hSf : S ∉ fp) (xs : List K) (hb : n + 1 < scanBound)
    (hval : ∀ i v, Pv i v → ∃ k, xs[i]? = some k ∧ kd.is k v = true ∧ v.scannable = true) (d : Nat) : ∀ (i : Nat) (s : Shared), i + d = n → St i s →
      s.heap.SetOf kd S (mixS (metK xs i)) (metK xs i).length →
      (∀ s', Moved (S :: wr) G s s' → s'.heap.SetOf kd S (mixS (metK xs n)) (metK xs n).length → R (.ok (.ret .none)) s') →
      codeAny (model P w) A (.builtin "set.update.loop" ⟨[.ref S, .ref I], []⟩) R s := by
  have hw : S ∉ wr := fun h => hSf (W.sub _ h)
  have up : ∀ b ∈ wr, b ∈ S :: wr := fun b h => .tail _ h
  induction d with
  | zero =>
    intro i s e hst hS fin
    obtain rfl : i = n := e
    refine codeAny_builtin PyProof.Rows.F.entry_set_update_loop ?_; rw [Around.under_plainId PyProof.Rows.F.plain_set_update_loop _]
    refine wpAny_bind (m := pyNext (.ref I)) (W.done s _ _ hst fun s' mv => ?_)
    show wpAny _ A.in1 (ret Value.none) _ _ s'
    refine wpAny_pure ?_
    exact fin s' (mv.mono up) (setOf_keep hS fun o q => mv.heap S o hw q)
  | succ d ih =>
    intro i s e hst hS fin
    have lt : i < n := by omega
    refine codeAny_builtin PyProof.Rows.F.entry_set_update_loop ?_; rw [Around.under_plainId PyProof.Rows.F.plain_set_update_loop _]
    refine wpAny_bind (m := pyNext (.ref I)) (W.item i s _ _ lt hst fun v s' pv hst' mv => ?_)
    obtain ⟨k, hk, his, hsc⟩ := hval i v pv
    have hS2 := setOf_keep (h' := s'.heap) hS fun o q => mv.heap S o hw q
    refine wpAny_bind (m := holding [v] (setAdd S v)) (wpAny_holding ?_)
    unfold setAdd
    refine wpAny_holding (wpAny_bind (kd.pyHash (k := k) his ?_))
    have room : (metK xs i).length + 1 < scanBound := by have := metK_len xs i; omega
    refine wpAny_setAddHashed_of (knd := kd) (s := { s' with toks := s'.toks + 1 }) his hsc hS2 room fun h' sb hS3 => ?_
    have e3 : metK xs (i + 1) = addK (metK xs i) k := by show (match xs[i]? with | some x => addK (metK xs i) x | none => metK xs i) = _; rw [hk]
    rw [mixS_add, mixS_n, ← e3] at hS3
    refine wpAny_pure ⟨plainId_quiet PyProof.Rows.F.plain_set_update_loop _, ih (i + 1) _ (by omega) (W.frame _ s' _ _ hst' (Nat.le_succ _) fun b hb o q => (sb.2 b (fun z : b = S => hSf (z ▸ hb))).trans q) hS3 fun s3 mv3 hS4 => ?_⟩
    refine fin s3 (Moved.trans W.gtrans ((mv.mono up).then_heap (Nat.le_succ _) fun b o hb q => ?_) mv3) hS4
    exact (sb.2 b (fun z : b = S => hb (z ▸ .head _))).trans q
where
  setOf_keep {kd : PySem.KeyKind P w K} {h h' : Heap} {a : Addr} {S : K → Bool} {n : Nat} (R : h.SetOf kd a S n) (k : ∀ o, h.get? a = some o → h'.get? a = some o) : h'.SetOf kd a S n := by
    obtain ⟨o, es, ep, t, ho, r⟩ := R
    exact ⟨o, es, ep, t, k o ho, r⟩
variable {E : Value → Shared → Prop} {s : Shared}
theorem call_setK (kd : PySem.KeyKind P w K) {l : Addr} {items : Array Value} (xs : List K) {Q : Value → Shared → Prop} (hh : A.handled = none) (hl : s.heap.IsList l items)
    (hv : ∀ (i : Nat) (v : Value), items[i]? = some v → ∃ k, xs[i]? = some k ∧ kd.is k v = true ∧ v.scannable = true) (hb : items.size + 1 < scanBound)
    (h : ∀ (h' : Heap) (tk : Nat), h'.SetOf kd s.heap.objs.size (mixS (metK xs items.size)) (metK xs items.size).length → (∀ b o, b < s.heap.objs.size → s.heap.get? b = some o → h'.get? b = some o) → Q (.ref s.heap.objs.size) { s with heap := h', toks := tk }) :
    wpAny (model P w) A (call (.type "set") [.ref l]) Q E s := by
  obtain ⟨mc, mt, mr⟩ := PySem.F.called_set.mro
  have f1 := PySem.F.called_set.made; have f2 := PySem.F.called_set.sub; have f3 := PySem.F.called_set.notType; have f4 := PySem.F.called_set.canCreate; have f5 := PySem.F.typeCall_set_1 (.ref l)
  refine wpAny_call (codeAny_of_tree (show wpAny _ _ (callAny (.type "set") _) _ _ _ from wpAny_pure ⟨Code.quiet_builtin _ (by decide +kernel), codeAny_builtin PySem.F.entry_type_call ?_⟩))
  rw [Around.under_plain (weight_type_call_type "set" [.ref l] []) rfl]
  repeat (any_goals (first | assumption | wp_step))
  refine codeAny_mono (code_set_new_1 (.ref l) (E := E) (Q₁ := fun z t => ∃ b : Bool, z = .ref s.heap.objs.size ∧ t = { s with heap := s.heap.push { cls := .type "set", dict := none, data := .set #[] 0 (.fresh 0 0 b) } }) fun b => ⟨b, rfl, rfl⟩) fun r t hr => ?_
  rcases r with e | fl
  · exact hr
  cases fl with
  | ret z =>
    obtain ⟨b, rfl, rfl⟩ := hr
    have g1 : (s.heap.push { cls := .type "set", dict := none, data := .set #[] 0 (.fresh 0 0 b) }).get? s.heap.objs.size = some ⟨.type "set", none, .set #[] 0 (.fresh 0 0 b), #[]⟩ := Heap.get?_push_size _ rfl
    have g2 : Shared.TypeIs { s with heap := s.heap.push { cls := .type "set", dict := none, data := .set #[] 0 (.fresh 0 0 b) } } (.ref s.heap.objs.size) "set" := ⟨_, g1, rfl⟩
    have g3 := PySem.F.called_set.init.lookup; have g4 := PySem.F.called_set.init.bind (.ref s.heap.objs.size)
    repeat (any_goals (first | assumption | wp_step))
    refine codeAny_mono (codeAny_call_builtin (R := wants (fun r t => r = .none ∧ ∃ h' tk, t = { s with heap := h', toks := tk } ∧ h'.SetOf kd s.heap.objs.size (mixS (metK xs items.size)) (metK xs items.size).length ∧
      (∀ b o, b < s.heap.objs.size → s.heap.get? b = some o → h'.get? b = some o)) E) PySem.F.called_set.init.plain PySem.F.entry_set_init (check_set_init_1 g2 ?_)) fun r t hr => ?_
    · obtain ⟨⟨oc, od, oda, os⟩, ho, hc, nl, hd⟩ := hl
      simp only at hc hd
      subst hc; subst hd
      have ho2 : (s.heap.push { cls := .type "set", dict := none, data := .set #[] 0 (.fresh 0 0 b) }).get? l = some { cls := .type "list", dict := od, data := .seq items nl, slots := os } := Heap.get?_push_of_some _ ho
      have t1 := PySem.F.sub_list_set; have t2 := PySem.F.sub_list_frozenset
      have t3 : (Value.type "list" == Value.type "dict") = false := by decide
      have hl2 : (s.heap.push { cls := .type "set", dict := none, data := .set #[] 0 (.fresh 0 0 b) }).IsList l items := ⟨_, ho2, rfl, nl, rfl⟩
      unfold Builtin.«set.__init__» noKeywords Builtin.Frozenset.updateFrom
      generalize hPI : pyIter = PI
      wp_walk
      subst hPI
      refine wpAny_pyIter_list hl2 ?_
      refine wpAny_bind (wpAny_runValue ?_)
      have lt : l < s.heap.objs.size := Heap.lt_size ho
      have n1 : l ≠ (s.heap.push { cls := .type "set", dict := none, data := .set #[] 0 (.fresh 0 0 b) }).objs.size := by rw [Heap.size_push]; exact Nat.ne_of_lt (Nat.lt_succ_of_lt lt)
      have n2 : s.heap.objs.size ∉ [(s.heap.push { cls := .type "set", dict := none, data := .set #[] 0 (.fresh 0 0 b) }).objs.size, l] := by
        rw [Heap.size_push]; simp only [List.mem_cons, List.mem_singleton, List.not_mem_nil, or_false, not_or]; exact ⟨Nat.ne_of_lt (Nat.lt_succ_self _), Nat.ne_of_gt lt⟩
      refine loopMix kd ((Walks.list (A := A.in1.in1.in1) (by simp [hh]) _ l n1 items).toS) s.heap.objs.size n2 xs hb hv (items.size - 0) 0 _ (by omega) ⟨⟨_, Heap.get?_push_size _ rfl, rfl, rfl⟩, (hl2.push _)⟩ ?atStart ?atEnd
      case atStart =>
        have g5 := Heap.get?_push_of_some { cls := .type "list_iterator", data := .fields #[.ref l, .int 0 0] } g1
        exact PyProof.Rows.SetOf_congr ((PyProof.Rows.setObjOf_fresh (knd := kd) b).setOf g5 (by unfold scanBound; omega)) (fun k => by simp [mixS, metK]) rfl
      case atEnd =>
        intro s' mv hS'
        obtain ⟨h', g', d', tk', os'⟩ := s'
        obtain rfl : g' = s.gens := mv.gens
        obtain rfl : d' = s.drawn := mv.drawn
        obtain rfl : os' = s.os := mv.os
        show wpAny _ _ _ _ _ _; refine wpAny_pure ?_; show wpAny _ _ (ret Value.none) _ _ _
        refine wpAny_pure ⟨rfl, h', tk', rfl, hS', fun b o hb e => ?_⟩
        refine mv.heap b o ?_ (Heap.get?_push_of_some _ (Heap.get?_push_of_some _ e))
        rw [Heap.size_push]; simp only [List.mem_cons, List.mem_singleton, List.not_mem_nil, or_false, not_or]; exact ⟨Nat.ne_of_lt hb, Nat.ne_of_lt (Nat.lt_succ_of_lt hb)⟩
    · rcases r with e | fl
      · exact hr
      cases fl with
      | ret z =>
        obtain ⟨rfl, h', tk, rfl, hS', hk⟩ := hr
        repeat (any_goals (first | assumption | wp_step))
        exact h _ _ hS' hk
      | _ => exact hr.elim
  | _ => exact hr.elim
end
end DL

namespace DL
open PySem PySem.Spec PyProof.Rows L2
/-! ## len(set(xs)) -/
def keyD : D → Option Key
  | .int i => some (.inl i)
  | .str x => some (.inr x)
  | _ => none
def keysD : List D → Option (List Key)
  | [] => some []
  | d :: ds => match keyD d, keysD ds with
    | some k, some ks => some (k :: ks)
    | _, _ => none
def dLenSet : D → Option D
  | .list xs => match keysD xs with
    | some ks => if ks.length < 4000 then some (.int ((metK ks ks.length).length : Nat)) else none
    | none => none
  | _ => none
def mLenSet (m : M D) : M D := mUn dLenSet m
theorem keyD_dt {G : Hp} {v : V} {d : D} {k : Key} (h : Dt G v d) (e : keyD d = some k) : v = kV k := by
  cases h <;> first | (cases e; done) | (cases e; rfl)
theorem keysD_dt {G : Hp} : ∀ {ds : List D} {vs : List V} {ks : List Key}, DtAll G vs ds → keysD ds = some ks → vs = ks.map kV
  | [], _, _, .nil, e => by cases e; rfl
  | d :: ds, _, ks, .cons h t, e => by
    unfold keysD at e
    cases h1 : keyD d with
    | none => rw [h1] at e; exact nomatch e
    | some k =>
      cases h2 : keysD ds with
      | none => rw [h1, h2] at e; exact nomatch e
      | some r =>
        rw [h1, h2] at e
        cases e
        rw [keyD_dt h h1, keysD_dt t h2]
        rfl
theorem vals_at {vs : List V} {us : List Value} (h : Vals vs us) (i : Nat) (u : Value) (e : us[i]? = some u) : ∃ v, vs[i]? = some v ∧ RelV v u := by
  induction h generalizing i with
  | nil => simp at e
  | cons r t ih =>
    cases i with
    | zero => simp at e; subst e; exact ⟨_, rfl, r⟩
    | succ i => exact ih i (by simpa using e)
def tLenSetK (K : PySem.W.Frag) (ta : TE) : TE := fun σ H Q => ta σ H fun x H1 => ∃ (l : Addr) (ks : List Key), x = .ref l ∧ SqL K H1 l (ks.map kV) ∧ ks.length < 4000 ∧ Q (.int ((metK ks ks.length).length : Nat)) H1
theorem pe_lenSetK {X : Cx} {a : Expr} {ta : TE} {p p2 q pos : Pos} (hg : Gl X "len") (hm : X.mg "len" = none) (hg2 : Gl X "set") (hm2 : X.mg "set" = none) (ha : PE X a ta) (hc : X.calm = true := by rfl)
    (na : starEach [a] X.env = (false, eval a X.env) :: starEach [] X.env := by rfl) : PE X (.Call (.Name "len" p) [.Call (.Name "set" p2) [a] [] q] [] pos) (tLenSetK X.K ta) := by
  refine ⟨fun pins s σ H Q I h => Call_ (ld_blt I hg hm PySem.boot_len (PyProof.Rows.callWith_builtin1 (PyProof.Rows.args_cons (Call_ (ld_blt I hg2 hm2 PyProof.Rows.boot_set ?_)) rfl) rfl rfl))⟩
  refine PyProof.Rows.callWith_type1 (PyProof.Rows.args_cons (thn (ha.run pins s σ H _ I h) fun v t ⟨x, H1, I1, rx, l, ks, ex, hs, hl, k⟩ => PyProof.Rows.args_nil ?_) na) na rfl
  subst ex
  cases rx
  obtain ⟨us, rv, pl, _⟩ := I1.list hs
  have hn : us.toArray.size = ks.length := by rw [List.size_toArray, ← rv.length, List.length_map]
  refine call_setK (L2.mixKind X.prog X.w) ks (I1.ok.hd hc) pl.isList (fun i u hu => ?_) (by rw [hn]; unfold scanBound; omega) fun h' tk hS hk => PyProof.Rows.args_nil ?_
  · obtain ⟨v, hv, r⟩ := vals_at rv i u (by simpa using hu)
    rw [List.getElem?_map] at hv
    cases hki : ks[i]? with
    | none => rw [hki] at hv; exact nomatch hv
    | some k =>
      rw [hki] at hv
      cases hv
      exact ⟨k, rfl, kV_is r, by cases k <;> (obtain ⟨_, rfl⟩ := r; rfl)⟩
  · rw [hn] at hS
    obtain ⟨o, es, ep, t, ho, hex, hd, _, _, _, hf, hz⟩ := hS
    have I2 : Inv X _ σ H1 _ := I1.kept (t' := tk) fun b o e => hk b o (Heap.lt_size e) e
    have hb := metK_len ks ks.length
    exact call_len_set ho hex hd hf (by rw [hz] <;> omega) ⟨.int ((metK ks ks.length).length : Nat), H1, I2.tok _, ⟨_, by rw [hz]⟩, k⟩
section
variable {X : Cx} {W : WX} {a : Expr} {ma : M D} {p p2 q pos : Pos}
theorem je_lenSet (hg : Gl X "len") (hm : X.mg "len" = none) (hg2 : Gl X "set") (hm2 : X.mg "set" = none) (ha : JE X W a ma) (hc : X.calm = true := by rfl)
    (na : starEach [a] X.env = (false, eval a X.env) :: starEach [] X.env := by rfl) : JE X W (.Call (.Name "len" p) [.Call (.Name "set" p2) [a] [] q] [] pos) (mLenSet ma) := by
  refine PE.imp (pe_lenSetK hg hm hg2 hm2 ha hc na) fun σ H Q h => ?_
  obtain ⟨b, G, env, fr, h⟩ := h
  refine tE_one fr h (fun d e1 v G1 H1 fr1 st1 dp1 h1 => ?_) (fun c e he => he)
  obtain ⟨z, hz, h3⟩ := wpR.opt h1
  cases dp1 with
  | @lst a vs ds hr ha =>
    simp only [dLenSet] at hz
    cases hk : keysD ds with
    | none => rw [hk] at hz; exact nomatch hz
    | some ks =>
      simp only [hk] at hz
      by_cases hl : ks.length < 4000
      · rw [if_pos hl] at hz
        cases hz
        refine ⟨a, ks, rfl, by rw [← keysD_dt ha hk]; exact .inl (rd_mono fr1.sub hr), hl, h3 _ _ _ fr1 st1 (.int _)⟩
      · rw [if_neg hl] at hz; exact nomatch hz
  | _ => cases hz
end
end DL

namespace DL
open PySem PySem.Spec PyProof.Rows L2
/-! ## list(zip(a, b)) of two tuples -/
theorem zip_len0 : typeLookup (.type "zip") "__len__" = pure none := am_miss_of_fast (by decide +kernel)
theorem zip_hint0 : typeLookup (.type "zip") "__length_hint__" = pure none := am_miss_of_fast (by decide +kernel)
section
variable {P : Program} {w : World} {A : Around} {E : Value → Shared → Prop} {s : Shared} {z TI TO T i1 i2 l1 l2 : Addr} {f : Bool} {oT : Obj} {k1 k2 : Nat} {xs ys : Array Value}
theorem heldT_item {x y : Value} {Q : Value → Shared → Prop} (D : ZipApart z TI TO i1 i2 l1 l2) (hz : IsZipHeld s.heap z TI TO T f) (hT : s.heap.get? T = some oT) (hI : PySem.IsPair s.heap TI (.ref i1) (.ref i2))
    (h1 : s.heap.IsTupleIter i1 l1 k1) (h2 : s.heap.IsTupleIter i2 l2 k2) (hl1 : s.heap.IsTuple l1 xs) (hl2 : s.heap.IsTuple l2 ys) (hx : xs[k1]? = some x) (hy : ys[k2]? = some y)
    (q : ∀ h', IsZipHeld h' z TI TO T true → h'.IsTupleIter i1 l1 (k1 + 1) → h'.IsTupleIter i2 l2 (k2 + 1) → PySem.IsPair h' s.heap.objs.size x y → (∀ c o, c ≠ z → c ≠ i1 → c ≠ i2 → s.heap.get? c = some o → h'.get? c = some o) → Q (.ref s.heap.objs.size) { s with heap := h' }) :
    wpAny (model P w) A (Builtin.«zip.__next__» ⟨[.ref z], []⟩) (fun fin t => ∃ v, fin = .done (.ret v) ∧ Q v t) E s := by
  refine (wpAny_bind (wpAny_field hz rfl (x := .bool false) rfl ?_) : wpAny _ _ (field (.ref z) 2 >>= _) _ _ _); refine (wpAny_bind (wpAny_field hz rfl (x := .ref TI) rfl ?_) : wpAny _ _ (field (.ref z) 3 >>= _) _ _ _); refine wpAny_bind (wpAny_seqItems hI rfl ?_)
  refine (wpAny_bind (wpAny_tupleHeld_zip hz hT fun g1 z1 b1 => ?_) : wpAny _ _ (Builtin.SmallTypes.ownedTupleIsFree (.ref z) >>= _) _ _ _)
  simp only [Bool.false_eq_true, if_false]
  refine wpAny_bind ?_; rw [← Array.forIn_toList]; simp only [List.forIn_cons, List.forIn_nil]
  refine wpAny_bind (wpAny_bind (wpAny_holding ?_)); show wpAny _ _ (Builtin.SmallTypes.nextOf (.ref i1) >>= _) _ _ _
  refine wpAny_bind (RZ.nextOf_tuple_item (s := { s with heap := g1 }) (h1.extBut b1.extBut D.i1z) (hl1.extBut b1.extBut D.l1z) hx fun g2 n1 b2 => wpAny_pure (wpAny_pure (wpAny_bind (wpAny_bind (wpAny_holding ?_))))); show wpAny _ _ (Builtin.SmallTypes.nextOf (.ref i2) >>= _) _ _ _
  refine wpAny_bind (RZ.nextOf_tuple_item (s := { s with heap := g2 }) ((h2.extBut b1.extBut D.i2z).extBut b2.extBut D.i12.symm) ((hl2.extBut b1.extBut D.l2z).extBut b2.extBut D.l2i1) hy fun g3 n2 b3 => wpAny_pure (wpAny_pure (wpAny_pure ?_))); show wpAny _ _ (newTuple [x, y] >>= _) _ _ _
  have sz : g3.objs.size = s.heap.objs.size := b3.1.trans (b2.1.trans b1.1)
  have nw : PySem.IsPair (g3.push { cls := .type "tuple", data := .seq #[x, y] }) g3.objs.size x y := Heap.get?_push_size _ rfl
  refine wpAny_bind (wpAny_newTuple (wpAny_pure ⟨_, rfl, ?_⟩)); show Q (.ref g3.objs.size) _
  rw [sz] at nw ⊢
  have up : ∀ c o, g3.get? c = some o → (g3.push { cls := .type "tuple", data := .seq #[x, y] }).get? c = some o := fun c o e => Heap.get?_push_of_some _ e
  exact q _ (up _ _ (b3.extBut _ _ D.i2z.symm (b2.extBut _ _ D.i1z.symm z1))) ((n1.extBut b3.extBut D.i12).at fun o e => up _ o e) (n2.at fun o e => up _ o e) nw fun c o c1 c2 c3 e => up c o (b3.extBut _ _ c3 (b2.extBut _ _ c2 (b1.extBut _ _ c1 e)))
theorem heldT_end {Q : Fin → Shared → Prop} (hh : A.handled = none) (D : ZipApart z TI TO i1 i2 l1 l2) (hz : IsZipHeld s.heap z TI TO T f) (hT : s.heap.get? T = some oT) (hI : PySem.IsPair s.heap TI (.ref i1) (.ref i2))
    (h1 : s.heap.IsTupleIter i1 l1 k1) (h2 : s.heap.IsTupleIter i2 l2 k2) (hl1 : s.heap.IsTuple l1 xs) (hl2 : s.heap.IsTuple l2 ys) (he : xs[k1]? = none ∨ ys[k2]? = none)
    (q : ∀ h' e, (∀ c o, c ≠ z → c ≠ i1 → c ≠ i2 → s.heap.get? c = some o → h'.get? c = some o) → (∃ o, h'.get? e = some o ∧ o.cls = .type "StopIteration") → E (.ref e) { s with heap := h' }) :
    wpAny (model P w) A (Builtin.«zip.__next__» ⟨[.ref z], []⟩) Q E s := by
  refine (wpAny_bind (wpAny_field hz rfl (x := .bool false) rfl ?_) : wpAny _ _ (field (.ref z) 2 >>= _) _ _ _); refine (wpAny_bind (wpAny_field hz rfl (x := .ref TI) rfl ?_) : wpAny _ _ (field (.ref z) 3 >>= _) _ _ _); refine wpAny_bind (wpAny_seqItems hI rfl ?_)
  refine (wpAny_bind (wpAny_tupleHeld_zip hz hT fun g1 z1 b1 => ?_) : wpAny _ _ (Builtin.SmallTypes.ownedTupleIsFree (.ref z) >>= _) _ _ _)
  simp only [Bool.false_eq_true, if_false]
  refine wpAny_bind ?_; rw [← Array.forIn_toList]; simp only [List.forIn_cons, List.forIn_nil]
  refine wpAny_bind (wpAny_bind (wpAny_holding ?_)); show wpAny _ _ (Builtin.SmallTypes.nextOf (.ref i1) >>= _) _ _ _
  cases hx : xs[k1]? with
  | none => exact wpAny_bind (RZ.nextOf_tuple_end (s := { s with heap := g1 }) hh (h1.extBut b1.extBut D.i1z) (hl1.extBut b1.extBut D.l1z) hx fun g2 e b2 r => q g2 e (fun c o c1 c2 _ x => b2 _ _ c2 (b1.extBut _ _ c1 x)) r)
  | some x =>
    have hy : ys[k2]? = none := he.elim (fun h => by rw [hx] at h; cases h) id
    refine wpAny_bind (RZ.nextOf_tuple_item (s := { s with heap := g1 }) (h1.extBut b1.extBut D.i1z) (hl1.extBut b1.extBut D.l1z) hx fun g2 n1 b2 => wpAny_pure (wpAny_pure (wpAny_bind (wpAny_bind (wpAny_holding ?_))))); show wpAny _ _ (Builtin.SmallTypes.nextOf (.ref i2) >>= _) _ _ _
    exact wpAny_bind (RZ.nextOf_tuple_end (s := { s with heap := g2 }) hh ((h2.extBut b1.extBut D.i2z).extBut b2.extBut D.i12.symm) ((hl2.extBut b1.extBut D.l2z).extBut b2.extBut D.l2i1) hy fun g3 e b3 r => q g3 e (fun c o c1 c2 c3 x => b3 _ _ c3 (b2.extBut _ _ c2 (b1.extBut _ _ c1 x))) r)
/-- the zip at z while its turns are collected in the list at S -/
structure ZSt (h0 h : Heap) (z TI TO i1 i2 l1 l2 S : Addr) (xs ys : Array Value) (i : Nat) (acc : Array Value) : Prop where
  z : (PySem.IsZip h z TI TO .none ∧ ∃ a b, PySem.IsPair h TO a b) ∨ ∃ T f x y, IsZipHeld h z TI TO T f ∧ PySem.IsPair h T x y ∧ S < T
  ti : PySem.IsPair h TI (.ref i1) (.ref i2)
  n1 : h.IsTupleIter i1 l1 i
  n2 : h.IsTupleIter i2 l2 i
  t1 : h.IsTuple l1 xs
  t2 : h.IsTuple l2 ys
  lst : ∃ c, h.get? S = some { cls := .type "list", dict := none, data := .seq acc c, slots := #[] }
  len : acc.size = i
  it : ∀ (j : Nat) (v : Value), acc[j]? = some v → ∃ (t : Addr) (x y : Value), v = Value.ref t ∧ xs[j]? = some x ∧ ys[j]? = some y ∧ PySem.IsPair h t x y ∧ S < t
  nd : acc.toList.Nodup
  old : ∀ b o, h0.get? b = some o → h.get? b = some o
structure ZAp (h0 : Heap) (z TI TO i1 i2 l1 l2 S : Addr) : Prop where
  D : ZipApart z TI TO i1 i2 l1 l2
  lim : z < S ∧ TI < S ∧ TO < S ∧ i1 < S ∧ i2 < S ∧ l1 < S ∧ l2 < S
  old : h0.objs.size ≤ z ∧ h0.objs.size ≤ TO ∧ h0.objs.size ≤ i1 ∧ h0.objs.size ≤ i2 ∧ h0.objs.size ≤ S
/-- what is left when the zip is done -/
structure ZFin (h0 h : Heap) (S : Addr) (xs ys : Array Value) (n : Nat) (acc : Array Value) : Prop where
  lst : ∃ c, h.get? S = some { cls := .type "list", dict := none, data := .seq acc c, slots := #[] }
  len : acc.size = n
  it : ∀ (j : Nat) (v : Value), acc[j]? = some v → ∃ (t : Addr) (x y : Value), v = Value.ref t ∧ xs[j]? = some x ∧ ys[j]? = some y ∧ PySem.IsPair h t x y ∧ S < t
  nd : acc.toList.Nodup
  old : ∀ b o, h0.get? b = some o → h.get? b = some o
theorem ZAp.no {h0 : Heap} {S : Addr} (ap : ZAp h0 z TI TO i1 i2 l1 l2 S) {b : Addr} {o : Obj} (e : h0.get? b = some o) : b ≠ z ∧ b ≠ TO ∧ b ≠ i1 ∧ b ≠ i2 ∧ b ≠ S := by
  have lt := Heap.lt_size e
  obtain ⟨a1, a2, a3, a4, a5⟩ := ap.old
  exact ⟨Nat.ne_of_lt (Nat.lt_of_lt_of_le lt a1), Nat.ne_of_lt (Nat.lt_of_lt_of_le lt a2), Nat.ne_of_lt (Nat.lt_of_lt_of_le lt a3), Nat.ne_of_lt (Nat.lt_of_lt_of_le lt a4), Nat.ne_of_lt (Nat.lt_of_lt_of_le lt a5)⟩
theorem gt_no {h0 : Heap} {S t : Addr} (ap : ZAp h0 z TI TO i1 i2 l1 l2 S) (e : S < t) : t ≠ z ∧ t ≠ TO ∧ t ≠ i1 ∧ t ≠ i2 ∧ t ≠ S := by
  obtain ⟨a1, a2, a3, a4, a5, _⟩ := ap.lim
  exact ⟨Nat.ne_of_gt (Nat.lt_trans a1 e), Nat.ne_of_gt (Nat.lt_trans a3 e), Nat.ne_of_gt (Nat.lt_trans a4 e), Nat.ne_of_gt (Nat.lt_trans a5 e), Nat.ne_of_gt e⟩
/-- one turn: the next pair, kept -/
theorem nextZ {h0 : Heap} {S : Addr} {i : Nat} {acc : Array Value} {x y : Value} {Q : Option Value → Shared → Prop} (ap : ZAp h0 z TI TO i1 i2 l1 l2 S) (st : ZSt h0 s.heap z TI TO i1 i2 l1 l2 S xs ys i acc) (hx : xs[i]? = some x) (hy : ys[i]? = some y)
    (q : ∀ h', (∃ T f a b, IsZipHeld h' z TI TO T f ∧ PySem.IsPair h' T a b ∧ S < T) → PySem.IsPair h' s.heap.objs.size x y → h'.IsTupleIter i1 l1 (i + 1) → h'.IsTupleIter i2 l2 (i + 1) → (∀ c o, c ≠ z → c ≠ TO → c ≠ i1 → c ≠ i2 → s.heap.get? c = some o → h'.get? c = some o) → Q (some (.ref s.heap.objs.size)) { s with heap := h' }) :
    wpAny (model P w) A (pyNext (.ref z)) Q E s := by
  obtain ⟨c, hS⟩ := st.lst
  rcases st.z with ⟨hz, a, b, hTO⟩ | ⟨T, f, a, b, hz, hT, lT⟩
  · exact RZ.pyNext_zipT_item ap.D hz st.ti hTO st.n1 st.n2 st.t1 st.t2 hx hy fun h' a1 _ a3 a4 a5 _ a7 => q h' ⟨_, false, x, y, a1, a5, Heap.lt_size hS⟩ a5 a3 a4 a7
  · have ty : s.TypeIs (.ref z) "zip" := ⟨_, hz, rfl⟩
    unfold pyNext
    obtain ⟨n1, n2, n3, n4, n5⟩ := gt_no ap lT
    exact wpAny_bind (wpAny_attempt (wpAny_callSpecial?_slot (name := Str.ofString "__next__") ty PySem.F.slot_zip_next (wpAny_call_entry PySem.F.slot_zip_next ty PySem.F.entry_zip_next
      (heldT_item ap.D hz hT st.ti st.n1 st.n2 st.t1 st.t2 hx hy fun h' a1 a3 a4 a5 a7 => wpAny_pure (q h' ⟨T, true, a, b, a1, a7 _ _ n1 n3 n4 hT, lT⟩ a5 a3 a4 fun c o c1 _ c3 c4 e => a7 c o c1 c3 c4 e)) (PySem.F.args_zip_next_1 _))))
theorem stopZ {h0 : Heap} {S : Addr} {i : Nat} {acc : Array Value} {Q : Option Value → Shared → Prop} (hh : A.handled = none) (ap : ZAp h0 z TI TO i1 i2 l1 l2 S) (st : ZSt h0 s.heap z TI TO i1 i2 l1 l2 S xs ys i acc) (he : xs[i]? = none ∨ ys[i]? = none)
    (q : ∀ h', (∀ c o, c ≠ z → c ≠ TO → c ≠ i1 → c ≠ i2 → s.heap.get? c = some o → h'.get? c = some o) → Q none { s with heap := h' }) : wpAny (model P w) A (pyNext (.ref z)) Q E s := by
  rcases st.z with ⟨hz, a, b, hTO⟩ | ⟨T, f, a, b, hz, hT, lT⟩
  · exact RZ.pyNext_zipT_end hh ap.D hz st.ti hTO st.n1 st.n2 st.t1 st.t2 he q
  · have ty : s.TypeIs (.ref z) "zip" := ⟨_, hz, rfl⟩
    unfold pyNext
    refine wpAny_bind (wpAny_attempt (wpAny_callSpecial?_slot (name := Str.ofString "__next__") ty PySem.F.slot_zip_next (wpAny_call_entry PySem.F.slot_zip_next ty PySem.F.entry_zip_next
      (heldT_end hh ap.D hz hT st.ti st.n1 st.n2 st.t1 st.t2 he fun h' e k ⟨o, ho, hc⟩ => ?_) (PySem.F.args_zip_next_1 _))))
    exact wpAny_bind (wpAny_isInstance (T := "StopIteration") (b := true) ⟨o, ho, hc⟩ isSubtype_stop (wpAny_pure (q h' fun c o c1 _ c3 c4 e => k c o c1 c3 c4 e)))
variable {R : Result → Shared → Prop} {res : Value}
theorem loopZ {h0 : Heap} {S : Addr} {n : Nat} (hh : A.handled = none) (ap : ZAp h0 z TI TO i1 i2 l1 l2 S) (hn : n = min xs.size ys.size) (hl : n ≤ sizeLine) (d : Nat) : ∀ (i : Nat) (s : Shared) (acc : Array Value), i + d = n → ZSt h0 s.heap z TI TO i1 i2 l1 l2 S xs ys i acc →
      (∀ h' acc', ZFin h0 h' S xs ys n acc' → R (.ok (.ret res)) { s with heap := h' }) → codeAny (model P w) A (.builtin "list.extend.loop" ⟨[.ref S, .ref z, res], []⟩) R s := by
  induction d with
  | zero =>
    intro i s acc e st fin
    obtain rfl : i = n := e
    refine codeAny_builtin PySem.F.entry_extend_loop ?_; rw [Around.under_plainId PySem.F.plain_extend_loop _]
    refine wpAny_bind (m := pyNext (.ref z)) (stopZ (A := A.in1) (by simpa using hh) ap st ?_ fun h' k => ?_)
    · rcases Nat.le_total xs.size ys.size with c | c
      · exact .inl (Array.getElem?_eq_none (by omega))
      · exact .inr (Array.getElem?_eq_none (by omega))
    · refine wpAny_pure (fin h' acc ?_)
      obtain ⟨c, hS⟩ := st.lst
      obtain ⟨a1, a2, a3, a4, a5, _⟩ := ap.lim
      refine ⟨⟨c, k _ _ (Nat.ne_of_gt a1) (Nat.ne_of_gt a3) (Nat.ne_of_gt a4) (Nat.ne_of_gt a5) hS⟩, st.len, fun j v hv => ?_, st.nd, fun b o eb => ?_⟩
      · obtain ⟨t, x, y, ev, ex, ey, hp, lt⟩ := st.it j v hv
        obtain ⟨n1, n2, n3, n4, _⟩ := gt_no ap lt
        exact ⟨t, x, y, ev, ex, ey, k _ _ n1 n2 n3 n4 hp, lt⟩
      · obtain ⟨n1, n2, n3, n4, _⟩ := ap.no eb
        exact k _ _ n1 n2 n3 n4 (st.old b o eb)
  | succ d ih =>
    intro i s acc e st fin
    have lt : i < n := by omega
    have hx : xs[i]? = some xs[i] := Array.getElem?_eq_getElem (by omega)
    have hy : ys[i]? = some ys[i] := Array.getElem?_eq_getElem (by omega)
    refine codeAny_builtin PySem.F.entry_extend_loop ?_; rw [Around.under_plainId PySem.F.plain_extend_loop _]
    refine wpAny_bind (m := pyNext (.ref z)) (nextZ (A := A.in1) ap st hx hy fun h' hz hp n1 n2 k => ?_)
    obtain ⟨c, hS⟩ := st.lst
    obtain ⟨a1, a2, a3, a4, a5, a6, a7⟩ := ap.lim
    have hS2 := k _ _ (Nat.ne_of_gt a1) (Nat.ne_of_gt a3) (Nat.ne_of_gt a4) (Nat.ne_of_gt a5) hS
    have lS : S < s.heap.objs.size := Heap.lt_size hS
    refine wpAny_bind (m := updateSeq S (·.push (.ref s.heap.objs.size))) (wpAny_updateSeq hS2 rfl (wpAny_pure ⟨plainId_quiet PySem.F.plain_extend_loop _, ih (i + 1) _ (acc.push (.ref s.heap.objs.size)) (by omega) ?_ fun h2 acc2 F => fin h2 acc2 F⟩) (by rw [st.len]; omega) (by
      show (acc.push _).size ≤ _; rw [Array.size_push, st.len]; omega))
    have up : ∀ c o, c ≠ S → h'.get? c = some o → (h'.update S (Obj.mapSeq (·.push (.ref s.heap.objs.size)))).get? c = some o := fun c o hc e => (Heap.get?_update_other _ _ (Ne.symm hc)).trans e
    obtain ⟨T, f, a, b, hz1, hT1, lT⟩ := hz
    refine ⟨.inr ⟨T, f, a, b, up _ _ (Nat.ne_of_lt a1) hz1, up _ _ (Nat.ne_of_gt lT) hT1, lT⟩, up _ _ (Nat.ne_of_lt a2) (k _ _ ap.D.TIz ap.D.TITO ap.D.TIi1 ap.D.TIi2 st.ti), n1.at fun o e => up _ o (Nat.ne_of_lt a4) e, n2.at fun o e => up _ o (Nat.ne_of_lt a5) e, ?_, ?_, ⟨_, Heap.get?_update_self _ hS2 rfl⟩, by rw [Array.size_push, st.len], ?_, ?_, fun b o eb => ?_⟩
    · obtain ⟨o, ho, r⟩ := st.t1
      exact ⟨o, up _ o (Nat.ne_of_lt a6) (k _ _ ap.D.l1z ap.D.l1TO ap.D.l1i1 ap.D.l1i2 ho), r⟩
    · obtain ⟨o, ho, r⟩ := st.t2
      exact ⟨o, up _ o (Nat.ne_of_lt a7) (k _ _ ap.D.l2z ap.D.l2TO ap.D.l2i1 ap.D.l2i2 ho), r⟩
    · intro j v hv
      rw [Array.getElem?_push] at hv
      by_cases hj : j = acc.size
      · rw [if_pos hj] at hv
        cases hv
        rw [hj, st.len]
        exact ⟨_, _, _, rfl, hx, hy, up _ _ (Nat.ne_of_gt lS) hp, lS⟩
      · rw [if_neg hj] at hv
        obtain ⟨t, x, y, ev, ex, ey, hp1, lt1⟩ := st.it j v hv
        obtain ⟨m1, m2, m3, m4, m5⟩ := gt_no ap lt1
        exact ⟨t, x, y, ev, ex, ey, up _ _ m5 (k _ _ m1 m2 m3 m4 hp1), lt1⟩
    · rw [Array.toList_push, List.nodup_append]
      refine ⟨st.nd, by simp, fun v hv u hu e => ?_⟩
      simp at hu
      subst hu
      obtain ⟨j, hj⟩ := List.mem_iff_getElem?.mp hv
      rw [Array.getElem?_toList] at hj
      obtain ⟨t, x, y, ev, _, _, hp1, _⟩ := st.it j v hj
      rw [e] at ev
      cases ev
      exact Nat.lt_irrefl _ (Heap.lt_size hp1)
    · obtain ⟨m1, m2, m3, m4, m5⟩ := ap.no eb
      exact up _ _ m5 (k _ _ m1 m2 m3 m4 (st.old b o eb))
theorem one_line : 1 ≤ sizeLine := by rw [sizeLine_eq]; omega
set_option maxHeartbeats 400000 in
theorem call_listZ {h0 : Heap} {Q : Value → Shared → Prop} (hh : A.handled = none) (ap : ZAp h0 z TI TO i1 i2 l1 l2 s.heap.objs.size) (hl : min xs.size ys.size ≤ sizeLine) (hz : PySem.IsZip s.heap z TI TO .none) (hTI : PySem.IsPair s.heap TI (.ref i1) (.ref i2))
    {a b : Value} (hTO : PySem.IsPair s.heap TO a b) (n1 : s.heap.IsTupleIter i1 l1 0) (n2 : s.heap.IsTupleIter i2 l2 0) (t1 : s.heap.IsTuple l1 xs) (t2 : s.heap.IsTuple l2 ys) (old : ∀ b o, h0.get? b = some o → s.heap.get? b = some o)
    (q : ∀ h' acc, ZFin h0 h' s.heap.objs.size xs ys (min xs.size ys.size) acc → Q (.ref s.heap.objs.size) { s with heap := h' }) : wpAny (model P w) A (call (.type "list") [.ref z]) Q E s := by
  refine callType_codes (Q₁ := fun o t => o = .ref s.heap.objs.size ∧ t = { s with heap := s.heap.push { cls := .type "list", data := .seq #[] } }) PySem.F.called_list (PySem.F.typeCall_list_1 _) PySem.F.entry_list_init (code_list_new _ ⟨rfl, rfl⟩) fun o t ⟨eo, et⟩ => ?_
  subst eo et
  have e0 : (s.heap.push { cls := .type "list", data := .seq #[] }).get? s.heap.objs.size = some { cls := .type "list", data := .seq #[] } := Heap.get?_push_size _ rfl
  refine ⟨⟨_, e0, rfl⟩, PySem.F.args_list_init_2 _ _, ?_⟩
  have zS := ap.lim.1
  refine (wpAny_bind ?_ : wpAny _ _ (Builtin.List.listItems (.ref s.heap.objs.size) >>= fun old => Builtin.List.listUpdate (.ref s.heap.objs.size) (fun _ => #[]) >>= fun _ => letGo old.toList.reverse >>= fun _ => Builtin.List.listExtendWith (.ref s.heap.objs.size) (.ref z) .none) _ _ _)
  unfold Builtin.List.listItems
  refine wpAny_bind (wpAny_seqItems e0 rfl (wpAny_pure ?_))
  show wpAny _ _ (updateSeq s.heap.objs.size (fun _ => #[]) >>= fun _ => letGo (#[] : Array Value).toList.reverse >>= fun _ => Builtin.List.listExtendWith (.ref s.heap.objs.size) (.ref z) .none) _ _ _; refine wpAny_bind (wpAny_updateSeq e0 rfl ?_); refine wpAny_bind (wpAny_letGo ?_)
  have e1 := Heap.get?_update_self (Obj.mapSeq (fun _ => (#[] : Array Value))) e0 rfl
  have up1 : ∀ c o, c ≠ s.heap.objs.size → s.heap.get? c = some o → ((s.heap.push { cls := .type "list", data := .seq #[] }).update s.heap.objs.size (Obj.mapSeq (fun _ => (#[] : Array Value)))).get? c = some o :=
    fun c o hc e => (Heap.get?_update_other _ _ (Ne.symm hc)).trans (Heap.get?_push_of_some _ e)
  have ty : Shared.TypeIs { s with heap := (s.heap.push { cls := .type "list", data := .seq #[] }).update s.heap.objs.size (Obj.mapSeq (fun _ => (#[] : Array Value))) } (.ref z) "zip" := ⟨_, up1 _ _ (Nat.ne_of_lt zS) hz, rfl⟩
  unfold Builtin.List.listExtendWith
  refine wpAny_bind (wpAny_typeOf ty ?_)
  rw [show Builtin.List.listSameRef (.ref s.heap.objs.size) (.ref z) = false by simp [Builtin.List.listSameRef]; exact Nat.ne_of_gt zS]
  simp only [show (Value.type "zip" == Value.type "list") = false by decide, show (Value.type "zip" == Value.type "tuple") = false by decide, Bool.or_false, Bool.false_eq_true, if_false]
  refine wpAny_bind (wpAny_pyIter_zip (up1 _ _ (Nat.ne_of_lt zS) hz) (wpAny_bind (wpAny_holding ?_)))
  unfold Builtin.List.listLengthHint
  refine wpAny_bind (wpAny_specialOf ty zip_len0 ?_)
  show wpAny _ _ (specialOf (Value.ref z) (Str.ofString "__length_hint__") >>= _) _ _ _; refine wpAny_bind (wpAny_specialOf ty zip_hint0 ?_); refine wpAny_pure ?_
  show wpAny _ _ (rule "list.extend.makes-room" >>= fun _ => Builtin.List.listTouch (.ref s.heap.objs.size) >>= fun _ => again (.builtin "list.extend.loop" ⟨[.ref s.heap.objs.size, .ref z, .none], []⟩)) _ _ _; refine wpAny_bind (wpAny_rule ?_); refine wpAny_bind ?_
  show wpAny _ _ (updateSeq s.heap.objs.size (·.push .none) >>= fun _ => updateSeq s.heap.objs.size (·.pop)) _ _ _; refine wpAny_bind (wpAny_updateSeq e1 rfl ?_)
  have e2 := Heap.get?_update_self (Obj.mapSeq (·.push Value.none)) e1 rfl
  refine wpAny_updateSeq (hz := by seq_fits) e2 rfl ?_
  have e3 := Heap.get?_update_self (Obj.mapSeq (·.pop)) e2 rfl
  have up : ∀ c o, c ≠ s.heap.objs.size → s.heap.get? c = some o → ((((s.heap.push { cls := .type "list", data := .seq #[] }).update s.heap.objs.size (Obj.mapSeq (fun _ => (#[] : Array Value)))).update s.heap.objs.size (Obj.mapSeq (·.push Value.none))).update s.heap.objs.size (Obj.mapSeq (·.pop))).get? c = some o :=
    fun c o hc e => (Heap.get?_update_other _ _ (Ne.symm hc)).trans ((Heap.get?_update_other _ _ (Ne.symm hc)).trans (up1 c o hc e))
  obtain ⟨a1, a2, a3, a4, a5, a6, a7⟩ := ap.lim
  refine wpAny_pure ⟨plainId_quiet PySem.F.plain_extend_loop _, loopZ (by simpa using hh) ap rfl hl _ 0 _ #[] (by rw [Nat.zero_add]) ?_ fun h' acc F => ⟨rfl, q h' acc F⟩⟩
  obtain ⟨o1, ho1, r1⟩ := t1
  obtain ⟨o2, ho2, r2⟩ := t2
  exact ⟨.inl ⟨up _ _ (Nat.ne_of_lt a1) hz, a, b, up _ _ (Nat.ne_of_lt a3) hTO⟩, up _ _ (Nat.ne_of_lt a2) hTI, n1.at fun o e => up _ o (Nat.ne_of_lt a4) e, n2.at fun o e => up _ o (Nat.ne_of_lt a5) e, ⟨o1, up _ o1 (Nat.ne_of_lt a6) ho1, r1⟩, ⟨o2, up _ o2 (Nat.ne_of_lt a7) ho2, r2⟩,
    ⟨_, e3⟩, rfl, fun j v hv => by simp at hv, by simp, fun b o e => up _ _ (ap.no e).2.2.2.2 (old b o e)⟩
end
end DL

namespace DL
open PySem PySem.Spec PyProof.Rows L2
/-! ## list(zip(a, b)): the rule -/
def putT (H : Hp) : List (Addr × V × V) → Hp
  | [] => H
  | t :: ts => upd (putT H ts) t.1 (.tup [t.2.1, t.2.2])
theorem putT_other {H : Hp} {b : Addr} : ∀ {ts : List (Addr × V × V)}, b ∉ ts.map (·.1) → putT H ts b = H b
  | [], _ => rfl
  | t :: ts, h => by
    simp only [List.map_cons, List.mem_cons, not_or] at h
    show upd _ _ _ b = _
    rw [upd_ne h.1]
    exact putT_other h.2
theorem putT_at {H : Hp} {b : Addr} {o : HO} : ∀ {ts : List (Addr × V × V)}, b ∈ ts.map (·.1) → (ts.map (·.1)).Nodup → putT H ts b = some o → ∃ x y, (b, x, y) ∈ ts ∧ o = .tup [x, y]
  | t :: ts, h, nd, e => by
    simp only [List.map_cons, List.nodup_cons] at nd
    by_cases hb : b = t.1
    · subst hb
      have e' : upd (putT H ts) t.1 (.tup [t.2.1, t.2.2]) t.1 = some o := e
      rw [upd_same] at e'
      cases e'
      exact ⟨t.2.1, t.2.2, by simp, rfl⟩
    · have e' : upd (putT H ts) t.1 (.tup [t.2.1, t.2.2]) b = some o := e
      rw [upd_ne hb] at e'
      simp only [List.map_cons, List.mem_cons] at h
      obtain ⟨x, y, m, eo⟩ := putT_at (h.resolve_left hb) nd.2 e'
      exact ⟨x, y, .tail _ m, eo⟩
theorem putT_mem {H : Hp} : ∀ {ts : List (Addr × V × V)} {b : Addr} {x y : V}, (b, x, y) ∈ ts → (ts.map (·.1)).Nodup → putT H ts b = some (.tup [x, y])
  | t :: ts, b, x, y, h, nd => by
    simp only [List.map_cons, List.nodup_cons] at nd
    rcases List.mem_cons.mp h with e | h
    · subst e; exact upd_same
    · have : b ≠ t.1 := fun e => nd.1 (e ▸ List.mem_map_of_mem h (f := (·.1)))
      show upd _ _ _ b = _
      rw [upd_ne this]
      exact putT_mem h nd.2
section
variable {X : Cx} {pins : List (Addr × Obj)} {σ : St} {H H' : Hp} {s : Shared} {h' : Heap}
theorem inv_many {t' : Nat} (I : Inv X pins σ H s) (k : ∀ b u, s.heap.get? b = some u → h'.get? b = some u) (e : ∀ b, b < s.heap.objs.size → H' b = H b) (new : ∀ b o, s.heap.objs.size ≤ b → H' b = some o → ObjOk X.prog X.w H' h' b o) :
    Inv X pins σ H' { s with heap := h', toks := t' } := by
  have lt : ∀ b o, H b = some o → b < s.heap.objs.size := fun b o q => (I.hok b o q).lt
  refine I.un ⟨fun b u q _ _ _ => k b u q, fun b u q _ _ _ => ⟨u.slots, k b u q⟩, fun b u q n _ => (e b (Heap.lt_size q)).trans n, fun b u q _ => ⟨u, k b u q⟩, fun b xs q => (e b (lt b _ q)).trans q, fun b u xs q => (e b (lt b _ q)).trans q, fun b ps q => ⟨#[], by rw [Array.append_empty]; exact (e b (lt b _ q)).trans q⟩⟩ fun b o q => ?_
  by_cases hb : b < s.heap.objs.size
  · rw [e b hb] at q
    exact (I.hok b o q).stay (fun c v _ z => k c v z) (fun c z => (e c (lt c _ z)).trans z) fun c xs z => (e c (lt c _ z)).trans z
  · exact new b o (Nat.le_of_not_lt hb) q
end
def adrV : Value → Addr
  | .ref a => a
  | _ => 0
/-- two tuples, one list of new pairs -/
def tLZ (K : PySem.W.Frag) (ta : TA) : TE := fun σ H Q => ta σ H fun vs H1 => ∃ (a b : Addr) (xs ys : List V), vs = [.ref a, .ref b] ∧ SqT K H1 a xs ∧ SqT K H1 b ys ∧
  ∀ (S : Addr) (ts : List (Addr × V × V)), ts.map (·.2) = xs.zip ys → (∀ t ∈ ts, H1 t.1 = none) → (ts.map (·.1)).Nodup → S ∉ ts.map (·.1) → H1 S = none → Q (.ref S) (upd (putT H1 ts) S (.lst (ts.map fun t => .ref t.1)))
theorem pe_listZip {X : Cx} {e e2 : Expr} {ta : TA} {p p2 q pos : Pos} (hg : Gl X "list") (hm : X.mg "list" = none) (hg2 : Gl X "zip") (hm2 : X.mg "zip" = none) (ha : PA X [e, e2] ta) (hc : X.calm = true := by rfl)
    (hs : starEach [e, e2] X.env = (false, eval e X.env) :: starEach [e2] X.env := by rfl) (hpl : (backTo q (starEach [e2] X.env)).any (·.1) = false := by rfl)
    (na : starEach [.Call (.Name "zip" p2) [e, e2] [] q] X.env = (false, eval (.Call (.Name "zip" p2) [e, e2] [] q) X.env) :: starEach [] X.env := by rfl) :
    PE X (.Call (.Name "list" p) [.Call (.Name "zip" p2) [e, e2] [] q] [] pos) (tLZ X.K ta) := by
  refine ⟨fun pins s σ H Q I h => Call_ (ld_blt I hg hm PyProof.Rows.boot_list ?_)⟩
  refine PyProof.Rows.callWith_type1 (PyProof.Rows.args_cons (Call_ (ld_blt I hg2 hm2 PyProof.Rows.boot_zip (PyProof.Rows.callWith_type1 (thn (ha.run q pins s σ H _ I h) fun us s1 ⟨vs, H1, I1, r1, q1⟩ => ?_) hs hpl))) na) na rfl
  obtain ⟨a, b, xs, ys, ex, hx, hy, q1⟩ := q1
  subst ex
  cases r1 with
  | cons r rr =>
    cases rr with
    | cons r' rr =>
      cases rr; cases r; cases r'
      obtain ⟨its, rv, p1, zl1⟩ := I1.tuple hx
      obtain ⟨its2, rv2, p2, zl2⟩ := I1.tuple hy
      have la : a < s1.heap.objs.size := by obtain ⟨o, ho, _⟩ := id p1; exact Heap.lt_size ho
      have lb : b < s1.heap.objs.size := by obtain ⟨o, ho, _⟩ := id p2; exact Heap.lt_size ho
      refine RZ.call_zipT (show s1.heap.IsTuple a its.toArray from p1) (show s1.heap.IsTuple b its2.toArray from p2) fun h1 hz hTI hTO n1 n2 hsz hk => PyProof.Rows.args_nil ?_
      have sz5 : Shared.heap { s1 with heap := h1 } = h1 := rfl
      refine call_listZ (s := { s1 with heap := h1 }) (h0 := s1.heap) (xs := its.toArray) (ys := its2.toArray) (I1.ok.hd hc) ⟨PySem.W.ktu_apart s1.heap.objs.size a b la lb, ?_, ?_⟩ ?_ hz hTI hTO n1 n2 ?_ ?_ hk fun h2 acc F => ?_
      · show _ < h1.objs.size ∧ _
        rw [hsz]
        have ad := fun (i : Nat) (h : i < 5) => Nat.add_lt_add_left h s1.heap.objs.size
        exact ⟨ad 4 (by decide), ad 2 (by decide), ad 3 (by decide), ad 0 (by decide), ad 1 (by decide), Nat.lt_of_lt_of_le la (Nat.le_add_right _ _), Nat.lt_of_lt_of_le lb (Nat.le_add_right _ _)⟩
      · have ad := fun (i : Nat) => Nat.le_add_right s1.heap.objs.size i
        refine ⟨ad 4, ad 3, ad 0, ad 1, ?_⟩
        show _ ≤ h1.objs.size
        rw [hsz]
        exact ad 5
      · refine Nat.le_trans (Nat.min_le_left _ _) ?_
        rw [List.size_toArray, ← rv.length]
        exact zl1
      · obtain ⟨o, ho, r⟩ := p1
        exact ⟨o, hk _ _ ho, r⟩
      · obtain ⟨o, ho, r⟩ := p2
        exact ⟨o, hk _ _ ho, r⟩
      · generalize hSS : Shared.heap { s1 with heap := h1 } = hh1 at F ⊢
        have hS5 : hh1.objs.size = s1.heap.objs.size + 5 := by rw [← hSS]; exact hsz
        generalize hSn : hh1.objs.size = S at F ⊢
        rw [hSn] at hS5
        have lv := rv.length
        have lv2 := rv2.length
        have hlen : acc.size = (xs.zip ys).length := by rw [F.len, List.length_zip, lv, lv2, List.size_toArray, List.size_toArray]
        have href : ∀ v ∈ acc.toList, v = Value.ref (adrV v) ∧ S < adrV v := fun v hv => by
          obtain ⟨j, hj⟩ := List.mem_iff_getElem?.mp hv
          rw [Array.getElem?_toList] at hj
          obtain ⟨t, x, y, ev, _, _, _, lt⟩ := F.it j v hj
          rw [ev]
          exact ⟨rfl, lt⟩
        have hall : (acc.toList.map adrV).map Value.ref = acc.toList := by
          rw [List.map_map]
          refine (List.map_congr_left fun v hv => ?_).trans (List.map_id _)
          exact (href v hv).1.symm
        have hl' : (acc.toList.map adrV).length = (xs.zip ys).length := by rw [List.length_map]; exact hlen
        generalize hts : (acc.toList.map adrV).zip (xs.zip ys) = ts
        have f1 : ts.map (·.1) = acc.toList.map adrV := by rw [← hts]; exact List.map_fst_zip (Nat.le_of_eq hl')
        have f2 : ts.map (·.2) = xs.zip ys := by rw [← hts]; exact List.map_snd_zip (Nat.le_of_eq hl'.symm)
        have nd : (ts.map (·.1)).Nodup := by
          rw [f1]
          have := F.nd
          rw [← hall] at this
          refine List.Pairwise.imp (fun h e => h (by rw [e])) (List.pairwise_map.mp this)
        have gt : ∀ t ∈ ts, S < t.1 := fun t ht => by
          have : t.1 ∈ ts.map (·.1) := List.mem_map_of_mem ht (f := (·.1))
          rw [f1] at this
          obtain ⟨v, hv, e⟩ := List.mem_map.mp this
          rw [← e]
          exact (href v hv).2
        have geS : s1.heap.objs.size ≤ S := by rw [hS5]; exact Nat.le_add_right _ _
        have hSt : S ∉ ts.map (·.1) := fun h => by
          obtain ⟨t, ht, e⟩ := List.mem_map.mp h
          have := gt t ht
          rw [e] at this
          exact Nat.lt_irrefl _ this
        have fr : ∀ b, s1.heap.objs.size ≤ b → H1 b = none := fun b hb => I1.hok.fresh hb
        have ge : ∀ t ∈ ts, s1.heap.objs.size ≤ t.1 := fun t ht => Nat.le_trans geS (Nat.le_of_lt (gt t ht))
        obtain ⟨c, hc⟩ := F.lst
        refine ⟨.ref S, upd (putT H1 ts) S (.lst (ts.map fun t => .ref t.1)), ?_, rfl, q1 S ts f2 (fun t ht => fr _ (ge t ht)) nd hSt (fr S geS)⟩
        show L2.Inv X pins σ _ { s1 with heap := h2, toks := s1.toks }
        refine inv_many (s := s1) (h' := h2) (t' := s1.toks) I1 F.old (fun b hb => ?_) fun b o hb e => ?_
        · have n1 : b ≠ S := fun e => Nat.lt_irrefl _ (Nat.lt_of_lt_of_le (e ▸ hb) geS)
          rw [upd_ne n1]
          refine putT_other fun h => ?_
          obtain ⟨t, ht, e⟩ := List.mem_map.mp h
          exact Nat.lt_irrefl _ (Nat.lt_of_lt_of_le (e.symm ▸ hb) (ge t ht))
        · by_cases n1 : b = S
          · subst n1
            rw [upd_same] at e
            cases e
            refine ⟨?_, acc.toList, c, ?_, by simpa using hc⟩
            · rw [List.length_map]
              have : ts.length = (ts.map (·.2)).length := by simp
              rw [this, f2, List.length_zip]
              exact Nat.le_trans (Nat.min_le_left _ _) zl1
            · have e1 : (ts.map fun t => V.ref t.1) = (acc.toList.map adrV).map V.ref := by rw [← f1, List.map_map]; rfl
              rw [e1]
              have key : ∀ l : List Addr, Vals (l.map V.ref) (l.map Value.ref) := fun l => by
                induction l with
                | nil => exact .nil
                | cons a r ih => exact .cons rfl ih
              have := key (acc.toList.map adrV)
              rwa [hall] at this
          · rw [upd_ne n1] at e
            by_cases hm : b ∈ ts.map (·.1)
            · obtain ⟨x, y, m, eo⟩ := putT_at hm nd e
              subst eo
              obtain ⟨j, hj⟩ := List.mem_iff_getElem?.mp m
              rw [← hts, List.getElem?_zip_eq_some] at hj
              obtain ⟨ja, jb⟩ := hj
              rw [List.getElem?_zip_eq_some] at jb
              rw [List.getElem?_map] at ja
              obtain ⟨v, hv, ev⟩ := Option.map_eq_some_iff.mp ja
              rw [Array.getElem?_toList] at hv
              obtain ⟨t, x', y', et, ex, ey, hp, _⟩ := F.it j v hv
              rw [et] at ev
              cases ev
              obtain ⟨u, hu, ru⟩ := rv.get jb.1
              obtain ⟨u2, hu2, ru2⟩ := rv2.get jb.2
              simp only [List.getElem?_toArray] at ex ey
              have e1 : x' = u := Option.some.inj (ex.symm.trans hu)
              have e2 : y' = u2 := Option.some.inj (ey.symm.trans hu2)
              subst e1 e2
              exact ⟨by show 2 ≤ sizeLine; rw [sizeLine_eq]; omega, [x', y'], .cons ru (.cons ru2 .nil), ⟨_, hp, rfl, _, rfl⟩⟩
            · rw [putT_other hm, fr b hb] at e
              cases e
end DL
namespace DL
open PySem PySem.Spec PyProof.Rows L2
theorem grow_putT {G H : Hp} (s : Sub G H) : ∀ {ts : List (Addr × V × V)}, (∀ t ∈ ts, H t.1 = none) → (ts.map (·.1)).Nodup → Grow G H (putT G ts) (putT H ts)
  | [], _, _ => .refl s
  | t :: ts, h, nd => by
    simp only [List.map_cons, List.nodup_cons] at nd
    have g := grow_putT s (fun t ht => h t (.tail _ ht)) nd.2
    exact g.trans (.laid g.in' ((putT_other nd.1).trans (h t (.head _))))
def dZipT : List D → Option (List D)
  | [.tuple xs, .tuple ys] => some (zipD xs ys)
  | _ => none
def mListZip (ml : M (List D)) : M (List D) := mCallO dZipT ml
def rLZ (K : PySem.W.Frag) : List V → Hp → VK → Prop := fun vs H1 Q => ∃ (a b : Addr) (xs ys : List V), vs = [.ref a, .ref b] ∧ SqT K H1 a xs ∧ SqT K H1 b ys ∧
  ∀ (S : Addr) (ts : List (Addr × V × V)), ts.map (·.2) = xs.zip ys → (∀ t ∈ ts, H1 t.1 = none) → (ts.map (·.1)).Nodup → S ∉ ts.map (·.1) → H1 S = none → Q (.ref S) (upd (putT H1 ts) S (.lst (ts.map fun t => .ref t.1)))
theorem zip_dt {G G' : Hp} (s : Sub G G') : ∀ {ts : List (Addr × V × V)} {xs ys : List V} {dx dy : List D}, ts.map (·.2) = xs.zip ys → DtAll G xs dx → DtAll G ys dy → (∀ t ∈ ts, G' t.1 = some (.tup [t.2.1, t.2.2])) → DtAll G' (ts.map fun t => V.ref t.1) (zipD dx dy)
  | ts, [], ys, _, dy, e, .nil, hy, _ => by
    obtain rfl : ts = [] := by simpa using e
    exact .nil
  | ts, x :: xs, [], _, _, e, .cons hx rx, .nil, _ => by
    obtain rfl : ts = [] := by simpa using e
    exact .nil
  | [], x :: xs, y :: ys, _, _, e, _, _, _ => by simp at e
  | t :: ts, x :: xs, y :: ys, dx :: dxs, dy :: dys, e, .cons hx rx, .cons hy ry, ht => by
    simp only [List.map_cons, List.zip_cons_cons, List.cons.injEq] at e
    have e0 := ht t (.head _)
    rw [e.1] at e0
    exact .cons (.tup (.inl e0) (.cons (hx.mono s) (.cons (hy.mono s) .nil))) (zip_dt s e.2 rx ry fun t h => ht t (.tail _ h))
theorem lz_ok {K : PySem.W.Frag} : CallO (rLZ K) dZipT := by
  intro G H vs ds d Q s hv hd q
  unfold dZipT at hd
  split at hd
  · rename_i xs ys
    cases hd
    cases hv with
    | cons h1 hr =>
      cases hr with
      | cons h2 hr =>
        cases hr
        cases h1 with
        | @tup a vs ds hr ha =>
          cases h2 with
          | @tup b us es hr2 ha2 =>
            refine ⟨a, b, vs, us, rfl, .inl (rd_mono s hr), .inl (rd_mono s hr2), fun S ts e fr nd hS hn => ?_⟩
            have g := grow_putT s fr nd
            have hn2 : putT H ts S = none := (putT_other hS).trans hn
            exact q S _ (putT G ts) _ (g.trans (.laid' g.in' hn2)) hn (g.in'.free hn2) upd_same (zip_dt g.sub e ha ha2 fun t ht => putT_mem ht nd)
  · cases hd
section
variable {X : Cx} {W : WX} {a b : Expr} {ml : M (List D)} {p p2 q pos : Pos}
theorem jo_listZip (hg : Gl X "list") (hm : X.mg "list" = none) (hg2 : Gl X "zip") (hm2 : X.mg "zip" = none) (ha : JL X W [a, b] ml) (hc : X.calm = true := by rfl)
    (hs : starEach [a, b] X.env = (false, eval a X.env) :: starEach [b] X.env := by rfl) (hpl : (backTo q (starEach [b] X.env)).any (·.1) = false := by rfl)
    (na : starEach [.Call (.Name "zip" p2) [a, b] [] q] X.env = (false, eval (.Call (.Name "zip" p2) [a, b] [] q) X.env) :: starEach [] X.env := by rfl) : JO X W (.Call (.Name "list" p) [.Call (.Name "zip" p2) [a, b] [] q] [] pos) (mListZip ml) :=
  PE.imp (pe_listZip hg hm hg2 hm2 ha hc hs hpl na) fun _ _ _ h => (tCBO_of (r := rLZ X.K) lz_ok h : tCB _ _ _ _ _)
end
end DL

namespace DL
open PySem
theorem ixN_of {n j : Nat} (h : j < n) : L2.ixN n (j : Int) = some j := by
  unfold L2.ixN; rw [if_pos (by omega), if_pos (by omega), Int.toNat_natCast]
theorem atI_c {α : Type} (l : List α) (n : Nat) : L2.atI l (n : Int) = l[n]? := by
  unfold L2.atI
  by_cases h : n < l.length
  · rw [ixN_of h]; rfl
  · have : L2.ixN l.length (n : Int) = none := by unfold L2.ixN; rw [if_pos (by omega), if_neg (by omega)]
    rw [this, List.getElem?_eq_none (by omega)]; rfl
theorem atI_p {α : Type} (l : List α) {z : Int} (h : 0 ≤ z) : L2.atI l z = l[z.toNat]? := by
  have := atI_c l z.toNat
  rwa [Int.toNat_of_nonneg h] at this
section
variable {α : Type} {a b c d e f g : α} {l : List α}
theorem atI0 : L2.atI (a :: l) 0 = some a := atI_c _ 0
theorem atI1 : L2.atI (a :: b :: l) 1 = some b := atI_c _ 1
theorem atI2 : L2.atI (a :: b :: c :: l) 2 = some c := atI_c _ 2
theorem atI3 : L2.atI (a :: b :: c :: d :: l) 3 = some d := atI_c _ 3
theorem atI4 : L2.atI (a :: b :: c :: d :: e :: l) 4 = some e := atI_c _ 4
theorem atI5 : L2.atI (a :: b :: c :: d :: e :: f :: l) 5 = some f := atI_c _ 5
theorem atI6 : L2.atI (a :: b :: c :: d :: e :: f :: g :: l) 6 = some g := atI_c _ 6
theorem atIm (l : List α) : L2.atI l (-1) = l.getLast? := by
  rcases List.eq_nil_or_concat l with rfl | ⟨r, x, rfl⟩
  · rfl
  · rw [List.concat_eq_append, List.getLast?_concat]
    exact L2.atI_last r x
end
theorem ixN0 {n : Nat} : L2.ixN (n + 1) 0 = some 0 := ixN_of (j := 0) (by omega)
theorem ixN1 {n : Nat} : L2.ixN (n + 2) 1 = some 1 := ixN_of (j := 1) (by omega)
theorem ixN2 {n : Nat} : L2.ixN (n + 3) 2 = some 2 := ixN_of (j := 2) (by omega)
theorem okO_celAt {ds : List D} {e : Ev} {P : List D → Prop} : okO (celAt (.cel ds :: e)) P = P ds := rfl
theorem sIx_p {n d : Nat} {z : Int} (h : 0 ≤ z) : HT.sIx n d (some z) = min z.toNat n := if_neg (by omega)
theorem cut_lo (xs : List D) {z : Int} (h : 0 ≤ z) : cutD xs (some z) none = xs.drop z.toNat := by
  unfold cutD
  rw [sIx_p h, HT.sIx_none]
  rw [List.take_of_length_le (by simp)]
  by_cases h2 : z.toNat ≤ xs.length
  · rw [Nat.min_eq_left h2]
  · rw [Nat.min_eq_right (by omega), List.drop_length, List.drop_of_length_le (by omega)]
theorem cut_hi (xs : List D) {z : Int} (h : 0 ≤ z) : cutD xs none (some z) = xs.take z.toNat := by
  unfold cutD
  rw [sIx_p h, HT.sIx_none, List.drop_zero, Nat.sub_zero]
  by_cases h2 : z.toNat ≤ xs.length
  · rw [Nat.min_eq_left h2]
  · rw [Nat.min_eq_right (by omega), List.take_length, List.take_of_length_le (by omega)]
theorem cut_both (xs : List D) {z y : Int} (h : 0 ≤ z) (h' : 0 ≤ y) : cutD xs (some z) (some y) = (xs.drop z.toNat).take (y.toNat - z.toNat) := by
  unfold cutD
  rw [sIx_p h, sIx_p h']
  by_cases h2 : z.toNat ≤ xs.length
  · rw [Nat.min_eq_left h2]
    by_cases h3 : y.toNat ≤ xs.length
    · rw [Nat.min_eq_left h3]
    · rw [Nat.min_eq_right (by omega : xs.length ≤ y.toNat), List.take_of_length_le (by simp), List.take_of_length_le (by simp; omega)]
  · rw [Nat.min_eq_right (by omega : xs.length ≤ z.toNat), List.drop_length, List.drop_of_length_le (by omega)]
    simp
theorem cut_1 (xs : List D) : cutD xs (some 1) none = xs.drop 1 := cut_lo xs (by omega)
theorem cut_3h (xs : List D) : cutD xs none (some 3) = xs.take 3 := cut_hi xs (by omega)
theorem cut_4 (xs : List D) : cutD xs (some 4) none = xs.drop 4 := cut_lo xs (by omega)
theorem cut_nn (xs : List D) : cutD xs none none = xs := by unfold cutD; simp [HT.sIx_none]
theorem ok_lenSet {m : M D} {e : Ev} {Q : D → Ev → Prop} : Ok (mLenSet m e) Q = Ok (m e) (fun x e1 => okO (dLenSet x) fun z => Q z e1) := ok_un
theorem ok_listZip {m : M (List D)} {e : Ev} {Q : List D → Ev → Prop} : Ok (mListZip m e) Q = Ok (m e) (fun x e1 => okO (dZipT x) fun z => Q z e1) := ok_callO
theorem v_zipTT {xs ys : List D} {P : List D → Prop} : okO (dZipT [.tuple xs, .tuple ys]) P = P (zipD xs ys) := rfl
/-- a number out of a list of numbers -/
theorem atI_rng {xs : List Int} {lo hi r : Int} {P : D → Prop} (h0 : 0 ≤ r) (h1 : r < xs.length) (hx : ∀ x ∈ xs, lo ≤ x ∧ x ≤ hi) (hP : ∀ c, lo ≤ c → c ≤ hi → P (.int c)) : okO (L2.atI (xs.map PyData.int) r) P := by
  rw [atI_p _ h0, List.getElem?_map, List.getElem?_eq_getElem (by omega)]
  have := hx xs[r.toNat] (List.getElem_mem _)
  exact hP _ this.1 this.2
/-- a thing out of a list of things -/
theorem atI_all {xs : List D} {r : Int} {P : D → Prop} (h0 : 0 ≤ r) (h1 : r < xs.length) (hx : ∀ x ∈ xs, P x) : okO (L2.atI xs r) P := by
  rw [atI_p _ h0, List.getElem?_eq_getElem (by omega)]
  exact hx _ (List.getElem_mem _)
theorem flatMap_one {α β : Type} (F : α → β) (ds : List α) : ds.flatMap (fun d => [F d]) = ds.map F := by
  induction ds with
  | nil => rfl
  | cons d r ih => rw [List.flatMap_cons, ih]; rfl
theorem compL_one {vs : List Nat} {g : GT} {me : M D} {ds : List D} {e : Ev} {Q : List D → Ev → Prop} (F : D → D) (hn : ds.length ≤ sizeLine) (hw : wipeE e vs = e)
    (hs : ∀ d ∈ ds, okO (g d e) fun e1 => Ok (me e1) fun y e3 => y = F d ∧ wipeE e3 vs = e) (hq : Q (ds.map F) e) : Ok (compL vs g (mPure true) me ds [] e) Q := by
  refine compL_map (fun d => [F d]) hn hw (fun d hd => ?_) (by rw [show ds.flatMap (fun d => [F d]) = ds.map F from flatMap_one F ds]; exact hq)
  have := hs d hd
  cases hg : g d e with
  | none => rw [hg] at this; exact this
  | some e1 =>
    rw [hg] at this
    show okO (some e1) _
    rw [okO_some, ok_pure, if_pos rfl]
    exact Ok.mono (show Ok (me e1) _ from this) fun y e3 ⟨a, b⟩ => ⟨by rw [a], b⟩
/-- a comprehension with a test -/
theorem compL_filter {vs : List Nat} {g : GT} {mt : M Bool} {me : M D} {ds : List D} {e : Ev} {Q : List D → Ev → Prop} (p : D → Bool) (F : D → D) (hn : ds.length ≤ sizeLine) (hw : wipeE e vs = e)
    (hs : ∀ d ∈ ds, okO (g d e) fun e1 => Ok (mt e1) fun k e2 => k = p d ∧ if k = true then Ok (me e2) fun y e3 => y = F d ∧ wipeE e3 vs = e else wipeE e2 vs = e) (hq : Q ((ds.filter p).map F) e) : Ok (compL vs g mt me ds [] e) Q := by
  have e0 : ds.flatMap (fun d => if p d = true then [F d] else []) = (ds.filter p).map F := by
    clear hs hn hq
    induction ds with
    | nil => rfl
    | cons d r ih =>
      rw [List.flatMap_cons, ih, List.filter_cons]
      cases p d <;> simp
  refine compL_map (fun d => if p d = true then [F d] else []) hn hw (fun d hd => ?_) (by rw [e0]; exact hq)
  have := hs d hd
  cases hg : g d e with
  | none => rw [hg] at this; exact this
  | some e1 =>
    rw [hg] at this
    show Ok (mt e1) _
    refine Ok.mono (show Ok (mt e1) _ from this) fun k e2 ⟨a, b⟩ => ?_
    subst a
    cases hp : p d with
    | true =>
      rw [hp, if_pos rfl] at b
      rw [if_pos rfl]
      exact Ok.mono b fun y e3 ⟨c, d⟩ => ⟨by rw [if_pos rfl, c], d⟩
    | false =>
      rw [hp, if_neg Bool.false_ne_true] at b
      rw [if_neg Bool.false_ne_true]
      exact ⟨by rw [if_neg Bool.false_ne_true], b⟩
/-- a comprehension over things that are told by others -/
theorem compA {α : Type} {vs : List Nat} {g : GT} {mt : M Bool} {me : M D} {e : Ev} {Q : List D → Ev → Prop} (xs : List α) (c : α → D) (F : α → List D) (hn : xs.length ≤ sizeLine) (hw : wipeE e vs = e)
    (hs : ∀ x ∈ xs, okO (g (c x) e) fun e1 => Ok (mt e1) fun k e2 => if k = true then Ok (me e2) fun y e3 => F x = [y] ∧ wipeE e3 vs = e else F x = [] ∧ wipeE e2 vs = e)
    (hq : Q (xs.flatMap F) e) : Ok (compL vs g mt me (xs.map c) [] e) Q := by
  suffices h : ∀ (xs : List α) (acc : List D), acc.length + xs.length ≤ sizeLine → (∀ x ∈ xs, okO (g (c x) e) fun e1 => Ok (mt e1) fun k e2 => if k = true then Ok (me e2) fun y e3 => F x = [y] ∧ wipeE e3 vs = e else F x = [] ∧ wipeE e2 vs = e) → compL vs g mt me (xs.map c) acc e = .ok (acc ++ xs.flatMap F, e) by
    rw [h xs [] (by simpa using hn) hs]
    exact hq
  clear hs hq hn xs
  intro xs
  induction xs with
  | nil => intro acc _ _; simp [compL]
  | cons x r ih =>
    intro acc hl hs
    have q := hs x (.head _)
    have ih' := fun acc hl => ih acc hl fun d hd => hs d (.tail _ hd)
    rw [List.length_cons] at hl
    rw [List.map_cons, List.flatMap_cons]
    unfold compL
    cases hg : g (c x) e with
    | none => rw [hg] at q; exact q.elim
    | some e1 =>
      rw [hg, okO_some] at q
      cases hm : mt e1 with
      | bad => rw [hm] at q; exact q.elim
      | exc _ _ => rw [hm] at q; exact q.elim
      | ok p =>
        obtain ⟨k, e2⟩ := p
        rw [hm, ok_ok] at q
        simp only [hm]
        cases k with
        | false => rw [if_neg Bool.false_ne_true] at q; simp only; rw [q.2, q.1, ih' acc (by omega), List.nil_append]
        | true =>
          rw [if_pos rfl] at q
          cases hme : me e2 with
          | bad => rw [hme] at q; exact q.elim
          | exc _ _ => rw [hme] at q; exact q.elim
          | ok p =>
            obtain ⟨y, e3⟩ := p
            rw [hme, ok_ok] at q
            simp only [hme]
            rw [if_pos (by omega), q.2, ih' (acc ++ [y]) (by simp; omega), q.1, List.append_assoc]
theorem compA1 {α : Type} {vs : List Nat} {g : GT} {me : M D} {e : Ev} {Q : List D → Ev → Prop} (xs : List α) (c : α → D) (F : α → D) (hn : xs.length ≤ sizeLine) (hw : wipeE e vs = e)
    (hs : ∀ x ∈ xs, okO (g (c x) e) fun e1 => Ok (me e1) fun y e3 => y = F x ∧ wipeE e3 vs = e) (hq : Q (xs.map F) e) : Ok (compL vs g (mPure true) me (xs.map c) [] e) Q := by
  refine compA xs c (fun d => [F d]) hn hw (fun d hd => ?_) (by rw [flatMap_one]; exact hq)
  have := hs d hd
  cases hg : g (c d) e with
  | none => rw [hg] at this; exact this
  | some e1 =>
    rw [hg] at this
    rw [okO_some, ok_pure, if_pos rfl]
    exact Ok.mono (show Ok (me e1) _ from this) fun y e3 ⟨a, b⟩ => ⟨by rw [a], b⟩
theorem compAF {α : Type} {vs : List Nat} {g : GT} {mt : M Bool} {me : M D} {e : Ev} {Q : List D → Ev → Prop} (xs : List α) (c : α → D) (p : α → Bool) (F : α → D) (hn : xs.length ≤ sizeLine) (hw : wipeE e vs = e)
    (hs : ∀ x ∈ xs, okO (g (c x) e) fun e1 => Ok (mt e1) fun k e2 => k = p x ∧ if k = true then Ok (me e2) fun y e3 => y = F x ∧ wipeE e3 vs = e else wipeE e2 vs = e) (hq : Q ((xs.filter p).map F) e) : Ok (compL vs g mt me (xs.map c) [] e) Q := by
  have e0 : xs.flatMap (fun d => if p d = true then [F d] else []) = (xs.filter p).map F := by
    clear hs hn hq
    induction xs with
    | nil => rfl
    | cons d r ih =>
      rw [List.flatMap_cons, ih, List.filter_cons]
      cases p d <;> simp
  refine compA xs c (fun d => if p d = true then [F d] else []) hn hw (fun d hd => ?_) (by rw [e0]; exact hq)
  have := hs d hd
  cases hg : g (c d) e with
  | none => rw [hg] at this; exact this
  | some e1 =>
    rw [hg] at this
    refine Ok.mono (show Ok (mt e1) _ from this) fun k e2 ⟨a, b⟩ => ?_
    subst a
    cases hp : p d with
    | true =>
      rw [hp, if_pos rfl] at b
      rw [if_pos rfl]
      exact Ok.mono b fun y e3 ⟨c, d⟩ => ⟨by rw [if_pos rfl, c], d⟩
    | false =>
      rw [hp, if_neg Bool.false_ne_true] at b
      rw [if_neg Bool.false_ne_true]
      exact ⟨by rw [if_neg Bool.false_ne_true], b⟩
theorem v_allm {α : Type} {p : α → Bool} {xs : List α} {P : D → Prop} : okO (dAll [.list (xs.map fun x => .bool (p x))]) P = P (.bool (xs.all p)) := by
  have := bools_map (xs.map p)
  rw [List.map_map] at this
  refine (v_all (xs := xs.map fun x => .bool (p x)) (ns := xs.map p) this).trans ?_
  congr 2
  induction xs with
  | nil => rfl
  | cons x r ih => simp [List.all_cons]
theorem v_summ {α : Type} {p : α → Int} {xs : List α} {P : D → Prop} : okO (dSum [.list (xs.map fun x => .int (p x))]) P = P (.int (xs.map p).sum) := by
  have := ints_map (xs.map p)
  rw [List.map_map] at this
  exact v_sum this
section
variable {R : Bool → Prop} {i j : Int} {x y : Str}
theorem eqvII : PyData.eqv (.int i) (.int j) = decide (i = j) := by
  unfold PyData.eqv
  by_cases h : i = j <;> simp [h]
theorem eqvSS : PyData.eqv (.str x) (.str y) = decide (x = y) := by
  unfold PyData.eqv
  by_cases h : x = y <;> simp [h]
theorem v_eqII : okO (dEq (.int i) (.int j)) R = R (decide (i = j)) := by
  rw [v_eq, eqvII]
  exact propext ⟨fun h => h.2, fun h => ⟨⟨rfl, rfl⟩, h⟩⟩
theorem v_neII : okO (dNe (.int i) (.int j)) R = R (!decide (i = j)) := by
  rw [v_ne, eqvII]
  exact propext ⟨fun h => h.2, fun h => ⟨⟨rfl, rfl⟩, h⟩⟩
theorem v_eqSS : okO (dEq (.str x) (.str y)) R = ((SeqAt.shaped (.str x) = true ∧ SeqAt.shaped (.str y) = true) ∧ R (decide (x = y))) := by rw [v_eq, eqvSS]
theorem v_neSS : okO (dNe (.str x) (.str y)) R = ((SeqAt.shaped (.str x) = true ∧ SeqAt.shaped (.str y) = true) ∧ R (!decide (x = y))) := by rw [v_ne, eqvSS]
end

theorem v_notBlT {R : Bool → Prop} : okO (dNotBl (.bool true) (.bool true)) R = R false := rfl
theorem v_notBlF {R : Bool → Prop} : okO (dNotBl (.bool false) (.bool true)) R = R true := rfl
theorem v_notBlG {R : Bool → Prop} : okO (dNotBl (.bool false) (.bool false)) R = R false := rfl
theorem v_notBlH {R : Bool → Prop} : okO (dNotBl (.bool true) (.bool false)) R = R true := rfl
theorem pow9 : (10 : Int) ^ Int.toNat 9 = 1000000000 := by decide
theorem pow18 : (10 : Int) ^ Int.toNat 18 = 1000000000000000000 := by decide
theorem natAbs10 : (Int.natAbs 10 < 2 ^ 64) = True := by decide
/-- a loop by what holds of the things that are left -/
theorem forA {α : Type} {g : GT} {mb : MS} {e : Ev} {Q : Fl → Ev → Prop} {c : α → D} (P : List α → Ev → Prop) (xs : List α) (h0 : P xs e)
    (hs : ∀ x r e, P (x :: r) e → okO (g (c x) e) fun e1 => Ok (mb e1) fun fl e2 => match fl with
      | .nx => P r e2
      | .ct => P r e2
      | .bk => Q .nx e2
      | fl => Q fl e2)
    (hd : ∀ e, P [] e → Q .nx e) : Ok (forL g mb (xs.map c) e) Q := by
  induction xs generalizing e with
  | nil => exact hd e h0
  | cons x r ih =>
    rw [List.map_cons, forL_cons]
    have q := hs x r e h0
    cases hg : g (c x) e with
    | none => rw [hg] at q; exact q.elim
    | some e1 =>
      rw [hg] at q
      refine Ok.mono (show Ok (mb e1) _ from q) fun fl e2 q2 => ?_
      cases fl with
      | nx => exact ih q2
      | ct => exact ih q2
      | bk => exact q2
      | rt d => exact q2
      | ro d => exact q2
theorem okF_mono {α : Type} {r : FR α} {P Q : α → Prop} (h : okF r P) (i : ∀ a, P a → Q a) : okF r Q := by
  cases r with
  | ok a => exact i a h
  | _ => exact h.elim
theorem okC_mono {ε α : Type} {r : Res ε α} {P Q : α → Prop} (h : okC r P) (i : ∀ a, P a → Q a) : okC r Q := by
  cases r with
  | ok a => exact i a h
  | _ => exact h.elim
theorem keysD_strs (xs : List Str) : keysD (xs.map .str) = some (xs.map Sum.inr) := by
  induction xs with
  | nil => rfl
  | cons x r ih => simp [keysD, keyD, ih]
theorem keysD_ints (xs : List Int) : keysD (xs.map .int) = some (xs.map Sum.inl) := by
  induction xs with
  | nil => rfl
  | cons x r ih => simp [keysD, keyD, ih]
theorem metK_nodup {K : Type} [DecidableEq K] (xs : List K) (h : xs.Nodup) : ∀ i, i ≤ xs.length → metK xs i = xs.take i
  | 0, _ => rfl
  | i + 1, hi => by
    have lt : i < xs.length := hi
    show (match xs[i]? with | some x => addK (metK xs i) x | none => metK xs i) = _
    rw [List.getElem?_eq_getElem lt, metK_nodup xs h i (Nat.le_of_lt lt), List.take_succ, List.getElem?_eq_getElem lt]
    show addK (xs.take i) xs[i] = _
    unfold addK
    rw [if_neg]
    · rfl
    · intro hm
      obtain ⟨j, hj, e⟩ := List.getElem_of_mem hm
      rw [List.length_take] at hj
      rw [List.getElem_take] at e
      exact List.pairwise_iff_getElem.mp h j i (by omega) lt (by omega) e
theorem metK_sub {K : Type} [DecidableEq K] (xs : List K) : ∀ i x, x ∈ metK xs i ↔ x ∈ xs.take i
  | 0, x => by simp [metK]
  | i + 1, x => by
    have ih := metK_sub xs i
    show x ∈ (match xs[i]? with | some x => addK (metK xs i) x | none => metK xs i) ↔ _
    rw [List.take_succ]
    cases h : xs[i]? with
    | none => simp [ih x]
    | some y =>
      show x ∈ addK _ y ↔ _
      unfold addK
      split
      · rename_i hm
        rw [ih x, List.mem_append]
        refine ⟨.inl, fun h => h.elim id fun h => ?_⟩
        simp at h; subst h; exact (ih x).mp hm
      · simp [ih x]
theorem metK_nd {K : Type} [DecidableEq K] (xs : List K) : ∀ i, (metK xs i).Nodup
  | 0 => List.nodup_nil
  | i + 1 => by
    show (match xs[i]? with | some x => addK (metK xs i) x | none => metK xs i).Nodup
    cases h : xs[i]? with
    | none => exact metK_nd xs i
    | some y =>
      show (addK _ y).Nodup
      unfold addK
      split
      · exact metK_nd xs i
      · rename_i hm
        rw [List.nodup_append]
        refine ⟨metK_nd xs i, by simp, fun a ha b hb => ?_⟩
        simp at hb; subst hb
        intro e; subst e; exact hm ha
theorem nodup_inj {α β : Type} {f : α → β} (hf : ∀ a b, f a = f b → a = b) : ∀ {l : List α}, (l.map f).Nodup ↔ l.Nodup := by
  intro l
  unfold List.Nodup
  rw [List.pairwise_map]
  exact ⟨fun h => h.imp fun h e => h (by rw [e]), fun h => h.imp fun h e => h (hf _ _ e)⟩
theorem metK_len_iff {K : Type} [DecidableEq K] (xs : List K) : (metK xs xs.length).length = xs.length ↔ xs.Nodup := by
  constructor
  · intro h
    have key : ∀ i, i ≤ xs.length → (metK xs i).length = i → (xs.take i).Nodup ∧ metK xs i = xs.take i := by
      intro i
      induction i with
      | zero => intro _ _; exact ⟨by simp, rfl⟩
      | succ i ih =>
        intro hi hl
        have lt : i < xs.length := hi
        have e : metK xs (i + 1) = addK (metK xs i) xs[i] := by
          show (match xs[i]? with | some x => addK (metK xs i) x | none => metK xs i) = _
          rw [List.getElem?_eq_getElem lt]
        rw [e] at hl ⊢
        have le := metK_len xs i
        by_cases hm : xs[i] ∈ metK xs i
        · unfold addK at hl; rw [if_pos hm] at hl; omega
        · have hl2 : (metK xs i).length = i := by unfold addK at hl; rw [if_neg hm] at hl; simpa using hl
          obtain ⟨h1, h2⟩ := ih (Nat.le_of_lt lt) hl2
          unfold addK
          rw [if_neg hm, List.take_succ, List.getElem?_eq_getElem lt, h2]
          refine ⟨?_, rfl⟩
          rw [List.nodup_append]
          refine ⟨h1, by simp, fun a ha b hb => ?_⟩
          simp at hb; subst hb
          intro e2; subst e2; rw [h2] at hm; exact hm ha
    have := (key xs.length (Nat.le_refl _) h).1
    rwa [List.take_length] at this
  · intro h
    rw [metK_nodup xs h xs.length (Nat.le_refl _), List.take_length]
theorem v_lenSetG {xs : List Str} {P : D → Prop} (hl : xs.length < 4000) : okO (dLenSet (.list (xs.map .str))) P = P (.int ((metK (xs.map Sum.inr : List (Int ⊕ Str)) (xs.map Sum.inr : List (Int ⊕ Str)).length).length : Nat)) := by
  simp only [dLenSet, keysD_strs]
  rw [if_pos (by simpa using hl)]
  rfl
theorem v_lenSetS {xs : List Str} {P : D → Prop} (h : xs.Nodup) (hl : xs.length < 4000) : okO (dLenSet (.list (xs.map .str))) P = P (.int (xs.length : Nat)) := by
  simp only [dLenSet, keysD_strs]
  rw [if_pos (by simpa using hl)]
  show P _ = _
  rw [metK_nodup _ ((nodup_inj fun a b e => Sum.inr.inj e).mpr h) _ (Nat.le_refl _), List.take_length, List.length_map]
end DL

namespace DL
open PySem PySem.Spec PyProof.Rows L2
/-! ## lists of lists of one's own -/
def noN : Sl → Bool
  | .nst _ => false
  | _ => true
/-- all slots but i hold no such list -/
def onlyN : Ev → Nat → Bool
  | [], _ => true
  | _ :: e, 0 => e.all noN
  | s :: e, i + 1 => noN s && onlyN e i
theorem onlyN_ne : ∀ {e : Ev} {i j : Nat} {rows : List (List D)}, onlyN e i = true → e[j]? = some (.nst rows) → j = i
  | [], i, j, rows, _, h => by simp at h
  | s :: e, 0, 0, rows, _, h => rfl
  | s :: e, 0, j + 1, rows, h, q => by
    have q : e[j]? = some (.nst rows) := by simpa using q
    have := List.all_eq_true.mp h _ (List.mem_of_getElem? q)
    cases this
  | s :: e, i + 1, 0, rows, h, q => by
    have q : s = .nst rows := by simpa using q
    subst q
    cases h
  | s :: e, i + 1, j + 1, rows, h, q => by
    have h := (Bool.and_eq_true_iff.mp h).2
    exact congrArg Nat.succ (onlyN_ne h (by simpa using q))
theorem OwnI.of_setN {σ : St} {env : Ev} {i j : Nat} {rows : List (List D)} {a : Addr} (h : OwnI σ (env.set i (.nst rows)) j a) : OwnI σ env j a := by
  obtain ⟨⟨t, ht, hto⟩, hv⟩ := h
  rcases getset ht with ⟨_, e2⟩ | ⟨_, e2⟩
  · subst e2; cases hto
  · exact ⟨⟨t, e2, hto⟩, hv⟩
theorem Fr.setNst {K : PySem.W.Frag} {b : Bs} {G H : Hp} {σ : St} {env : Ev} {i : Nat} {a : Addr} (f : Fr K b G H σ env) (ha : H a = some (.lst [])) (hg : G a = none) (h0 : b.H0 a = none) (hn : ¬ OwnAt σ env a) (hi : i < env.length) :
    Fr K b G H (σ.set i (some (.ref a))) (env.set i (.nst [])) where
  sub := f.sub
  base := f.base
  sub0 := f.sub0
  low := f.low
  celH := f.celH
  len := by rw [List.length_set, List.length_set]; exact f.len
  slot := fun j s hs => by
    rcases getset hs with ⟨e1, e2⟩ | ⟨e1, e2⟩
    · subst e1 e2
      exact ⟨some (.ref a), by rw [List.getElem?_set_self (by rw [← f.len]; exact hi)], a, [], rfl, ha, trivial, hg, h0, by simp, List.nodup_nil⟩
    · obtain ⟨u, e3, q⟩ := f.slot j s e2
      exact ⟨u, by rw [List.getElem?_set_ne e1]; exact e3, q⟩
  inj := fun j k c h1 h2 => by
    rcases h1.set with ⟨_, z, _⟩ | ⟨_, h1⟩
    · cases z
    · rcases h2.set with ⟨_, z, _⟩ | ⟨_, h2⟩
      · cases z
      · exact f.inj j k c h1 h2
  nst := fun j rows c rs h1 h2 h3 => by
    have bk : ∀ x, OwnAt (σ.set i (some (.ref a))) (env.set i (.nst [])) x → OwnAt σ env x := fun x ⟨k, hk⟩ => by
      rcases hk.set with ⟨_, z, _⟩ | ⟨_, hk⟩
      · cases z
      · exact ⟨k, hk⟩
    rcases getset h1 with ⟨e1, z⟩ | ⟨e1, h1⟩
    · subst e1
      rw [List.getElem?_set_self (by rw [← f.len]; exact hi)] at h2
      cases h2
      rw [ha] at h3
      cases rs with
      | nil => exact ⟨fun q => hn (bk _ q), fun r hr => nomatch hr⟩
      | cons r rs => cases h3
    · rw [List.getElem?_set_ne e1] at h2
      have q := f.nst j rows c rs h1 h2 h3
      exact ⟨fun z => q.1 (bk _ z), fun r hr z => q.2 r hr (bk r z)⟩
/-- such a list is changed -/
theorem Fr.reN {K : PySem.W.Frag} {b : Bs} {G H H' : Hp} {σ : St} {env : Ev} {i : Nat} {a : Addr} {rs rs' : List Addr} {rows rows' : List (List D)} (f : Fr K b G H σ env) (hi : env[i]? = some (.nst rows)) (hv : σ[i]? = some (some (.ref a)))
    (ha : H a = some (.lst (rs.map V.ref))) (hr : RowsOk b G H rs rows) (hg : G a = none) (h0 : b.H0 a = none) (hO : onlyN env i = true) (keep : ∀ c o, c ≠ a → c ∉ rs → H c = some o → H' c = some o) (dom : ∀ c, H c ≠ none → H' c ≠ none)
    (ha' : H' a = some (.lst (rs'.map V.ref))) (hr' : RowsOk b G H' rs' rows') (hm : ∀ r ∈ rs', ¬ OwnAt σ env r) (hna : a ∉ rs') (hnd : rs'.Nodup) : Fr K b G H' σ (env.set i (.nst rows')) := by
  have hil : i < env.length := (List.getElem?_eq_some_iff.mp hi).1
  have hno := f.nst i rows a rs hi hv ha
  have gr : ∀ c ∈ rs, G c = none ∧ b.H0 c = none := fun c hc => by
    obtain ⟨_, _, _, _, h3, h4⟩ := hr.mem c hc
    exact ⟨h3, h4⟩
  refine ⟨fun c o h => ?_, fun c o h hc => ?_, f.sub0, f.low, fun j c hj q => dom c (f.celH j c hj) q, by rw [List.length_set]; exact f.len, fun j s hs => ?_, fun j k c hj hk => f.inj j k c hj.of_setN hk.of_setN, fun j rows2 c rs2 h1 h2 h3 => ?_⟩
  · refine keep c o (fun z => ?_) (fun z => ?_) (f.sub c o h)
    · subst z; rw [hg] at h; cases h
    · rw [(gr c z).1] at h; cases h
  · refine keep c o (fun z => ?_) (fun z => ?_) (f.base c o h hc)
    · subst z; rw [h0] at h; cases h
    · rw [(gr c z).2] at h; cases h
  · rcases getset hs with ⟨e1, e2⟩ | ⟨e1, e2⟩
    · subst e1 e2
      exact ⟨_, hv, a, rs', rfl, ha', hr', hg, h0, hna, hnd⟩
    · obtain ⟨v, e, q⟩ := f.slot j s e2
      refine ⟨v, e, ?_⟩
      have ne : ∀ c, OwnI σ env j c → c ≠ a ∧ c ∉ rs := fun c hc => ⟨fun z => hno.1 (z ▸ ⟨j, hc⟩), fun z => hno.2 c z ⟨j, hc⟩⟩
      cases s with
      | un => trivial
      | dat d => exact q
      | own ds =>
        obtain ⟨c, us, e3, q1, q2, q3, q4⟩ := q
        subst e3
        obtain ⟨n1, n2⟩ := ne c ⟨⟨_, e2, rfl⟩, e⟩
        exact ⟨c, us, rfl, keep c _ n1 n2 q1, q2, q3, q4⟩
      | cel ds =>
        obtain ⟨c, us, e3, q1, q2, q3, q4⟩ := q
        subst e3
        obtain ⟨n1, n2⟩ := ne c ⟨⟨_, e2, rfl⟩, e⟩
        exact ⟨c, us, rfl, keep c _ n1 n2 q1, q2, q3, q4⟩
      | scr ns => exact q
      | dic kvs =>
        obtain ⟨c, us, e3, q1, q2, q3, q4⟩ := q
        subst e3
        obtain ⟨n1, n2⟩ := ne c ⟨⟨_, e2, rfl⟩, e⟩
        exact ⟨c, us, rfl, keep c _ n1 n2 q1, q2, q3, q4⟩
      | nst rows2 => exact absurd (onlyN_ne hO e2) (Ne.symm e1)
  · have bk : ∀ x, OwnAt σ (env.set i (.nst rows')) x → OwnAt σ env x := fun x ⟨k, hk⟩ => ⟨k, hk.of_setN⟩
    rcases getset h1 with ⟨e1, _⟩ | ⟨e1, e2⟩
    · subst e1
      rw [hv] at h2; cases h2
      rw [ha'] at h3
      have e4 := map_ref_inj (HO.lst.inj (Option.some.inj h3))
      subst e4
      exact ⟨fun z => hno.1 (bk _ z), fun r hr z => hm r hr (bk r z)⟩
    · exact absurd (onlyN_ne hO e2) (Ne.symm e1)
theorem RowsOk.len {b : Bs} {G H : Hp} : ∀ {rs : List Addr} {rows : List (List D)}, RowsOk b G H rs rows → rs.length = rows.length
  | [], [], _ => rfl
  | [], _ :: _, h => h.elim
  | _ :: _, [], h => h.elim
  | r :: rs, ds :: rows, h => congrArg Nat.succ h.2.len
theorem RowsOk.app {b : Bs} {G H : Hp} {p : Addr} {ds : List D} {vs : List V} (h1 : H p = some (.lst vs)) (h2 : DtAll G vs ds) (h3 : G p = none) (h4 : b.H0 p = none) : ∀ {rs : List Addr} {rows : List (List D)}, RowsOk b G H rs rows → RowsOk b G H (rs ++ [p]) (rows ++ [ds])
  | [], [], _ => ⟨⟨vs, h1, h2, h3, h4⟩, trivial⟩
  | [], _ :: _, h => h.elim
  | _ :: _, [], h => h.elim
  | r :: rs, es :: rows, h => ⟨h.1, h.2.app h1 h2 h3 h4⟩
theorem RowsOk.get {b : Bs} {G H : Hp} : ∀ {rs : List Addr} {rows : List (List D)} {n : Nat} {ds : List D}, RowsOk b G H rs rows → rows[n]? = some ds → ∃ r vs, rs[n]? = some r ∧ H r = some (.lst vs) ∧ DtAll G vs ds ∧ G r = none ∧ b.H0 r = none
  | [], [], n, ds, _, e => by simp at e
  | [], _ :: _, _, _, h, _ => h.elim
  | _ :: _, [], _, _, h, _ => h.elim
  | r :: rs, es :: rows, 0, ds, h, e => by
    have e : es = ds := by simpa using e
    subst e
    obtain ⟨vs, h1⟩ := h.1
    exact ⟨r, vs, rfl, h1⟩
  | r :: rs, es :: rows, n + 1, ds, h, e => by
    obtain ⟨q, vs, h1, h2⟩ := h.2.get (n := n) (ds := ds) (by simpa using e)
    exact ⟨q, vs, by simpa using h1, h2⟩
theorem RowsOk.set {b : Bs} {G H : Hp} {vs : List V} {ds : List D} (hd : DtAll G vs ds) : ∀ {rs : List Addr} {rows : List (List D)} {n : Nat} {r : Addr}, RowsOk b G H rs rows → rs.Nodup → rs[n]? = some r → RowsOk b G (upd H r (.lst vs)) rs (rows.set n ds)
  | [], [], n, r, _, _, e => by simp at e
  | [], _ :: _, _, _, h, _, _ => h.elim
  | _ :: _, [], _, _, h, _, _ => h.elim
  | q :: rs, es :: rows, 0, r, h, nd, e => by
    have e : q = r := by simpa using e
    subst e
    obtain ⟨us, h1, h2, h3, h4⟩ := h.1
    refine ⟨⟨vs, upd_same, hd, h3, h4⟩, ?_⟩
    exact h.2.keepM (Same.refl _) (fun _ _ _ z => z) fun r hr o z => by
      rw [upd_ne (fun (y : r = q) => (List.nodup_cons.mp nd).1 (by rw [← y]; exact hr))]; exact z
  | q :: rs, es :: rows, n + 1, r, h, nd, e => by
    have e : rs[n]? = some r := by simpa using e
    obtain ⟨us, h1, h2, h3, h4⟩ := h.1
    have ne : q ≠ r := fun z => (List.nodup_cons.mp nd).1 (z ▸ List.mem_of_getElem? e)
    exact ⟨⟨us, by rw [upd_ne ne]; exact h1, h2, h3, h4⟩, h.2.set hd (List.nodup_cons.mp nd).2 e⟩
/-- what such a slot holds -/
theorem Fr.rowsAt {K : PySem.W.Frag} {b : Bs} {G H : Hp} {σ : St} {env : Ev} {i : Nat} {rows : List (List D)} (f : Fr K b G H σ env) (hi : env[i]? = some (.nst rows)) :
    ∃ a rs, σ[i]? = some (some (.ref a)) ∧ H a = some (.lst (rs.map V.ref)) ∧ RowsOk b G H rs rows ∧ G a = none ∧ b.H0 a = none ∧ a ∉ rs ∧ rs.Nodup := by
  obtain ⟨v, e, a, rs, e2, q⟩ := f.slot i _ hi
  exact ⟨a, rs, e2 ▸ e, q⟩
/-- .. frozen, the lists within, too -/
theorem Fr.freezeN {K : PySem.W.Frag} {b : Bs} {G H : Hp} {σ : St} {env : Ev} {i : Nat} {rows : List (List D)} (f : Fr K b G H σ env) (hi : env[i]? = some (.nst rows)) (hO : onlyN env i = true) : ∃ G', Sub G G' ∧ Fr K b G' H σ (env.set i (.dat (.list (rows.map .list)))) := by
  obtain ⟨a, rs, hv, ha, hr, hg, h0, hna, hnd⟩ := f.rowsAt hi
  have hno := f.nst i rows a rs hi hv ha
  have hil : i < env.length := (List.getElem?_eq_some_iff.mp hi).1
  classical
  let G' : Hp := fun c => if c = a ∨ c ∈ rs then H c else G c
  have on : ∀ c, c = a ∨ c ∈ rs → G' c = H c := fun c h => if_pos h
  have off : ∀ c, c ≠ a → c ∉ rs → G' c = G c := fun c h1 h2 => if_neg fun z => z.elim h1 h2
  have gn : ∀ c, c = a ∨ c ∈ rs → G c = none ∧ b.H0 c = none := fun c h => by
    rcases h with rfl | h
    · exact ⟨hg, h0⟩
    · obtain ⟨_, _, _, _, h3, h4⟩ := hr.mem c h
      exact ⟨h3, h4⟩
  have hs : Sub G G' := fun c o h => by
    rw [off c (fun z => by rw [(gn c (.inl z)).1] at h; cases h) (fun z => by rw [(gn c (.inr z)).1] at h; cases h)]; exact h
  have hO' : ∀ c, OwnAt σ env c → c ≠ a ∧ c ∉ rs := fun c hc => ⟨fun z => hno.1 (z ▸ hc), fun z => hno.2 c z hc⟩
  have dr : ∀ {rs' : List Addr} {rows' : List (List D)}, (∀ r ∈ rs', r ∈ rs) → RowsOk b G H rs' rows' → DtAll G' (rs'.map V.ref) (rows'.map .list) := by
    intro rs'
    induction rs' with
    | nil => intro rows' _ h; cases rows' with
      | nil => exact .nil
      | cons _ _ => exact h.elim
    | cons r rs' ih => intro rows' hm h; cases rows' with
      | nil => exact h.elim
      | cons ds rows' =>
        obtain ⟨⟨vs, h1, h2, _⟩, h5⟩ := h
        exact .cons (.lst (.inl ((on r (.inr (hm r (.head _)))).trans h1)) (h2.mono hs)) (ih (fun q hq => hm q (.tail _ hq)) h5)
  have back : ∀ j c, OwnI σ (env.set i (.dat (.list (rows.map .list)))) j c → OwnI σ env j c := fun j c ⟨⟨t, ht, hto⟩, hv⟩ => by
    rcases getset ht with ⟨e1, e2⟩ | ⟨e1, e2⟩
    · subst e2; cases hto
    · exact ⟨⟨t, e2, hto⟩, hv⟩
  refine ⟨G', hs, ⟨fun c o hc => ?_, f.base, f.sub0.trans hs, fun c o hc => ?_, f.celH, by rw [List.length_set]; exact f.len, fun j t ht => ?_, fun j k c hj hk => f.inj j k c (back j c hj) (back k c hk), fun j rows2 c rs2 g1 g2 g3 => ?_⟩⟩
  · by_cases h : c = a ∨ c ∈ rs
    · rw [on c h] at hc; exact hc
    · rw [off c (fun z => h (.inl z)) (fun z => h (.inr z))] at hc; exact f.sub _ _ hc
  · by_cases h : c = a ∨ c ∈ rs
    · exact .inr (gn c h).2
    · rw [off c (fun z => h (.inl z)) (fun z => h (.inr z))] at hc; exact f.low _ _ hc
  · rcases getset ht with ⟨e1, e2⟩ | ⟨e1, e2⟩
    · subst e1 e2
      exact ⟨_, hv, _, rfl, .lst (.inl ((on a (.inl rfl)).trans ha)) (dr (fun _ h => h) hr)⟩
    · obtain ⟨v, e3, q⟩ := f.slot j t e2
      refine ⟨v, e3, ?_⟩
      cases t with
      | un => trivial
      | dat d => obtain ⟨x, e, hd⟩ := q; exact ⟨x, e, hd.mono hs⟩
      | own ds => obtain ⟨c, us, e2', q1, q2, q3, q4⟩ := q; obtain ⟨n1, n2⟩ := hO' c ⟨j, ⟨_, e2, rfl⟩, by rw [e3, e2']⟩; exact ⟨c, us, e2', q1, q2.mono hs, by rw [off c n1 n2]; exact q3, q4⟩
      | cel ds => obtain ⟨c, us, e2', q1, q2, q3, q4⟩ := q; obtain ⟨n1, n2⟩ := hO' c ⟨j, ⟨_, e2, rfl⟩, by rw [e3, e2']⟩; exact ⟨c, us, e2', q1, q2.mono hs, by rw [off c n1 n2]; exact q3, q4⟩
      | scr ns => obtain ⟨c, e2', q1⟩ := q; exact ⟨c, e2', hs.seq q1⟩
      | dic kvs => obtain ⟨c, us, e2', q1, q2, q3, q4⟩ := q; obtain ⟨n1, n2⟩ := hO' c ⟨j, ⟨_, e2, rfl⟩, by rw [e3, e2']⟩; exact ⟨c, us, e2', q1, dtKv_mono hs _ _ q2, by rw [off c n1 n2]; exact q3, q4⟩
      | nst rows2 => exact absurd (onlyN_ne hO e2) (Ne.symm e1)
  · rcases getset g1 with ⟨_, z⟩ | ⟨z1, z⟩
    · cases z
    · exact absurd (onlyN_ne hO z) (Ne.symm z1)
def isNst (env : Ev) (i : Nat) : Bool := match env[i]? with
  | some (.nst _) => true
  | _ => false
theorem isNst_some {env : Ev} {i : Nat} (h : isNst env i = true) : ∃ rows, env[i]? = some (.nst rows) := by
  unfold isNst at h
  split at h
  · exact ⟨_, by assumption⟩
  · cases h
section
variable {X : Cx} {W : WX} {a b c e : Expr} {es : List Expr} {ma mb mc : M D} {ml : M (List D)} {mt : M Bool} {ms mn : MS} {st : Stmt} {sts ss : List Stmt} {pos p p2 : Pos}
/-- x, y = [], e -/
def mPar2N (i j : Nat) (mb : M D) : MS := mBind (mLst mNil) fun xs => mBind mb fun y => mStore fun env => (putSl j (.dat y) env).bind fun e => if xs = [] then putSl i (.nst []) e else none
theorem js_par2N {i j : Nat} {x y : Str} {b : Expr} {px py pt pl : Pos} {kt k2 pt2} (hc : X.calm = true) (hN : X.N.Nodup) (hij : i ≠ j)
    (hx : X.env.scope.names.lookup x = some .local) (hy : X.env.scope.names.lookup y = some .local) (hb : JE X W b mb)
    (hw : swappedStores [.Tuple [.Name x px, .Name y py] kt pt] (.Tuple [.List [] pl, b] k2 pt2) X.env = pure (some [x, y]))
    (hi : X.N[i]? = some x := by rfl) (hj : X.N[j]? = some y := by rfl)
    (hs : swapsWithSole [.Tuple [.Name x px, .Name y py] kt pt] (.Tuple [.List [] pl, b] k2 pt2) pos.line X.env = pure false := by rfl)
    (hs1 : starEach (.List [] pl :: [b]) X.env = (false, eval (.List [] pl) X.env) :: starEach [b] X.env := by rfl) (hs2 : starEach (b :: []) X.env = (false, eval b X.env) :: starEach [] X.env := by rfl) :
    JS X W (.Assign [.Tuple [.Name x px, .Name y py] kt pt] (.Tuple [.List [] pl, b] k2 pt2) pos) (mPar2N i j mb) := by
  refine PS.imp (ps_par hc hN hi hj hij hx hy (pa_cons (show JO X W (.List [] pl) (mLst mNil) from jo_lst jl_nil) (pa_cons hb pa_nil hs2) hs1) hw hs) fun σ H D h => ?_
  obtain ⟨b, G, env, fr, h⟩ := h
  unfold tPar tCons
  refine tO_one fr h ?_ (fun c e he G' H' fr' => he σ G' H' fr')
  intro d e1 a G1 H1 fr1 st1 f1 h1
  refine tE_one fr1 h1 ?_ (fun c e he G' H' fr' => he σ G' H' fr')
  intro d2 e2 v2 G2 H2 fr2 st2 dp2 h2
  obtain ⟨e3, h3, q⟩ := wpR.store h2
  obtain ⟨e4, h4, h5⟩ := optS h3
  obtain ⟨hl, rfl⟩ := putSl_some h4
  split at h5
  case isFalse => cases h5
  rename_i e0
  subst e0
  obtain ⟨hl2, rfl⟩ := putSl_some h5
  obtain ⟨vs, q1, q2⟩ := f1.at_
  cases q2
  have f3 := fr2.set dp2 hl
  have no : ¬ OwnAt σ e2 a := fun z => f1.noown (st2.own a z)
  have hg : G2 a = none := by
    cases q : G2 a with
    | none => rfl
    | some o =>
      rcases st2.new a o q with z | z | z
      · rw [f1.nofrz] at z; cases z
      · rw [q1] at z; cases z
      · exact absurd z f1.noown
  have f4 := f3.setNst (i := i) (a := a) (st2.keep a _ q1 f1.noown) hg f1.h0 (fun ⟨k, hk⟩ => by
    rcases hk.set with ⟨_, z, _⟩ | ⟨_, hk⟩
    · cases z
    · exact no ⟨k, hk⟩) hl2
  refine ⟨_, v2, rfl, ?_⟩
  rw [List.set_comm _ _ hij]
  exact q _ G2 H2 f4 (st1.trans st2).sub
/-- x.append([..]) -/
def appN (i : Nat) (ds : List D) : Ev → Option Ev := fun e => match e[i]? with
  | some (.nst rows) => if onlyN e i = true ∧ rows.length < sizeLine then some (e.set i (.nst (rows ++ [ds]))) else none
  | _ => none
def mNApp (i : Nat) (ml : M (List D)) : MS := fun env => if isNst env i = true then mBind (mLst ml) (fun ds => mStore (appN i ds)) env else .bad
theorem js_nApp (i : Nat) {x : Str} {px apos cpos pl : Pos} (ha : JL X W es ml)
    (hN : X.N[i]? = some x := by rfl) (hv : Vis X.env.scope x := by first | exact Or.inl rfl | exact Or.inr (Or.inl rfl) | exact Or.inr (Or.inr rfl)) (hd : (x == ("__debug__" : Str)) = false := by decide)
    (hcd : (x == ("__classdict__" : Str)) = false := by decide)
    (hbase : attributeBase (.Name x px) "append" X.env (eval (.Name x px) X.env) = eval (.Name x px) X.env := by rfl)
    (hfew : ((backTo cpos (starEach ((.List es pl) :: []) X.env)).all (fun x => !x.1) && (backToKw cpos (keywordEach [] X.env)).all (fun x => x.1.isSome)
      && decide (((.List es pl) :: ([] : List Expr)).length + ([] : List Keyword).length + (if ([] : List Keyword).isEmpty then 0 else 1) < 30)) = true := by rfl)
    (hline : (apos.endLine == cpos.line) = true := by rfl) (hs : starEach ((.List es pl) :: []) X.env = (false, eval (.List es pl) X.env) :: starEach [] X.env := by rfl) (hplain : (backTo cpos (starEach [] X.env)).any (·.1) = false := by rfl)
    (hsw : swapsWith (.Call (.Attribute (.Name x px) "append" apos) ((.List es pl) :: []) [] cpos) none pos.line X.env = pure false := by rfl) :
    JS X W (.Expr (.Call (.Attribute (.Name x px) "append" apos) ((.List es pl) :: []) [] cpos) pos) (mNApp i ml) := by
  refine PS.imp (ps_expr (pe_bm PySem.F.plainAttrs_list PySem.F.slot_list_append PySem.F.type_list_append mt_append (pe_var hN hv hd hcd) (pa_cons (jo_lst ha) pa_nil hs) hbase hfew hline hs hplain) hsw) fun σ H D h => ?_
  obtain ⟨b, G, env, fr, h⟩ := h
  unfold mNApp at h
  split at h
  case isFalse => exact h.elim
  rename_i ho
  obtain ⟨rows0, hr0⟩ := isNst_some ho
  obtain ⟨a, rs0, h1, h2, _⟩ := fr.rowsAt hr0
  refine ⟨_, h1, .inl ⟨rfl, _, .inl (.inl h2)⟩, ?_⟩
  refine tO_one fr h (fun zs e1 l G1 H1 fr1 st1 f1 h3 => ?_) (fun c e he G' H' fr' => he σ G' H' fr')
  obtain ⟨e2, h4, q⟩ := wpR.store h3
  unfold appN at h4
  split at h4
  case h_2 => cases h4
  rename_i rows hr
  obtain ⟨⟨hO, hl⟩, rfl⟩ := ifS h4
  obtain ⟨a', rs, g1, g2, g3, g4, g5, g6, g7⟩ := fr1.rowsAt hr
  rw [h1] at g1; cases g1
  obtain ⟨us, q4, q5⟩ := f1.at_
  obtain ⟨na, nr⟩ := f1.nn.at hr h1 g2
  refine ⟨a, rs.map V.ref, .ref l, rfl, rfl, g2, by rw [List.length_map, g3.len]; exact hl, q σ G1 _ (fr1.reN (a := a) (rs := rs) (rs' := rs ++ [l]) hr h1 g2 g3 g4 g5 hO (fun c o hc _ hh => by rw [upd_ne hc]; exact hh) (fun c hc z => ?_) ?_ ?_ ?_ ?_ ?_) st1.sub⟩
  · by_cases e : c = a
    · subst e; rw [upd_same] at z; cases z
    · rw [upd_ne e] at z; exact hc z
  · rw [upd_same, List.map_append]; rfl
  · refine RowsOk.app (vs := us) (by rw [upd_ne na]; exact q4) q5 f1.nofrz f1.h0 ?_
    exact g3.keepM (Same.refl _) (fun _ _ _ z => z) fun r hr o z => by rw [upd_ne (fun (y : r = a) => g6 (by rw [← y]; exact hr))]; exact z
  · intro r hr2
    rcases List.mem_append.mp hr2 with z | z
    · exact (fr1.nst i rows a rs hr h1 g2).2 r z
    · have : r = l := by simpa using z
      subst this; exact f1.noown
  · intro z
    rcases List.mem_append.mp z with z | z
    · exact g6 z
    · have : a = l := by simpa using z
      exact na this.symm
  · rw [List.nodup_append]
    refine ⟨g7, by simp, fun r hr2 s hs => ?_⟩
    have : s = l := by simpa using hs
    subst this
    exact fun z => nr (z ▸ hr2)
/-- x[j][k], k written -/
def nAt (i : Nat) (k : Int) (x : D) : M D := fun e => match e[i]?, x with
  | some (.nst rows), .int p => mOpt ((atI rows p).bind fun ds => atI ds k) e
  | _, _ => .bad
def mNIx (i : Nat) (k : Int) (mj : M D) : M D := fun env => if isNst env i = true then mBind mj (nAt i k) env else .bad
theorem atI_rows {b : Bs} {G H : Hp} {rs : List Addr} {rows : List (List D)} {p : Int} {ds : List D} (h : RowsOk b G H rs rows) (e : atI rows p = some ds) : ∃ r vs, atI (rs.map V.ref) p = some (.ref r) ∧ r ∈ rs ∧ H r = some (.lst vs) ∧ DtAll G vs ds ∧ ∃ n, ixN rows.length p = some n ∧ rs[n]? = some r ∧ rows[n]? = some ds := by
  unfold atI at e ⊢
  rw [List.length_map, h.len]
  cases hn : ixN rows.length p with
  | none => rw [hn] at e; cases e
  | some n =>
    rw [hn] at e
    have e : rows[n]? = some ds := e
    obtain ⟨r, vs, h1, h2, h3, _⟩ := h.get e
    exact ⟨r, vs, by simp [h1], List.mem_of_getElem? h1, h2, h3, n, rfl, h1, e⟩
theorem je_nIx (i : Nat) {x : Str} {k : Int} {kk : Nat} {j : Expr} {mj : M D} {px pc : Pos} (hj : JE X W j mj)
    (hN : X.N[i]? = some x := by rfl) (hv : Vis X.env.scope x := by first | exact Or.inl rfl | exact Or.inr (Or.inl rfl) | exact Or.inr (Or.inr rfl)) (hd : (x == ("__debug__" : Str)) = false := by decide)
    (hcd : (x == ("__classdict__" : Str)) = false := by decide) (hs : PlainIx j := by exact fun _ _ => rfl) (hs2 : PlainIx (.Constant (.int k) kk pc) := by exact fun _ _ => rfl) : JE X W (.Subscript (.Subscript (.Name x px) j p) (.Constant (.int k) kk pc) pos) (mNIx i k mj) := by
  refine PE.imp (pe_ix (ix_list (X := X)) (pe_ix (ix_list (X := X)) (pe_var hN hv hd hcd) hj hs) pe_int hs2) fun σ H Q h => ?_
  obtain ⟨b, G, env, fr, h⟩ := h
  unfold mNIx at h
  split at h
  case isFalse => exact h.elim
  rename_i ho
  obtain ⟨rows0, hr0⟩ := isNst_some ho
  obtain ⟨a, rs0, h1, h2, _⟩ := fr.rowsAt hr0
  refine ⟨_, h1, ?_⟩
  refine tE_one fr h (fun d e1 v G1 H1 fr1 st1 dp1 h3 => ?_) (fun c e he => he)
  unfold nAt at h3
  split at h3
  case h_2 => exact h3.elim
  rename_i rows p hr
  obtain ⟨z, hz, h4⟩ := wpR.opt h3
  obtain ⟨ds, e1', e2'⟩ := optS hz
  obtain ⟨a', rs, g1, g2, g3, _⟩ := fr1.rowsAt hr
  rw [h1] at g1; cases g1
  cases dt_int dp1
  obtain ⟨r, vs, k1, _, k2, k3, _⟩ := atI_rows g3 e1'
  obtain ⟨w, ew, dw⟩ := atI_dt k3 e2'
  exact ⟨a, rs.map V.ref, p, .ref r, rfl, rfl, .inl (.inl g2), k1, r, vs, k, w, rfl, rfl, .inl (.inl k2), ew, h4 w G1 H1 fr1 st1 dw⟩
/-- x[j][k] = e -/
def setN (i : Nat) (k : Int) (d x : D) : Ev → Option Ev := fun e => match e[i]?, x with
  | some (.nst rows), .int p => if onlyN e i = true then (ixN rows.length p).bind fun n => (rows[n]?).bind fun ds => (ixN ds.length k).map fun m => e.set i (.nst (rows.set n (ds.set m d))) else none
  | _, _ => none
def mNSet (i : Nat) (k : Int) (ma mj : M D) : MS := mBind ma fun d => fun env => if isNst env i = true then mBind mj (fun x => mStore (setN i k d x)) env else .bad
theorem js_nSet (i : Nat) {x : Str} {k : Int} {kk : Nat} {j : Expr} {mj : M D} {px pc sp sp2 : Pos} (he : JE X W e ma) (hj : JE X W j mj)
    (hN : X.N[i]? = some x := by rfl) (hv : Vis X.env.scope x := by first | exact Or.inl rfl | exact Or.inr (Or.inl rfl) | exact Or.inr (Or.inr rfl)) (hd : (x == ("__debug__" : Str)) = false := by decide)
    (hcd : (x == ("__classdict__" : Str)) = false := by decide) (hpi : PlainIx j := by exact fun _ _ => rfl)
    (has : ∀ v, assign (.Subscript (.Subscript (.Name x px) j sp2) (.Constant (.int k) kk pc) sp) X.env v = (do
      let ov ← holding [v] (eval (.Subscript (.Name x px) j sp2) X.env)
      let iv ← holding [v, ov] (eval (.Constant (.int k) kk pc) X.env)
      standAt sp
      holding [v, ov, iv] (setItem ov iv v)
      release [v, ov, iv] []) := by intro _; rfl)
    (hs : swapsWithSole [.Subscript (.Subscript (.Name x px) j sp2) (.Constant (.int k) kk pc) sp] e pos.line X.env = pure false := by rfl) (hw : swappedStores [.Subscript (.Subscript (.Name x px) j sp2) (.Constant (.int k) kk pc) sp] e X.env = pure none := by rfl)
    (h1 : (assignEach [.Subscript (.Subscript (.Name x px) j sp2) (.Constant (.int k) kk pc) sp] X.env).map (·.2) = [assign (.Subscript (.Subscript (.Name x px) j sp2) (.Constant (.int k) kk pc) sp) X.env] := by rfl) :
    JS X W (.Assign [.Subscript (.Subscript (.Name x px) j sp2) (.Constant (.int k) kk pc) sp] e pos) (mNSet i k ma mj) := by
  refine PS.imp (ps_asg he (pg_sub (pe_ix (ix_list (X := X)) (pe_var hN hv hd hcd) hj hpi) pe_int set_list has) hs hw h1) fun σ H D h => ?_
  obtain ⟨b, G, env, fr, h⟩ := h
  refine tE_one fr h (fun d e1 v G1 H1 fr1 st1 dp1 h2 => ?_) (fun c e he G' H' fr' => he σ G' H' fr')
  split at h2
  case isFalse => exact h2.elim
  rename_i ho
  obtain ⟨rows0, hr0⟩ := isNst_some ho
  obtain ⟨a, rs0, o1, o2, _⟩ := fr1.rowsAt hr0
  refine ⟨_, o1, ?_⟩
  refine tE_one fr1 h2 (fun dj e2 vj G2 H2 fr2 st2 dp2 h3 => ?_) (fun c e he G' H' fr' => he σ G' H' fr')
  obtain ⟨e3, h4, q⟩ := wpR.store h3
  unfold setN at h4
  split at h4
  case h_2 => cases h4
  rename_i rows p hr
  split at h4
  case isFalse => cases h4
  rename_i hO
  obtain ⟨n, en, h5⟩ := optS h4
  obtain ⟨ds, eds, h6⟩ := optS h5
  obtain ⟨m, em, h7⟩ := Option.map_eq_some_iff.mp h6
  subst h7
  obtain ⟨a', rs, g1, g2, g3, g4, g5, g6, g7⟩ := fr2.rowsAt hr
  rw [o1] at g1; cases g1
  cases dt_int dp2
  obtain ⟨r, vs, k1, k0, k2, k3, n', k4, k5, k6⟩ := atI_rows g3 (show atI rows p = some ds by unfold atI; rw [en]; exact eds)
  rw [en] at k4; cases k4
  have ra : r ≠ a := fun z => g6 (z ▸ k0)
  have dd : DtAll G2 (vs.set m v) (ds.set m d) := dpAll_set (dp1.mono st2.sub) m k3
  refine ⟨a, rs.map V.ref, p, .ref r, rfl, rfl, .inl (.inl g2), k1, r, vs, k, m, rfl, rfl, k2, by rw [dpAll_len k3]; exact em, q σ G2 _ (fr2.reN (a := a) (rs := rs) (rs' := rs) hr o1 g2 g3 g4 g5 hO (fun c o _ hc hh => ?_) (fun c hc z => ?_) ?_ (g3.set dd g7 k5) (fr2.nst i rows a rs hr o1 g2).2 g6 g7) (st1.trans st2).sub⟩
  · rw [upd_ne (fun (z : c = r) => hc (by rw [z]; exact k0))]; exact hh
  · by_cases e : c = r
    · subst e; rw [upd_same] at z; cases z
    · rw [upd_ne e] at z; exact hc z
  · rw [upd_ne (Ne.symm ra)]; exact g2
/-- such a list is frozen ahead -/
def mFrzN (i : Nat) (m : MS) : MS := fun env => match env[i]? with
  | some (.nst rows) => if onlyN env i = true then m (env.set i (.dat (.list (rows.map .list)))) else .bad
  | _ => .bad
theorem jss_frzN (i : Nat) (h : JSs X W sts ms) : JSs X W sts (mFrzN i ms) := by
  refine PSs.imp h fun σ H D h => ?_
  obtain ⟨b, G, env, fr, h⟩ := h
  unfold mFrzN at h
  split at h
  case h_2 => exact h.elim
  rename_i rows he
  split at h
  case isFalse => exact h.elim
  rename_i hO
  obtain ⟨G1, s1, f1⟩ := fr.freezeN he hO
  exact ⟨b, G1, _, f1, wpS_sub s1 h⟩
end
end DL

namespace DL
open PySem PySem.Spec PyProof.Rows L2
/-! ## zip of a tuple and a list -/
def ItzM (K : PySem.W.Frag) (a b : Addr) : It :=
  ⟨fun i H => ∃ (xs ys : List V) (x y : V), SqT K H a xs ∧ SqL K H b ys ∧ xs[i]? = some x ∧ ys[i]? = some y,
    fun i H v H' => ∃ T x y, v = .ref T ∧ H T = none ∧ H' = upd H T (.tup [x, y]) ∧ (∀ xs, SqT K H a xs → xs[i]? = some x) ∧ ∀ ys, SqL K H b ys → ys[i]? = some y,
    fun i H => ∃ xs ys : List V, SqT K H a xs ∧ SqL K H b ys ∧ (xs.length ≤ i ∨ ys.length ≤ i)⟩
/-- an iterator at its end, or behind it -/
theorem drawsT_end {prog : Program} {w : World} {A : Around} (hh : A.handled = none) (it t : Addr) (hne : t ≠ it) (items : Array Value) (i : Nat) (he : items[i]? = none) :
    Draws prog w A it [it, t] i (fun j v => items[j]? = some v) (fun j h => j = i ∧ h.IsTupleIter it t i ∧ h.IsTuple t items) where
  live := fun _ _ st => let ⟨o, ho, _⟩ := st.2.1; ⟨o, ho⟩
  frame := fun _ _ _ st hk => ⟨st.1, st.2.1.at fun o e => hk it (by simp) o e, st.2.2.at fun o e => hk t (by simp) o e⟩
  item := fun j s Q E hi st hQ => absurd st.1 (Nat.ne_of_lt hi)
  done := fun s Q E st hE => wpAny_nextOf_tuple_end hh st.2.1 st.2.2 he hE
theorem drawsL_end {prog : Program} {w : World} {A : Around} (hh : A.handled = none) (it t : Addr) (hne : t ≠ it) (items : Array Value) (i : Nat) (he : items[i]? = none) :
    Draws prog w A it [it, t] i (fun j v => items[j]? = some v) (fun j h => j = i ∧ h.IsListIter it t i ∧ h.IsList t items) where
  live := fun _ _ st => let ⟨o, ho, _⟩ := st.2.1; ⟨o, ho⟩
  frame := fun _ _ _ st hk => ⟨st.1, st.2.1.at fun o e => hk it (by simp) o e, st.2.2.at fun o e => hk t (by simp) o e⟩
  item := fun j s Q E hi st hQ => absurd st.1 (Nat.ne_of_lt hi)
  done := fun s Q E st hE => wpAny_nextOf_list_end hh st.2.1 st.2.2 he hE
theorem turn_zipM {P : Program} {w : World} {K : PySem.W.Frag} {elts : List Expr} {kk : Nat} {tpos : Pos} {a b z TI TO i1 i2 : Addr} (S : ZipSep2 z TI TO i1 i2 [i1, a] [i2, b]) (n1 : a ≠ i1) (n2 : b ≠ i2) :
    Turn P w K (.Tuple elts kk tpos) (ItzM K a b) [z, TI, TO, i1, i2] z (fun i h => IsZip h z TI TO .none ∧ IsTupOf2 h TI (.ref i1) (.ref i2) ∧ (∃ x y, IsTupOf2 h TO x y) ∧ h.IsTupleIter i1 a i ∧ h.IsListIter i2 b i) where
  mem := by simp
  obj := fun i h st c hc => by
    obtain ⟨hz, hTI, ⟨x, y, hTO⟩, ⟨o1, e1, _, d1⟩, ⟨o2, e2, _, d2⟩⟩ := st
    have e' : c = z ∨ c = TI ∨ c = TO ∨ c = i1 ∨ c = i2 := by simpa using hc
    rcases e' with q | q | q | q | q
    · rw [q]; exact ⟨_, hz, fun v q => nomatch q⟩
    · rw [q]; exact ⟨_, hTI, fun v q => nomatch q⟩
    · rw [q]; exact ⟨_, hTO, fun v q => nomatch q⟩
    · rw [q]; exact ⟨o1, e1, fun v q => by rw [d1] at q; cases q⟩
    · rw [q]; exact ⟨o2, e2, fun v q => by rw [d2] at q; cases q⟩
  keep := fun i h h' st k => by
    obtain ⟨hz, hTI, ⟨x, y, hTO⟩, h1, h2⟩ := st
    exact ⟨k z (by simp) _ hz, k TI (by simp) _ hTI, ⟨x, y, k TO (by simp) _ hTO⟩, h1.at fun o q => k i1 (by simp) o q, h2.at fun o q => k i2 (by simp) o q⟩
  item := by
    intro X hP hw hK hc i pins s σ H E I hf st hg
    subst hP hw hK
    obtain ⟨hz, hTI, ⟨x0, y0, hTO⟩, h1, h2⟩ := st
    obtain ⟨xs, ys, x, y, hqx, hqy, hx, hy⟩ := hg
    obtain ⟨its, rv, p, _⟩ := I.tuple hqx
    obtain ⟨its2, rv2, p2, _⟩ := I.list hqy
    obtain ⟨u, hu, ru⟩ := rv.get hx
    obtain ⟨u2, hu2, ru2⟩ := rv2.get hy
    have hzl : z < s.heap.objs.size := Heap.lt_size hz
    have hh : X.A.in1.handled = none := I.ok.hd hc
    have e1 := (List.getElem?_eq_some_iff.mp hu).1
    have e2 := (List.getElem?_eq_some_iff.mp hu2).1
    refine wpAny_pyNext_zipD2_item S (Draws.tuple hh i1 a n1 its.toArray) (Draws.list hh i2 b n2 its2.toArray) hz hTI hTO ⟨h1, p⟩ ⟨h2, p2.isList⟩ (by simpa using e1) (by simpa using e2) fun x1 x2 h' tk y1 y2 z' TO' d1 d2 hT hsz hk => ?_
    have ex1 : x1 = u := by
      have y1 : its[i]? = some x1 := by simpa using y1
      rw [hu] at y1; exact (Option.some.inj y1).symm
    have ex2 : x2 = u2 := by
      have y2 : its2[i]? = some x2 := by simpa using y2
      rw [hu2] at y2; exact (Option.some.inj y2).symm
    subst ex1 ex2
    refine ⟨_, rfl, wpAny_letOwnedTupleGo_zip (s := { s with heap := h', toks := tk }) z' fun h'' z'' sb => ?_⟩
    have hT2 : h''.get? s.heap.objs.size = some { cls := .type "tuple", data := .seq #[x1, x2] } := (sb.2 _ (Nat.ne_of_gt hzl)).trans hT
    have new : ObjOk X.prog X.w (upd H s.heap.objs.size (.tup [x, y])) h'' s.heap.objs.size (.tup [x, y]) :=
      ⟨by show 2 ≤ sizeLine; decide, [x1, x2], .cons ru (.cons ru2 .nil), ⟨_, hT2, rfl, _, rfl⟩⟩
    have I1 : Inv X pins σ (upd H s.heap.objs.size (.tup [x, y])) { s with heap := h'', toks := tk } :=
      I.turnedNew (t' := tk) (ch := [z, TI, TO, i1, i2]) (fun c o hb q => (sb.2 c (fun q' => hb (by simp [q']))).trans (hk c o (fun q' => hb (by simp [q'])) (fun q' => hb (by simp [q'])) (fun q' => hb (by simp [q'])) (fun q' => hb (by simp [q'])) q)) hf (Nat.le_refl _) new
    refine ⟨.ref s.heap.objs.size, _, I1, rfl, ⟨_, x, y, rfl, I.hok.fresh (Nat.le_refl _), rfl, fun l hl => by rw [I.tuple_inj hl hqx]; exact hx, fun l hl => by rw [I.list_inj hl hqy]; exact hy⟩, ⟨z'', ?_, ⟨x1, x2, ?_⟩, ?_, ?_⟩, fun c hcm => ?_⟩
    · exact (sb.2 _ S.TIz).trans (hk _ _ S.TIz S.TITO S.TIi1 S.TIi2 hTI)
    · exact (sb.2 _ S.TOz).trans TO'
    · exact d1.1.at fun o q => (sb.2 _ (Ne.symm S.zi1)).trans q
    · exact d2.1.at fun o q => (sb.2 _ (Ne.symm S.zi2)).trans q
    · have hlt : c < s.heap.objs.size := by
        have e' : c = z ∨ c = TI ∨ c = TO ∨ c = i1 ∨ c = i2 := by simpa using hcm
        rcases e' with q | q | q | q | q
        · rw [q]; exact hzl
        · rw [q]; exact Heap.lt_size hTI
        · rw [q]; exact Heap.lt_size hTO
        · rw [q]; obtain ⟨_, e1, _⟩ := h1; exact Heap.lt_size e1
        · rw [q]; obtain ⟨_, e2, _⟩ := h2; exact Heap.lt_size e2
      rw [upd_ne (Nat.ne_of_lt hlt)]
      exact (hf c hcm).1
  done := by
    intro X hP hw hK hc i pins s σ H E I hf st hg
    subst hP hw hK
    obtain ⟨hz, hTI, ⟨x0, y0, hTO⟩, h1, h2⟩ := st
    obtain ⟨xs, ys, hqx, hqy, hend⟩ := hg
    obtain ⟨its, rv, p, _⟩ := I.tuple hqx
    obtain ⟨its2, rv2, p2, _⟩ := I.list hqy
    have hh : X.A.in1.handled = none := I.ok.hd hc
    have l1 := rv.length
    have l2 := rv2.length
    have fin : ∀ {n1' n2' : Nat} {St1 St2 : Nat → Heap → Prop}, Draws X.prog X.w X.A.in1 i1 [i1, a] n1' (fun j v => its.toArray[j]? = some v) St1 → Draws X.prog X.w X.A.in1 i2 [i2, b] n2' (fun j v => its2.toArray[j]? = some v) St2 →
        St1 i s.heap → St2 i s.heap → i ≤ n1' → i ≤ n2' → (i = n1' ∨ i = n2') → wpAny (model X.prog X.w) X.A (pyNext (.ref z)) (fun r s1 => r = none ∧ Inv X pins σ H s1) E s := fun D1 D2 q1 q2 l1 l2 he =>
      wpAny_pyNext_zipD2_end S D1 D2 hz hTI hTO q1 q2 l1 l2 he fun h' tk hk => ⟨rfl, I.turnedL (t' := tk) (ch := [z, TI, TO, i1, i2]) (fun c o hb q =>
        hk c o (fun q' => hb (by simp [q'])) (fun q' => hb (by simp [q'])) (fun q' => hb (by simp [q'])) (fun q' => hb (by simp [q'])) q) hf⟩
    by_cases c1 : i < its.length
    · by_cases c2 : i < its2.length
      · exfalso; omega
      · exact fin (Draws.tuple hh i1 a n1 its.toArray) (drawsL_end hh i2 b n2 its2.toArray i (by simp; omega)) ⟨h1, p⟩ ⟨rfl, h2, p2.isList⟩ (by simp; omega) (Nat.le_refl _) (.inr rfl)
    · by_cases c2 : i < its2.length
      · exact fin (drawsT_end hh i1 a n1 its.toArray i (by simp; omega)) (Draws.list hh i2 b n2 its2.toArray) ⟨rfl, h1, p⟩ ⟨h2, p2.isList⟩ (Nat.le_refl _) (by simp; omega) (.inl rfl)
      · exact fin (drawsT_end hh i1 a n1 its.toArray i (by simp; omega)) (drawsL_end hh i2 b n2 its2.toArray i (by simp; omega)) ⟨rfl, h1, p⟩ ⟨rfl, h2, p2.isList⟩ (Nat.le_refl _) (Nat.le_refl _) (.inl rfl)
  self := fun A i s Q E st h => wpAny_pyIter_zip st.1 h
def iZipM (K : PySem.W.Frag) (ta : TA) : TI := fun σ H R => ta σ H fun vs H1 => ∃ a b xs ys, vs = [.ref a, .ref b] ∧ SqT K H1 a xs ∧ SqL K H1 b ys ∧ R (ItzM K a b) H1
theorem pi_zipM {X : Cx} {e e2 : Expr} {ta : TA} {p pos tpos : Pos} {elts : List Expr} {kk : Nat} (hg : Gl X "zip") (hm : X.mg "zip" = none) (ha : PA X [e, e2] ta)
    (hs : starEach [e, e2] X.env = (false, eval e X.env) :: starEach [e2] X.env := by rfl) (hpl : (backTo pos (starEach [e2] X.env)).any (·.1) = false := by rfl) :
    PI X (.Tuple elts kk tpos) (.Call (.Name "zip" p) [e, e2] [] pos) (iZipM X.K ta) := by
  refine ⟨fun pins s σ H R I h => ?_⟩
  refine Call_ (ld_blt I hg hm PyProof.Rows.boot_zip (PyProof.Rows.callWith_type1 (thn (ha.run pos pins s σ H _ I h) fun us s1 ⟨vs, H1, I1, r1, q1⟩ => ?_) hs hpl))
  obtain ⟨a, b, xs, ys, ex, hqx, hqy, q⟩ := q1
  subst ex
  cases r1 with
  | cons r rr =>
    cases rr with
    | cons r' rr =>
      cases rr
      cases r
      cases r'
      have fresh5 : ∀ c, c ∈ [s1.heap.objs.size + 4, s1.heap.objs.size + 2, s1.heap.objs.size + 3, s1.heap.objs.size, s1.heap.objs.size + 1] → FpOk X pins H1 c := fun c hcm => by
        have e' : c = s1.heap.objs.size + 4 ∨ c = s1.heap.objs.size + 2 ∨ c = s1.heap.objs.size + 3 ∨ c = s1.heap.objs.size ∨ c = s1.heap.objs.size + 1 := by simpa using hcm
        have hle : s1.heap.objs.size ≤ c := by
          rcases e' with z | z | z | z | z
          · rw [z]; exact Nat.le_add_right _ _
          · rw [z]; exact Nat.le_add_right _ _
          · rw [z]; exact Nat.le_add_right _ _
          · rw [z]; exact Nat.le_refl _
          · rw [z]; exact Nat.le_add_right _ _
        exact I1.fpOk hle (I1.hok.fresh hle)
      obtain ⟨its, rv, p1, _⟩ := I1.tuple hqx
      obtain ⟨its2, rv2, p2, _⟩ := I1.list hqy
      obtain ⟨o1, ho1, _⟩ := id p1
      have la : a < s1.heap.objs.size := Heap.lt_size ho1
      have lb : b < s1.heap.objs.size := p2.lt
      refine zip_begins2 (begins_tuple a its.toArray) (begins_list b its2.toArray) p1 p2.isList fun h' hz hTI hTO h1 h2 hsz hk => wpAny_pyIter_zip hz ?_
      have I2 : Inv X pins σ H1 { s1 with heap := h' } := I1.kept (t' := s1.toks) hk
      exact ⟨s1.heap.objs.size + 4, [s1.heap.objs.size + 4, s1.heap.objs.size + 2, s1.heap.objs.size + 3, s1.heap.objs.size, s1.heap.objs.size + 1], _, _, H1, rfl, I2,
        turn_zipM (zip_sep2 (by simpa using la) (by simpa using lb)) (Nat.ne_of_lt la) (Nat.ne_of_lt (Nat.lt_succ_of_lt lb)), ⟨hz, hTI, ⟨_, _, hTO⟩, ⟨_, h1, rfl, rfl⟩, ⟨_, h2, rfl, rfl⟩⟩, fresh5, q⟩
def dZipM : List D → Option (List D)
  | [.tuple xs, .list ys] => some (zipD xs ys)
  | _ => none
def mZipM (ml : M (List D)) : M (List D) := mBind ml fun ds => mOpt (dZipM ds)
section
variable {X : Cx} {W : WX} {e e2 : Expr} {ml : M (List D)} {p pos : Pos}
theorem ji_zipM {elts : List Expr} {kk : Nat} {tpos : Pos} (hg : Gl X "zip") (hm : X.mg "zip" = none) (ha : JL X W [e, e2] ml)
    (hs : starEach [e, e2] X.env = (false, eval e X.env) :: starEach [e2] X.env := by rfl) (hpl : (backTo pos (starEach [e2] X.env)).any (·.1) = false := by rfl) : JI X W (.Tuple elts kk tpos) (.Call (.Name "zip" p) [e, e2] [] pos) (mZipM ml) := by
  refine PI.imp (pi_zipM hg hm ha hs hpl) fun σ H R h => ?_
  obtain ⟨b, G, env, fr, h⟩ := h
  refine tL_one fr h (fun ds e1 vs G1 H1 fr1 st1 dp1 h1 => ?_) (fun c e he => he)
  obtain ⟨z, hz, h3⟩ := wpR.opt h1
  unfold dZipM at hz
  split at hz
  · obtain ⟨v, u, rfl, hv, hu⟩ := dtAll2 dp1
    obtain ⟨a, xs, rfl, hr, hd⟩ := dt_tup hv
    obtain ⟨b', ys, rfl, hr2, hd2⟩ := dt_lst hu
    cases hz
    refine ⟨a, b', xs, ys, rfl, .inl (rd_mono fr1.sub hr), .inl (rd_mono fr1.sub hr2), h3 _ G1 H1 fr1 st1 ⟨fun i H s hi => ?_, fun i H s hi => ?_, fun i H G2 x H' s1 s2 hy d hdd => ?_⟩⟩
    · rw [zipD_len] at hi
      refine ⟨xs, ys, .inl (rd_mono s hr), .inl (rd_mono s hr2), ?_⟩
      rw [dpAll_len hd, dpAll_len hd2]; omega
    · rw [zipD_len] at hi
      exact ⟨xs, ys, xs[i]'(by rw [dpAll_len hd]; omega), ys[i]'(by rw [dpAll_len hd2]; omega), .inl (rd_mono s hr), .inl (rd_mono s hr2), List.getElem?_eq_getElem _, List.getElem?_eq_getElem _⟩
    · obtain ⟨T, x1, y1, rfl, hT, rfl, q1, q2⟩ := hy
      obtain ⟨dx, dy, hx, hy, rfl⟩ := zipD_get hdd
      obtain ⟨v1, hv1, dv1⟩ := dpAll_get hd hx
      obtain ⟨v2, hv2, dv2⟩ := dpAll_get hd2 hy
      have e1 := q1 xs (.inl (rd_mono (s1.trans s2) hr))
      have e2 := q2 ys (.inl (rd_mono (s1.trans s2) hr2))
      rw [hv1] at e1; rw [hv2] at e2
      cases e1; cases e2
      exact pair_new s2 hT (dv1.mono s1) (dv2.mono s1)
  · cases hz
end
end DL

namespace DL
open PySem
/-! ## lists of lists, run -/
def nstB : Option Sl → Bool
  | some (.nst _) => true
  | _ => false
theorem nstB_nst {rows : List (List D)} : nstB (some (.nst rows)) = true := rfl
theorem isNst_eq {e : Ev} {i : Nat} : isNst e i = nstB e[i]? := by
  unfold isNst nstB
  cases e[i]? with
  | none => rfl
  | some s => cases s <;> rfl
def nstP (o : Option Sl) (P : List (List D) → Prop) : Prop := match o with
  | some (.nst rows) => P rows
  | _ => False
theorem nstP_nst {rows : List (List D)} {P : List (List D) → Prop} : nstP (some (.nst rows)) P = P rows := rfl
theorem onlyN_s {s : Sl} {e : Ev} {i : Nat} : onlyN (s :: e) (i + 1) = (noN s && onlyN e i) := rfl
theorem onlyN_z {s : Sl} {e : Ev} : onlyN (s :: e) 0 = e.all noN := rfl
theorem noN_un : noN .un = true := rfl
theorem noN_dat {d : D} : noN (.dat d) = true := rfl
theorem noN_own {d : List D} : noN (.own d) = true := rfl
theorem noN_cel {d : List D} : noN (.cel d) = true := rfl
theorem noN_scr {d : List Int} : noN (.scr d) = true := rfl
theorem allN_cons {s : Sl} {e : Ev} : List.all (s :: e) noN = (noN s && List.all e noN) := rfl
theorem allN_nil : List.all ([] : Ev) noN = true := rfl
theorem ok_par2N {i j : Nat} {mb : M D} {e : Ev} {Q : Fl → Ev → Prop} : Ok (mPar2N i j mb e) Q = Ok (mb e) (fun y e1 => wrS e1[j]? = true ∧ wrS (e1.set j (.dat y))[i]? = true ∧ Q .nx ((e1.set j (.dat y)).set i (.nst []))) := by
  unfold mPar2N
  simp only [ok_bind, ok_lst, ok_nil, ok_store, okO_bind, putSl_eq, if_true]
  exact propext ⟨fun h => h.2, fun h => ⟨Nat.zero_le _, h⟩⟩
theorem ok_nIf {i : Nat} {α : Type} {m : M α} {e : Ev} {Q : α → Ev → Prop} : Ok ((if isNst e i = true then m e else .bad) : Res Ev (α × Ev)) Q = (nstB e[i]? = true ∧ Ok (m e) Q) := by
  rw [isNst_eq]
  by_cases h : nstB e[i]? = true
  · rw [if_pos h]; exact propext ⟨fun p => ⟨h, p⟩, fun p => p.2⟩
  · rw [if_neg h]; exact propext ⟨fun p => p.elim, fun p => absurd p.1 h⟩
theorem okO_app {i : Nat} {ds : List D} {e : Ev} {P : Ev → Prop} : okO (appN i ds e) P = nstP e[i]? fun rows => (onlyN e i = true ∧ rows.length < sizeLine) ∧ P (e.set i (.nst (rows ++ [ds]))) := by
  unfold appN
  cases e[i]? with
  | none => rfl
  | some s => cases s <;> first | rfl | exact okO_ite
theorem ok_nApp {i : Nat} {ml : M (List D)} {e : Ev} {Q : Fl → Ev → Prop} : Ok (mNApp i ml e) Q = (nstB e[i]? = true ∧ Ok (ml e) (fun ds e1 => ds.length ≤ sizeLine ∧ nstP e1[i]? fun rows => (onlyN e1 i = true ∧ rows.length < sizeLine) ∧ Q .nx (e1.set i (.nst (rows ++ [ds]))))) := by
  unfold mNApp
  rw [ok_nIf (m := mBind (mLst ml) fun ds => mStore (appN i ds))]
  simp only [ok_bind, ok_lst, ok_store, okO_app]
theorem ok_nAt {i : Nat} {k : Int} {x : D} {e : Ev} {Q : D → Ev → Prop} : Ok (nAt i k x e) Q = nstP e[i]? fun rows => okO (dInt x) fun p => okO (L2.atI rows p) fun ds => okO (L2.atI ds k) fun d => Q d e := by
  unfold nAt
  cases e[i]? with
  | none => rfl
  | some s =>
    cases s with
    | nst rows =>
      cases x with
      | int p =>
        show Ok (mOpt _ e) Q = okO (L2.atI rows p) _
        rw [ok_opt, okO_bind]
      | _ => rfl
    | _ => rfl
theorem ok_nIx {i : Nat} {k : Int} {mj : M D} {e : Ev} {Q : D → Ev → Prop} : Ok (mNIx i k mj e) Q = (nstB e[i]? = true ∧ Ok (mj e) (fun x e1 => nstP e1[i]? fun rows => okO (dInt x) fun p => okO (L2.atI rows p) fun ds => okO (L2.atI ds k) fun d => Q d e1)) := by
  unfold mNIx
  rw [ok_nIf (m := mBind mj (nAt i k))]
  simp only [ok_bind, ok_nAt]
theorem okO_setN {i : Nat} {k : Int} {d x : D} {e : Ev} {P : Ev → Prop} : okO (setN i k d x e) P = nstP e[i]? fun rows => okO (dInt x) fun p => onlyN e i = true ∧ okO (L2.ixN rows.length p) fun n => okO rows[n]? fun ds => okO (L2.ixN ds.length k) fun m => P (e.set i (.nst (rows.set n (ds.set m d)))) := by
  unfold setN
  cases e[i]? with
  | none => rfl
  | some s =>
    cases s with
    | nst rows =>
      cases x with
      | int p =>
        show okO (if onlyN e i = true then _ else none) P = (onlyN e i = true ∧ _)
        by_cases h : onlyN e i = true
        · rw [if_pos h, okO_bind]
          simp only [okO_bind, okO_map]
          exact propext ⟨fun p => ⟨h, p⟩, fun p => p.2⟩
        · rw [if_neg h]; exact propext ⟨fun p => p.elim, fun p => absurd p.1 h⟩
      | _ => rfl
    | _ => rfl
theorem ok_nSet {i : Nat} {k : Int} {ma mj : M D} {e : Ev} {Q : Fl → Ev → Prop} : Ok (mNSet i k ma mj e) Q = Ok (ma e) (fun d e1 => nstB e1[i]? = true ∧ Ok (mj e1) (fun x e2 => nstP e2[i]? fun rows => okO (dInt x) fun p => onlyN e2 i = true ∧ okO (L2.ixN rows.length p) fun n => okO rows[n]? fun ds => okO (L2.ixN ds.length k) fun m => Q .nx (e2.set i (.nst (rows.set n (ds.set m d)))))) := by
  unfold mNSet
  rw [ok_bind]
  congr 1; funext d e1
  rw [ok_nIf (m := mBind mj fun x => mStore (setN i k d x))]
  simp only [ok_bind, ok_store, okO_setN]
theorem ok_frzN {i : Nat} {m : MS} {e : Ev} {Q : Fl → Ev → Prop} : Ok (mFrzN i m e) Q = nstP e[i]? fun rows => onlyN e i = true ∧ Ok (m (e.set i (.dat (.list (rows.map .list))))) Q := by
  unfold mFrzN
  cases e[i]? with
  | none => rfl
  | some s =>
    cases s with
    | nst rows =>
      show Ok (if onlyN e i = true then m (e.set i (.dat (.list (rows.map .list)))) else .bad) Q = (onlyN e i = true ∧ _)
      by_cases h : onlyN e i = true
      · rw [if_pos h]; exact propext ⟨fun p => ⟨h, p⟩, fun p => p.2⟩
      · rw [if_neg h]; exact propext ⟨fun p => p.elim, fun p => absurd p.1 h⟩
    | _ => rfl
theorem v_rng3 {P : List D → Prop} {i j k : Int} : okO (dRange3 [.int i, .int j, .int k]) P = okO (dRange3 [.int i, .int j, .int k]) P := rfl
theorem shEarly : (SeqAt.shaped (.str "early") = true) = True := eq_true (by decide +kernel)
theorem shEnd : (SeqAt.shaped (.str "end") = true) = True := eq_true (by decide +kernel)
theorem shBegin : (SeqAt.shaped (.str "begin") = true) = True := eq_true (by decide +kernel)
theorem shLate : (SeqAt.shaped (.str "late") = true) = True := eq_true (by decide +kernel)
theorem neEE : (Str.ofString "early" = Str.ofString "end") = False := eq_false (by decide +kernel)
theorem neEE2 : (Str.ofString "end" = Str.ofString "early") = False := eq_false (by decide +kernel)
theorem neBL : (Str.ofString "begin" = Str.ofString "late") = False := eq_false (by decide +kernel)
theorem neBL2 : (Str.ofString "late" = Str.ofString "begin") = False := eq_false (by decide +kernel)
theorem if_neg_f {α : Sort _} {a b : α} : (if False then a else b) = b := if_neg fun h => h
theorem ok_zipM {m : M (List D)} {e : Ev} {Q : List D → Ev → Prop} : Ok (mZipM m e) Q = Ok (m e) (fun d e1 => okO (dZipM d) fun z => Q z e1) := by
  unfold mZipM; simp only [ok_bind, ok_opt]
theorem v_zipM {xs ys : List D} {P : List D → Prop} : okO (dZipM [.tuple xs, .list ys]) P = P (zipD xs ys) := rfl
theorem while_ok {k : Ev → Nat} {mt : M Bool} {mb : MS} {e : Ev} {Q : Fl → Ev → Prop} (P : Nat → Ev → Prop) (n : Nat) (hn : n < k e) (h0 : P n e)
    (hs : ∀ n e, P n e → Ok (mt e) fun c e1 => if c = true then Ok (mb e1) (fun fl e2 => match fl with
      | .nx => ∃ m, m < n ∧ P m e2
      | .ct => ∃ m, m < n ∧ P m e2
      | .bk => Q .nx e2
      | fl => Q fl e2) else Q .nx e1) : Ok (mWhile k mt mb e) Q := by
  unfold mWhile
  generalize k e = f at hn
  induction f generalizing n e with
  | zero => omega
  | succ f ih =>
    have q := hs n e h0
    unfold whileF
    cases hm : mt e with
    | bad => rw [hm] at q; exact q.elim
    | exc _ _ => rw [hm] at q; exact q.elim
    | ok p =>
      obtain ⟨c, e1⟩ := p
      rw [hm, ok_ok] at q
      cases c with
      | false => rw [if_neg Bool.false_ne_true] at q; exact q
      | true =>
        rw [if_pos rfl] at q
        simp only
        cases hb : mb e1 with
        | bad => rw [hb] at q; exact q.elim
        | exc _ _ => rw [hb] at q; exact q.elim
        | ok p =>
          obtain ⟨fl, e2⟩ := p
          rw [hb, ok_ok] at q
          cases fl with
          | nx => obtain ⟨m, hm, hp⟩ := q; exact ih m hp (by omega)
          | ct => obtain ⟨m, hm, hp⟩ := q; exact ih m hp (by omega)
          | bk => exact q
          | rt d => exact q
          | ro d => exact q
end DL

namespace Lw
open PySem DL
def m__law_well : MS := (mSeq (mSet 2 (mPure (.int 0)))
    (mSeq (mIf (mCmp dLt (mVar 1) (mLenO 0)) (mSet 2 (mIxO 0 (mVar 1))) mNx)
    (mSeq (mSet 3 (mFz (mLst (mCons (mPure (.int 2147483647)) (mCons (mPure (.int 2147483629)) (mCons (mPure (.int 2147483587)) (mCons (mPure (.int 2147483579)) (mCons (mPure (.int 2147483563)) (mCons (mPure (.int 2147483549)) (mCons (mPure (.int 2147483543)) (mCons (mPure (.int 2147483497)) mNil)))))))))))
    (mSeq (mSet 4 (mOp dMod (mOp dMulI (mOp dAdd (mOp dMod (mVar 2) (mPure (.int 2147483489))) (mPure (.int 1))) (mOp dAdd (mPure (.int 48271)) (mOp dMulI (mPure (.int 2)) (mVar 1)))) (mPure (.int 2147483489))))
    (mSeq (mSet 4 (mOp dAdd (mOp dAdd (mOp dMod (mOp dMulI (mVar 4) (mVar 4)) (mPure (.int 2147483477))) (mVar 1)) (mPure (.int 1))))
    (mSeq (mIf (mCmp dGe (mVar 2) (mOp dPow (mPure (.int 10)) (mPure (.int 18)))) (mRetO (mLst (mCons (mVar 2) (mCons (mVar 4) (mCons (mOp dIx (mVar 3) (mOp dMod (mVar 1) (mPure (.int 8)))) mNil))))) mNx)
    (mRetO (mLst (mCons (mPure (.int 0)) (mCons (mVar 4) (mCons (mOp dIx (mVar 3) (mOp dMod (mVar 1) (mPure (.int 8)))) mNil)))))))))))
def f__law_well := runS 5 m__law_well
def m__law_take : MS := (mSeq (mIf (mCmp dGt (mIxO 0 (mPure (.int 0))) (mPure (.int 0))) (mSeq (mSet 2 (mOp dMod (mIxO 0 (mPure (.int 0))) (mVar 1)))
    (mSeq (mSetIx 0 (mOp dDiv (mIxO 0 (mPure (.int 0))) (mVar 1)) (mPure (.int 0)))
    (mRet (mVar 2)))) mNx)
    (mSeq (mSetIx 0 (mOp dAdd (mOp dMod (mOp dMulI (mIxO 0 (mPure (.int 1))) (mPure (.int 48271))) (mIxO 0 (mPure (.int 2)))) (mPure (.int 1))) (mPure (.int 1)))
    (mRet (mOp dMod (mOp dDiv (mOp dMod (mOp dMulI (mIxO 0 (mPure (.int 1))) (mIxO 0 (mPure (.int 1)))) (mPure (.int 2147483423))) (mPure (.int 7))) (mVar 1)))))
def f__law_take := runC 3 m__law_take
def m__law_evening : MS := (mSeq (mPar2 5 6 (mOwn (mLst mNil)) (mDat (mFC 0 f__law_take (mCons (mPure (.int 30)) mNil))))
    (mSeq (mSet 3 (mFC 0 f__law_take (mCons (mPure (.int 3)) mNil)))
    (mSeq (mFor (mItems (mSl (mFz (mLst (mCons (mPure (.str "al")) (mCons (mPure (.str "bo")) (mCons (mPure (.str "cy")) (mCons (mPure (.str "di")) (mCons (mPure (.str "ed")) (mCons (mPure (.str "fay")) (mCons (mPure (.str "gus")) (mCons (mPure (.str "hal")) mNil)))))))))) mNoP (mPart (mOp dAdd (mPure (.int 1)) (mFC 0 f__law_take (mCons (mVar 1) mNil)))))) (gN 4) (mSeq (mSet 7 (mOp dAdd (mVar 6) (mFC 0 f__law_take (mCons (mOp dIx (mFz (mLst (mCons (mPure (.int 2)) (mCons (mPure (.int 5)) (mCons (mPure (.int 9)) mNil))))) (mFC 0 f__law_take (mCons (mPure (.int 3)) mNil))) mNil))))
    (mSeq (mSet 8 (mOp dAdd (mOp dAdd (mVar 7) (mPure (.int 1))) (mFC 0 f__law_take (mCons (mOp dIx (mFz (mLst (mCons (mPure (.int 2)) (mCons (mPure (.int 6)) (mCons (mPure (.int 12)) mNil))))) (mFC 0 f__law_take (mCons (mPure (.int 3)) mNil))) mNil))))
    (mSeq (mSet 9 (mOp dAdd (mOp dSub (mVar 8) (mVar 7)) (mFC 0 f__law_take (mCons (mOp dIx (mFz (mLst (mCons (mPure (.int 4)) (mCons (mPure (.int 9)) (mCons (mPure (.int 16)) mNil))))) (mVar 3)) mNil))))
    (mSeq (mSet 10 (mFC 0 f__law_take (mCons (mOp dIx (mFz (mLst (mCons (mPure (.int 1)) (mCons (mPure (.int 3)) (mCons (mPure (.int 7)) mNil))))) (mFC 0 f__law_take (mCons (mPure (.int 3)) mNil))) mNil)))
    (mSeq (mMeth 5 dAppend (mCons (mTup (mCons (mVar 4) (mCons (mVar 7) (mCons (mVar 8) (mCons (mVar 9) (mCons (mFC 0 f__law_take (mCons (mOp dAdd (mVar 2) (mPure (.int 1))) mNil)) (mCons (mFC 0 f__law_take (mCons (mOp dAdd (mVar 2) (mPure (.int 1))) mNil)) (mCons (mVar 10) mNil)))))))) mNil))
    (mSet 6 (mOp dAdd (mVar 8) (mVar 10)))))))))
    (mRet (mCall dTupC (mCons (mFz (mMove 5)) mNil))))))
def f__law_evening := runC 11 m__law_evening
def m__law_is_int : MS := (mRet (mAndV (mB (mIsi "int" (mVar 0))) (mAndV (mNotV (mB (mIsi "bool" (mVar 0)))) (mAndV (mB (mCmp dLe (mVar 1) (mVar 0))) (mB (mCmp dLe (mVar 0) (mVar 2)))))))
def f__law_is_int := runF 3 m__law_is_int
def m__law_is_name : MS := (mSeq (mIf (mOr (mNot (mIsi "str" (mVar 0))) (mNot (mChain dLe dLe (mPure (.int 1)) (mCall dLen (mCons (mVar 0) mNil)) (mPure (.int 8))))) (mRet (mPure (.bool false))) mNx)
    (mRet (mB (mCmp dEq (mFz (mComp (mSigns (mVar 0)) [1] (gN 1) (mCmp dNotInA (mVar 1) (mPure (.str "abcdefghijklmnopqrstuvwxyz"))) (mVar 1))) (mFz (mLst mNil))))))
def f__law_is_name := runF 2 m__law_is_name
def m__law_is_act : MS := (mSeq (mIf (mOr (mNot (mIsi "tuple" (mVar 0))) (mOr (mCmp dNe (mCall dLen (mCons (mVar 0) mNil)) (mPure (.int 7))) (mNot (mTru (mF f__law_is_name (mCons (mOp dIx (mVar 0) (mPure (.int 0))) mNil)))))) (mRet (mPure (.bool false))) mNx)
    (mSeq (mIf (mOr (mNot (mTru (mF f__law_is_int (mCons (mOp dIx (mVar 0) (mPure (.int 1))) (mCons (mPure (.int 0)) (mCons (mPure (.int 300)) mNil)))))) (mNot (mTru (mF f__law_is_int (mCons (mOp dIx (mVar 0) (mPure (.int 2))) (mCons (mOp dAdd (mOp dIx (mVar 0) (mPure (.int 1))) (mPure (.int 1))) (mCons (mPure (.int 300)) mNil))))))) (mRet (mPure (.bool false))) mNx)
    (mSeq (mIf (mOr (mNot (mTru (mF f__law_is_int (mCons (mOp dIx (mVar 0) (mPure (.int 3))) (mCons (mOp dSub (mOp dIx (mVar 0) (mPure (.int 2))) (mOp dIx (mVar 0) (mPure (.int 1)))) (mCons (mPure (.int 200)) mNil)))))) (mNot (mTru (mF f__law_is_int (mCons (mOp dIx (mVar 0) (mPure (.int 4))) (mCons (mPure (.int 0)) (mCons (mPure (.int 12)) mNil))))))) (mRet (mPure (.bool false))) mNx)
    (mRet (mAndV (mF f__law_is_int (mCons (mOp dIx (mVar 0) (mPure (.int 5))) (mCons (mPure (.int 0)) (mCons (mPure (.int 12)) mNil)))) (mF f__law_is_int (mCons (mOp dIx (mVar 0) (mPure (.int 6))) (mCons (mPure (.int 0)) (mCons (mPure (.int 20)) mNil)))))))))
def f__law_is_act := runF 1 m__law_is_act
def m__law_is_evening : MS := (mSeq (mIf (mOr (mNot (mIsi "tuple" (mVar 0))) (mOr (mNot (mChain dLe dLe (mPure (.int 1)) (mCall dLen (mCons (mVar 0) mNil)) (mPure (.int 8)))) (mCmp dNe (mFz (mComp (mItems (mVar 0)) [3] (gN 3) (mNot (mTru (mF f__law_is_act (mCons (mVar 3) mNil)))) (mVar 3))) (mFz (mLst mNil))))) (mRet (mPure (.bool false))) mNx)
    (mSeq (mIf (mCmp dNe (mLenSet (mFz (mComp (mItems (mVar 0)) [3] (gN 3) (mPure true) (mOp dIx (mVar 3) (mPure (.int 0)))))) (mCall dLen (mCons (mVar 0) mNil))) (mRet (mPure (.bool false))) mNx)
    (mRet (mB (mCmp dEq (mFz (mComp (mZip (mCons (mVar 0) (mCons (mSl (mVar 0) (mPart (mPure (.int 1))) mNoP) mNil))) [1, 2] (gTp (gCons' (gN 1) (gCons' (gN 2) gNil'))) (mCmp dLt (mOp dIx (mVar 2) (mPure (.int 1))) (mOp dAdd (mOp dIx (mVar 1) (mPure (.int 2))) (mOp dIx (mVar 1) (mPure (.int 6))))) (mPure (.int 1)))) (mFz (mLst mNil)))))))
def f__law_is_evening := runF 4 m__law_is_evening
def m__law_says : MS := (mRet (mAndV (mB (mIsi "bool" (mVar 0))) (mB (mCmp dEq (mVar 0) (mVar 1)))))
def f__law_says := runF 2 m__law_says
def m_follow : MS := (mRet (mCall dAll (mCons (mFz (mComp (mZip (mCons (mVar 0) (mCons (mSl (mVar 0) (mPart (mPure (.int 1))) mNoP) mNil))) [1, 2] (gTp (gCons' (gN 1) (gCons' (gN 2) gNil'))) (mPure true) (mB (mCmp dLe (mOp dAdd (mOp dIx (mVar 1) (mPure (.int 2))) (mOp dIx (mVar 1) (mPure (.int 6)))) (mOp dIx (mVar 2) (mPure (.int 1))))))) mNil)))
def f_follow := runF 3 m_follow
def m_is_whole : MS := (mRet (mAndV (mB (mIsi "int" (mVar 0))) (mAndV (mNotV (mB (mIsi "bool" (mVar 0)))) (mB (mChain dLe dLe (mVar 1) (mVar 0) (mVar 2))))))
def f_is_whole := runF 3 m_is_whole
def m_is_name : MS := (mRet (mAndV (mB (mIsi "str" (mVar 0))) (mAndV (mB (mChain dLe dLe (mPure (.int 1)) (mCall dLen (mCons (mVar 0) mNil)) (mPure (.int 8)))) (mCall dAll (mCons (mFz (mComp (mSigns (mVar 0)) [1] (gN 1) (mPure true) (mB (mCmp dInA (mVar 1) (mPure (.str "abcdefghijklmnopqrstuvwxyz")))))) mNil)))))
def f_is_name := runF 2 m_is_name
def m_is_act : MS := (mSeq (mIf (mOr (mNot (mIsi "tuple" (mVar 0))) (mOr (mCmp dNe (mCall dLen (mCons (mVar 0) mNil)) (mPure (.int 7))) (mNot (mTru (mF f_is_name (mCons (mOp dIx (mVar 0) (mPure (.int 0))) mNil)))))) (mRet (mPure (.bool false))) mNx)
    (mSeq (mIf (mOr (mNot (mTru (mF f_is_whole (mCons (mOp dIx (mVar 0) (mPure (.int 1))) (mCons (mPure (.int 0)) (mCons (mPure (.int 300)) mNil)))))) (mNot (mTru (mF f_is_whole (mCons (mOp dIx (mVar 0) (mPure (.int 2))) (mCons (mOp dAdd (mOp dIx (mVar 0) (mPure (.int 1))) (mPure (.int 1))) (mCons (mPure (.int 300)) mNil))))))) (mRet (mPure (.bool false))) mNx)
    (mSeq (mIf (mOr (mNot (mTru (mF f_is_whole (mCons (mOp dIx (mVar 0) (mPure (.int 3))) (mCons (mOp dSub (mOp dIx (mVar 0) (mPure (.int 2))) (mOp dIx (mVar 0) (mPure (.int 1)))) (mCons (mPure (.int 200)) mNil)))))) (mNot (mTru (mF f_is_whole (mCons (mOp dIx (mVar 0) (mPure (.int 6))) (mCons (mPure (.int 0)) (mCons (mPure (.int 20)) mNil))))))) (mRet (mPure (.bool false))) mNx)
    (mRet (mAndV (mF f_is_whole (mCons (mOp dIx (mVar 0) (mPure (.int 4))) (mCons (mPure (.int 0)) (mCons (mPure (.int 12)) mNil)))) (mF f_is_whole (mCons (mOp dIx (mVar 0) (mPure (.int 5))) (mCons (mPure (.int 0)) (mCons (mPure (.int 12)) mNil)))))))))
def f_is_act := runF 1 m_is_act
def m_is_evening : MS := (mSeq (mIf (mOr (mNot (mIsi "tuple" (mVar 0))) (mOr (mNot (mChain dLe dLe (mPure (.int 1)) (mCall dLen (mCons (mVar 0) mNil)) (mPure (.int 8)))) (mNot (mTru (mCall dAll (mCons (mFz (mComp (mItems (mVar 0)) [2] (gN 2) (mPure true) (mF f_is_act (mCons (mVar 2) mNil)))) mNil)))))) (mRet (mPure (.bool false))) mNx)
    (mSeq (mSetO 1 (mComp (mItems (mVar 0)) [2] (gN 2) (mPure true) (mOp dIx (mVar 2) (mPure (.int 0)))))
    (mFrz 1 (mRet (mAndV (mB (mCmp dEq (mLenSet (mVar 1)) (mCall dLen (mCons (mVar 1) mNil)))) (mF f_follow (mCons (mVar 0) mNil)))))))
def f_is_evening := runF 3 m_is_evening
def m_need_evening : MS := (mIf (mNot (mTru (mF f_is_evening (mCons (mVar 0) mNil)))) (mRaise "NoEvening") mNx)
def f_need_evening := runF 1 m_need_evening
def m_need_number : MS := (mIf (mNot (mTru (mVar 0))) (mRaise "NoNumber") mNx)
def f_need_number := runF 1 m_need_number
def m_need_round : MS := (mSeq (mDrop (mF f_need_evening (mCons (mVar 0) mNil)))
    (mDrop (mF f_need_number (mCons (mF f_is_whole (mCons (mVar 1) (mCons (mOp dSub (mOp dAdd (mOp dIx (mOp dIx (mVar 0) (mUn dNeg (mPure (.int 1)))) (mPure (.int 2))) (mOp dIx (mOp dIx (mVar 0) (mUn dNeg (mPure (.int 1)))) (mPure (.int 6)))) (mOp dIx (mOp dIx (mVar 0) (mPure (.int 0))) (mPure (.int 1)))) (mCons (mPure (.int 1000)) mNil)))) mNil))))
def f_need_round := runF 2 m_need_round
def m_lesser : MS := (mSeq (mIf (mOr (mCmp dIsNone (mVar 0) (mPure .none)) (mCmp dIsNone (mVar 1) (mPure .none))) (mRet (mIfE (mCmp dIsNone (mVar 0) (mPure .none)) (mVar 1) (mVar 0))) mNx)
    (mRet (mCall dMin2 (mCons (mVar 0) (mCons (mVar 1) mNil)))))
def f_lesser := runF 2 m_lesser
def m_added : MS := (mRet (mIfE (mOr (mCmp dIsNone (mVar 0) (mPure .none)) (mCmp dIsNone (mVar 1) (mPure .none))) (mPure .none) (mOp dAdd (mVar 0) (mVar 1))))
def f_added := runF 2 m_added
def m_led : MS := (mSeq (mSetO 2 (mLst mNil))
    (mSeq (mFor (mRange1 (mCons (mCall dLen (mCons (mVar 1) mNil)) mNil)) (gN 3) (mSeq (mSet 4 (mPure .none))
    (mSeq (mFor (mEnum (mCons (mVar 0) mNil)) (gTp (gCons' (gN 5) (gCons' (gN 6) gNil'))) (mSet 4 (mF f_lesser (mCons (mVar 4) (mCons (mF f_added (mCons (mVar 6) (mCons (mOp dIx (mOp dIx (mVar 1) (mVar 5)) (mVar 3)) mNil))) mNil)))))
    (mMeth 2 dAppend (mCons (mVar 4) mNil)))))
    (mRet (mFz (mMove 2)))))
def f_led := runF 7 m_led
def m_is_any : MS := (mRet (mAndV (mB (mIsi "int" (mVar 0))) (mNotV (mB (mIsi "bool" (mVar 0))))))
def f_is_any := runF 1 m_is_any
def m__law_some_standing : MS := (mSeq (mPar2N 5 6 (mUn dNeg (mOp dPow (mPure (.int 10)) (mPure (.int 9)))))
    (mSeq (mFor (mItems (mVar 1)) (gN 2) (mSeq (mSet 7 (mCall dMax2 (mCons (mOp dSub (mOp dIx (mVar 2) (mPure (.int 1))) (mOp dIx (mVar 2) (mPure (.int 4)))) (mCons (mVar 6) mNil))))
    (mSeq (mSet 7 (mOp dAdd (mVar 7) (mOp dMulI (mFC 0 f__law_take (mCons (mOp dAdd (mOp dSub (mOp dIx (mVar 2) (mPure (.int 1))) (mVar 7)) (mPure (.int 1))) mNil)) (mCall dIntC (mCons (mB (mCmp dEq (mFC 0 f__law_take (mCons (mPure (.int 2)) mNil)) (mPure (.int 0)))) mNil)))))
    (mSeq (mNApp 5 (mCons (mVar 7) (mCons (mOp dAdd (mOp dIx (mVar 2) (mPure (.int 2))) (mOp dIx (mVar 2) (mPure (.int 5)))) mNil)))
    (mSet 6 (mOp dAdd (mOp dIx (mVar 2) (mPure (.int 2))) (mOp dIx (mVar 2) (mPure (.int 6)))))))))
    (mSeq (mSet 3 (mOp dPow (mPure (.int 10)) (mPure (.int 9))))
    (mSeq (mFor (mRange3 (mCons (mOp dSub (mCall dLen (mCons (mVar 1) mNil)) (mPure (.int 1))) (mCons (mUn dNeg (mPure (.int 1))) (mCons (mUn dNeg (mPure (.int 1))) mNil)))) (gN 4) (mSeq (mSet 2 (mOp dIx (mVar 1) (mVar 4)))
    (mSeq (mSet 8 (mCall dMin2 (mCons (mOp dAdd (mOp dIx (mVar 2) (mPure (.int 2))) (mOp dIx (mVar 2) (mPure (.int 5)))) (mCons (mOp dSub (mVar 3) (mOp dIx (mVar 2) (mPure (.int 6)))) mNil))))
    (mSeq (mSet 8 (mOp dSub (mVar 8) (mOp dMulI (mFC 0 f__law_take (mCons (mOp dAdd (mOp dSub (mVar 8) (mOp dIx (mVar 2) (mPure (.int 2)))) (mPure (.int 1))) mNil)) (mCall dIntC (mCons (mB (mCmp dEq (mFC 0 f__law_take (mCons (mPure (.int 2)) mNil)) (mPure (.int 0)))) mNil)))))
    (mSeq (mNSet 5 1 (mVar 8) (mVar 4))
    (mSet 3 (mNIx 5 0 (mVar 4))))))))
    (mFrzN 5 (mRet (mCall dTupC (mCons (mFz (mComp (mItems (mVar 5)) [9] (gN 9) (mPure true) (mCall dTupC (mCons (mVar 9) mNil)))) mNil))))))))
def f__law_some_standing := runC 10 m__law_some_standing
def m_stands : MS := (mSeq (mIf (mOr (mNot (mIsi "tuple" (mVar 1))) (mCmp dNe (mCall dLen (mCons (mVar 1) mNil)) (mCall dLen (mCons (mVar 0) mNil)))) (mRet (mPure (.bool false))) mNx)
    (mSeq (mFor (mZip (mCons (mVar 0) (mCons (mVar 1) mNil))) (gTp (gCons' (gTp (gCons' (gN 4) (gCons' (gN 5) (gCons' (gN 6) (gCons' (gN 7) (gCons' (gN 8) (gCons' (gN 9) (gCons' (gN 10) gNil')))))))) (gCons' (gN 3) gNil'))) (mSeq (mIf (mOr (mNot (mIsi "tuple" (mVar 3))) (mOr (mCmp dNe (mCall dLen (mCons (mVar 3) mNil)) (mPure (.int 2))) (mNot (mTru (mF f_is_whole (mCons (mOp dIx (mVar 3) (mPure (.int 0))) (mCons (mOp dSub (mVar 5) (mVar 8)) (mCons (mVar 5) mNil)))))))) (mRet (mPure (.bool false))) mNx)
    (mIf (mNot (mTru (mF f_is_whole (mCons (mOp dIx (mVar 3) (mPure (.int 1))) (mCons (mVar 6) (mCons (mOp dAdd (mVar 6) (mVar 9)) mNil)))))) (mRet (mPure (.bool false))) mNx)))
    (mSeq (mSet 2 (mFz (mListZip (mCons (mVar 0) (mCons (mVar 1) mNil)))))
    (mRet (mCall dAll (mCons (mFz (mComp (mZip (mCons (mVar 2) (mCons (mSl (mVar 2) (mPart (mPure (.int 1))) mNoP) mNil))) [11, 12] (gTp (gCons' (gN 11) (gCons' (gN 12) gNil'))) (mPure true) (mB (mCmp dLe (mOp dAdd (mOp dIx (mOp dIx (mVar 11) (mPure (.int 1))) (mPure (.int 1))) (mOp dIx (mOp dIx (mVar 11) (mPure (.int 0))) (mPure (.int 6)))) (mOp dIx (mOp dIx (mVar 12) (mPure (.int 1))) (mPure (.int 0))))))) mNil))))))
def f_stands := runF 13 m_stands
def m_forgoes : MS := (mSeq (mDrop (mF f_need_evening (mCons (mVar 0) mNil)))
    (mSeq (mIf (mNot (mTru (mF f_stands (mCons (mVar 0) (mCons (mVar 1) mNil))))) (mRaise "NoStanding") mNx)
    (mRet (mFz (mComp (mZip (mCons (mVar 0) (mCons (mVar 1) mNil))) [2, 3, 4] (gTp (gCons' (gN 2) (gCons' (gTp (gCons' (gN 3) (gCons' (gN 4) gNil'))) gNil'))) (mPure true) (mCall dMax2 (mCons (mPure (.int 0)) (mCons (mOp dSub (mOp dIx (mVar 2) (mPure (.int 3))) (mOp dSub (mVar 4) (mVar 3))) mNil))))))))
def f_forgoes := runF 5 m_forgoes
def m__law_are_standing : MS := (mSeq (mIf (mOr (mNot (mIsi "tuple" (mVar 1))) (mCmp dNe (mCall dLen (mCons (mVar 1) mNil)) (mCall dLen (mCons (mVar 0) mNil)))) (mRet (mPure (.bool false))) mNx)
    (mSeq (mSet 2 (mUn dNeg (mOp dPow (mPure (.int 10)) (mPure (.int 9)))))
    (mSeq (mFor (mZip (mCons (mVar 0) (mCons (mVar 1) mNil))) (gTp (gCons' (gN 3) (gCons' (gN 4) gNil'))) (mSeq (mIf (mOr (mNot (mIsi "tuple" (mVar 4))) (mCmp dNe (mCall dLen (mCons (mVar 4) mNil)) (mPure (.int 2)))) (mRet (mPure (.bool false))) mNx)
    (mSeq (mIf (mOr (mNot (mTru (mF f__law_is_int (mCons (mOp dIx (mVar 4) (mPure (.int 0))) (mCons (mOp dSub (mOp dIx (mVar 3) (mPure (.int 1))) (mOp dIx (mVar 3) (mPure (.int 4)))) (mCons (mOp dIx (mVar 3) (mPure (.int 1))) mNil)))))) (mNot (mTru (mF f__law_is_int (mCons (mOp dIx (mVar 4) (mPure (.int 1))) (mCons (mOp dIx (mVar 3) (mPure (.int 2))) (mCons (mOp dAdd (mOp dIx (mVar 3) (mPure (.int 2))) (mOp dIx (mVar 3) (mPure (.int 5)))) mNil))))))) (mRet (mPure (.bool false))) mNx)
    (mSeq (mIf (mCmp dLt (mOp dIx (mVar 4) (mPure (.int 0))) (mVar 2)) (mRet (mPure (.bool false))) mNx)
    (mSet 2 (mOp dAdd (mOp dIx (mVar 4) (mPure (.int 1))) (mOp dIx (mVar 3) (mPure (.int 6)))))))))
    (mRet (mPure (.bool true))))))
def f__law_are_standing := runF 5 m__law_are_standing
def m__law_forgone : MS := (mRet (mFz (mComp (mZip (mCons (mVar 0) (mCons (mVar 1) mNil))) [2, 3] (gTp (gCons' (gN 2) (gCons' (gN 3) gNil'))) (mPure true) (mCall dMax2 (mCons (mPure (.int 0)) (mCons (mOp dSub (mOp dIx (mVar 2) (mPure (.int 3))) (mOp dSub (mOp dIx (mVar 3) (mPure (.int 1))) (mOp dIx (mVar 3) (mPure (.int 0))))) mNil))))))
def f__law_forgone := runF 4 m__law_forgone
def m_is_standing : MS := (mSeq (mDrop (mF f_need_evening (mCons (mVar 0) mNil)))
    (mRet (mF f_stands (mCons (mVar 0) (mCons (mVar 1) mNil)))))
def f_is_standing := runF 2 m_is_standing
def m__law_all_runs : MS := (mSeq (mSetO 1 (mLst mNil))
    (mSeq (mFor (mRange1 (mCons (mVar 0) mNil)) (gN 2) (mFor (mItems (mFz (mLst (mCons (mPure (.str "early")) (mCons (mPure (.str "end")) mNil))))) (gN 3) (mFor (mRange2 (mCons (mVar 2) (mCons (mVar 0) mNil))) (gN 4) (mFor (mItems (mFz (mLst (mCons (mPure (.str "begin")) (mCons (mPure (.str "late")) mNil))))) (gN 5) (mIf (mCmp dLt (mOp dAdd (mVar 2) (mCall dIntC (mCons (mB (mCmp dEq (mVar 3) (mPure (.str "end")))) mNil))) (mOp dAdd (mVar 4) (mCall dIntC (mCons (mB (mCmp dEq (mVar 5) (mPure (.str "late")))) mNil)))) (mMeth 1 dAppend (mCons (mTup (mCons (mVar 2) (mCons (mVar 3) (mCons (mVar 4) (mCons (mVar 5) mNil))))) mNil)) mNx)))))
    (mRet (mFz (mMove 1)))))
def f__law_all_runs := runF 6 m__law_all_runs
def m__law_acts : MS := (mRet (mFz (mListRg (mOp dAdd (mOp dIx (mVar 0) (mPure (.int 0))) (mCall dIntC (mCons (mB (mCmp dEq (mOp dIx (mVar 0) (mPure (.int 1))) (mPure (.str "end")))) mNil))) (mOp dAdd (mOp dIx (mVar 0) (mPure (.int 2))) (mCall dIntC (mCons (mB (mCmp dEq (mOp dIx (mVar 0) (mPure (.int 3))) (mPure (.str "late")))) mNil))))))
def f__law_acts := runF 1 m__law_acts
def m__law_lack : MS := (mSeq (mPar2 4 5 (mDat (mOp dIx (mVar 0) (mOp dIx (mVar 1) (mPure (.int 0))))) (mDat (mOp dIx (mVar 0) (mOp dIx (mVar 1) (mPure (.int 2))))))
    (mSeq (mSet 2 (mOp dSub (mIfE (mCmp dEq (mOp dIx (mVar 1) (mPure (.int 3))) (mPure (.str "late"))) (mOp dAdd (mOp dIx (mVar 5) (mPure (.int 2))) (mOp dIx (mVar 5) (mPure (.int 5)))) (mOp dIx (mVar 5) (mPure (.int 1)))) (mIfE (mCmp dEq (mOp dIx (mVar 1) (mPure (.int 1))) (mPure (.str "early"))) (mOp dSub (mOp dIx (mVar 4) (mPure (.int 1))) (mOp dIx (mVar 4) (mPure (.int 4)))) (mOp dIx (mVar 4) (mPure (.int 2))))))
    (mSeq (mFor (mRange2 (mCons (mOp dIx (mVar 1) (mPure (.int 0))) (mCons (mOp dIx (mVar 1) (mPure (.int 2))) mNil))) (gN 3) (mSet 2 (mOp dSub (mVar 2) (mOp dIx (mOp dIx (mVar 0) (mVar 3)) (mPure (.int 6))))))
    (mRet (mOp dSub (mCall dSum (mCons (mFz (mComp (mItems (mF f__law_acts (mCons (mVar 1) mNil))) [3] (gN 3) (mPure true) (mOp dIx (mOp dIx (mVar 0) (mVar 3)) (mPure (.int 3))))) mNil)) (mVar 2))))))
def f__law_lack := runF 6 m__law_lack
def m_acts_of : MS := (mSeq (mAsg (gTp (gCons' (gN 1) (gCons' (gN 2) (gCons' (gN 3) (gCons' (gN 4) gNil'))))) (mVar 0))
    (mRet (mTup (mCons (mOp dAdd (mVar 1) (mB (mCmp dEq (mVar 2) (mPure (.str "end"))))) (mCons (mOp dAdd (mVar 3) (mB (mCmp dEq (mVar 4) (mPure (.str "late"))))) mNil)))))
def f_acts_of := runF 5 m_acts_of
def m_all_runs : MS := (mSeq (mSetO 1 (mLst mNil))
    (mSeq (mFor (mRange1 (mCons (mVar 0) mNil)) (gN 2) (mFor (mItems (mTup (mCons (mPure (.str "early")) (mCons (mPure (.str "end")) mNil)))) (gN 3) (mFor (mRange2 (mCons (mVar 2) (mCons (mVar 0) mNil))) (gN 4) (mFor (mItems (mTup (mCons (mPure (.str "begin")) (mCons (mPure (.str "late")) mNil)))) (gN 5) (mSeq (mSet 6 (mTup (mCons (mVar 2) (mCons (mVar 3) (mCons (mVar 4) (mCons (mVar 5) mNil))))))
    (mIf (mCmp dLt (mOp dIx (mF f_acts_of (mCons (mVar 6) mNil)) (mPure (.int 0))) (mOp dIx (mF f_acts_of (mCons (mVar 6) mNil)) (mPure (.int 1)))) (mMeth 1 dAppend (mCons (mVar 6) mNil)) mNx))))))
    (mRet (mFz (mMove 1)))))
def f_all_runs := runF 7 m_all_runs
def m_is_run : MS := (mSeq (mIf (mOr (mNot (mIsi "tuple" (mVar 1))) (mOr (mCmp dNe (mCall dLen (mCons (mVar 1) mNil)) (mPure (.int 4))) (mNot (mTru (mF f_is_whole (mCons (mOp dIx (mVar 1) (mPure (.int 0))) (mCons (mPure (.int 0)) (mCons (mOp dSub (mCall dLen (mCons (mVar 0) mNil)) (mPure (.int 1))) mNil)))))))) (mRet (mPure (.bool false))) mNx)
    (mSeq (mIf (mOr (mNot (mTru (mF f_is_whole (mCons (mOp dIx (mVar 1) (mPure (.int 2))) (mCons (mPure (.int 0)) (mCons (mOp dSub (mCall dLen (mCons (mVar 0) mNil)) (mPure (.int 1))) mNil)))))) (mNot (mTru (mCall dAll (mCons (mFz (mComp (mItems (mTup (mCons (mPure (.int 1)) (mCons (mPure (.int 3)) mNil)))) [2] (gN 2) (mPure true) (mB (mIsi "str" (mOp dIx (mVar 1) (mVar 2)))))) mNil))))) (mRet (mPure (.bool false))) mNx)
    (mRet (mB (mCmp dInA (mVar 1) (mF f_all_runs (mCons (mCall dLen (mCons (mVar 0) mNil)) mNil)))))))
def f_is_run := runF 3 m_is_run
def m_lack_of : MS := (mSeq (mAsg (gTp (gCons' (gN 5) (gCons' (gN 6) (gCons' (gN 7) (gCons' (gN 8) gNil'))))) (mVar 1))
    (mSeq (mSet 2 (mIfE (mCmp dEq (mVar 6) (mPure (.str "early"))) (mOp dSub (mOp dIx (mOp dIx (mVar 0) (mVar 5)) (mPure (.int 1))) (mOp dIx (mOp dIx (mVar 0) (mVar 5)) (mPure (.int 4)))) (mOp dIx (mOp dIx (mVar 0) (mVar 5)) (mPure (.int 2)))))
    (mSeq (mSet 3 (mIfE (mCmp dEq (mVar 8) (mPure (.str "late"))) (mOp dAdd (mOp dIx (mOp dIx (mVar 0) (mVar 7)) (mPure (.int 2))) (mOp dIx (mOp dIx (mVar 0) (mVar 7)) (mPure (.int 5)))) (mOp dIx (mOp dIx (mVar 0) (mVar 7)) (mPure (.int 1)))))
    (mSeq (mAsg (gTp (gCons' (gN 9) (gCons' (gN 10) gNil'))) (mF f_acts_of (mCons (mVar 1) mNil)))
    (mSeq (mSet 4 (mCall dSum (mCons (mFz (mComp (mItems (mSl (mVar 0) (mPart (mVar 9)) (mPart (mVar 10)))) [11] (gN 11) (mPure true) (mOp dIx (mVar 11) (mPure (.int 3))))) mNil)))
    (mRet (mOp dSub (mOp dAdd (mVar 4) (mCall dSum (mCons (mFz (mComp (mItems (mSl (mVar 0) (mPart (mVar 5)) (mPart (mVar 7)))) [11] (gN 11) (mPure true) (mOp dIx (mVar 11) (mPure (.int 6))))) mNil))) (mOp dSub (mVar 3) (mVar 2)))))))))
def f_lack_of := runF 12 m_lack_of
def m_lacks : MS := (mSeq (mDrop (mF f_need_evening (mCons (mVar 0) mNil)))
    (mRet (mIfE (mTru (mF f_is_run (mCons (mVar 0) (mCons (mVar 1) mNil)))) (mF f_lack_of (mCons (mVar 0) (mCons (mVar 1) mNil))) (mPure .none))))
def f_lacks := runF 2 m_lacks
def m_worst_run : MS := (mSeq (mDrop (mF f_need_evening (mCons (mVar 0) mNil)))
    (mSeq (mAsg (gTp (gCons' (gN 2) (gCons' (gN 3) gNil'))) (mTup (mCons (mPure (.int 0)) (mCons (mPure .none) mNil))))
    (mSeq (mFor (mItems (mF f_all_runs (mCons (mCall dLen (mCons (mVar 0) mNil)) mNil))) (gN 1) (mSeq (mSet 4 (mF f_lack_of (mCons (mVar 0) (mCons (mVar 1) mNil))))
    (mIf (mCmp dGt (mVar 4) (mVar 2)) (mPar2 2 3 (mDat (mVar 4)) (mDat (mVar 1))) mNx)))
    (mRet (mVar 3)))))
def f_worst_run := runF 5 m_worst_run
def m_first_whole : MS := (mSeq (mPar2 1 2 (mOwn (mLst mNil)) (mDat (mPure .none)))
    (mSeq (mFor (mItems (mVar 0)) (gTp (gCons' (gN 3) (gCons' (gN 4) (gCons' (gN 5) (gCons' (gN 6) (gCons' (gN 7) (gCons' (gN 8) (gCons' (gN 9) gNil')))))))) (mSeq (mSet 10 (mIfE (mCmp dIsNone (mVar 2) (mPure .none)) (mOp dSub (mVar 4) (mVar 7)) (mCall dMax2 (mCons (mOp dSub (mVar 4) (mVar 7)) (mCons (mVar 2) mNil)))))
    (mSeq (mSet 11 (mCall dMax2 (mCons (mVar 5) (mCons (mOp dAdd (mVar 10) (mVar 6)) mNil))))
    (mSeq (mIf (mOr (mCmp dGt (mVar 10) (mVar 4)) (mCmp dGt (mVar 11) (mOp dAdd (mVar 5) (mVar 8)))) (mRet (mPure .none)) mNx)
    (mSeq (mMeth 1 dAppend (mCons (mTup (mCons (mVar 10) (mCons (mVar 11) mNil))) mNil))
    (mSet 2 (mOp dAdd (mVar 11) (mVar 9))))))))
    (mRet (mCall dTupC (mCons (mFz (mMove 1)) mNil)))))
def f_first_whole := runF 12 m_first_whole
def m_earliest : MS := (mSeq (mDrop (mF f_need_evening (mCons (mVar 0) mNil)))
    (mRet (mF f_first_whole (mCons (mVar 0) mNil))))
def f_earliest := runF 1 m_earliest
def m_last_whole : MS := (mSeq (mPar2 1 2 (mOwn (mLst mNil)) (mDat (mPure .none)))
    (mSeq (mFor (mItems (mUn dRev (mVar 0))) (gTp (gCons' (gN 3) (gCons' (gN 4) (gCons' (gN 5) (gCons' (gN 6) (gCons' (gN 7) (gCons' (gN 8) (gCons' (gN 9) gNil')))))))) (mSeq (mSet 10 (mIfE (mCmp dIsNone (mVar 2) (mPure .none)) (mOp dAdd (mVar 5) (mVar 8)) (mCall dMin2 (mCons (mOp dAdd (mVar 5) (mVar 8)) (mCons (mOp dSub (mVar 2) (mVar 9)) mNil)))))
    (mSeq (mSet 11 (mCall dMin2 (mCons (mVar 4) (mCons (mOp dSub (mVar 10) (mVar 6)) mNil))))
    (mSeq (mIf (mOr (mCmp dLt (mVar 10) (mVar 5)) (mCmp dLt (mVar 11) (mOp dSub (mVar 4) (mVar 7)))) (mRet (mPure .none)) mNx)
    (mSeq (mMeth 1 dAppend (mCons (mTup (mCons (mVar 11) (mCons (mVar 10) mNil))) mNil))
    (mSet 2 (mVar 11)))))))
    (mRet (mCall dTupC (mCons (mUn dRev (mFz (mMove 1))) mNil)))))
def f_last_whole := runF 12 m_last_whole
def m_latest : MS := (mSeq (mDrop (mF f_need_evening (mCons (mVar 0) mNil)))
    (mRet (mF f_last_whole (mCons (mVar 0) mNil))))
def f_latest := runF 1 m_latest
def m_can_stand : MS := (mSeq (mDrop (mF f_need_evening (mCons (mVar 0) mNil)))
    (mRet (mB (mCmp dNotNone (mF f_first_whole (mCons (mVar 0) mNil)) (mPure .none)))))
def f_can_stand := runF 1 m_can_stand
def m__law_is_whole : MS := (mRet (mAndV (mF f__law_are_standing (mCons (mVar 0) (mCons (mVar 1) mNil))) (mB (mCmp dEq (mCall dSum (mCons (mF f__law_forgone (mCons (mVar 0) (mCons (mVar 1) mNil))) mNil)) (mPure (.int 0))))))
def f__law_is_whole := runF 2 m__law_is_whole
def m_law_k11 : MS := (mSeq (mFor (mRange1 (mCons (mCall dMax2 (mCons (mPure (.int 6)) (mCons (mCall dMin2 (mCons (mPure (.int 50)) (mCons (mLenO 0) mNil))) mNil))) mNil)) (gN 1) (mSeq (mSetO 3 (mFS 0 f__law_well (mCons (mVar 1) mNil)))
    (mSeq (mSet 4 (mFC 3 f__law_evening (mCons (mPure (.int 8)) (mCons (mPure (.int 12)) mNil))))
    (mSeq (mSetO 5 (mComp (mItems (mF f__law_all_runs (mCons (mCall dLen (mCons (mVar 4) mNil)) mNil))) [10] (gN 10) (mCmp dGt (mF f__law_lack (mCons (mVar 4) (mCons (mVar 10) mNil))) (mPure (.int 0))) (mVar 10)))
    (mSeq (mIf (mNot (mTru (mF f__law_says (mCons (mF f_can_stand (mCons (mVar 4) mNil)) (mCons (mB (mCmpO dEq 5 (mFz (mLst mNil)))) mNil))))) (mRet (mPure (.bool false))) mNx)
    (mSeq (mPar2 7 8 (mDat (mF f_earliest (mCons (mVar 4) mNil))) (mDat (mF f_latest (mCons (mVar 4) mNil))))
    (mSeq (mSet 6 (mF f_worst_run (mCons (mVar 4) mNil)))
    (mIf (mCmpO dEq 5 (mFz (mLst mNil))) (mIf (mOr (mNot (mTru (mF f__law_is_whole (mCons (mVar 4) (mCons (mVar 7) mNil))))) (mOr (mNot (mTru (mF f__law_is_whole (mCons (mVar 4) (mCons (mVar 8) mNil))))) (mCmp dNotNone (mVar 6) (mPure .none)))) (mRet (mPure (.bool false))) mNx) (mFrz 5 (mSeq (mIf (mOr (mCmp dNotNone (mVar 7) (mPure .none)) (mOr (mCmp dNotNone (mVar 8) (mPure .none)) (mCmp dNotInA (mVar 6) (mVar 5)))) (mRet (mPure (.bool false))) mNx)
    (mFor (mRange1 (mCons (mPure (.int 5)) mNil)) (gN 9) (mIf (mTru (mF f__law_is_whole (mCons (mVar 4) (mCons (mFC 3 f__law_some_standing (mCons (mVar 4) mNil)) mNil)))) (mRet (mPure (.bool false))) mNx))))))))))))
    (mSeq (mSet 2 (mTup (mCons (mTup (mCons (mPure (.str "a")) (mCons (mPure (.int 5)) (mCons (mPure (.int 9)) (mCons (mPure (.int 7)) (mCons (mPure (.int 2)) (mCons (mPure (.int 1)) (mCons (mPure (.int 3)) mNil)))))))) mNil)))
    (mRet (mAndV (mB (mCmp dEq (mF f_earliest (mCons (mVar 2) mNil)) (mTup (mCons (mTup (mCons (mPure (.int 3)) (mCons (mPure (.int 10)) mNil))) mNil)))) (mAndV (mB (mCmp dEq (mF f_latest (mCons (mVar 2) mNil)) (mTup (mCons (mTup (mCons (mPure (.int 3)) (mCons (mPure (.int 10)) mNil))) mNil)))) (mB (mCmp dIsBl (mF f_can_stand (mCons (mTup (mCons (mTup (mCons (mPure (.str "a")) (mCons (mPure (.int 5)) (mCons (mPure (.int 9)) (mCons (mPure (.int 8)) (mCons (mPure (.int 2)) (mCons (mPure (.int 1)) (mCons (mPure (.int 3)) mNil)))))))) mNil)) mNil)) (mPure (.bool false)))))))))
def f_law_k11 := runL 11 m_law_k11
def m__law_with : MS := (mSeq (mSet 4 (mOp dIx (mVar 0) (mVar 1)))
    (mRet (mOp dAdd (mOp dAdd (mSl (mVar 0) mNoP (mPart (mVar 1))) (mTup (mCons (mOp dAdd (mOp dAdd (mSl (mVar 4) mNoP (mPart (mVar 2))) (mTup (mCons (mVar 3) mNil))) (mSl (mVar 4) (mPart (mOp dAdd (mVar 2) (mPure (.int 1)))) mNoP)) mNil))) (mSl (mVar 0) (mPart (mOp dAdd (mVar 1) (mPure (.int 1)))) mNoP))))
def f__law_with := runF 5 m__law_with
def m__law_held_from : MS := (mRet (mF f__law_with (mCons (mVar 0) (mCons (mVar 1) (mCons (mPure (.int 4)) (mCons (mOp dSub (mOp dIx (mOp dIx (mVar 0) (mVar 1)) (mPure (.int 1))) (mVar 2)) mNil))))))
def f__law_held_from := runF 3 m__law_held_from
def m__law_held_to : MS := (mRet (mF f__law_with (mCons (mVar 0) (mCons (mVar 1) (mCons (mPure (.int 5)) (mCons (mOp dSub (mVar 2) (mOp dIx (mOp dIx (mVar 0) (mVar 1)) (mPure (.int 2)))) mNil))))))
def f__law_held_to := runF 3 m__law_held_to
def m__law_drawn_whole : MS := (mSeq (mFor (mRange1 (mCons (mPure (.int 3)) mNil)) (gN 2) (mSeq (mSet 3 (mFC 0 f__law_take (mCons (mCall dLen (mCons (mVar 1) mNil)) mNil)))
    (mSeq (mPar2 4 5 (mDat (mOp dIx (mF f_earliest (mCons (mVar 1) mNil)) (mVar 3))) (mDat (mOp dIx (mF f_latest (mCons (mVar 1) mNil)) (mVar 3))))
    (mIf (mCmp dEq (mFC 0 f__law_take (mCons (mPure (.int 2)) mNil)) (mPure (.int 0))) (mSeq (mSet 6 (mOp dAdd (mOp dIx (mVar 4) (mPure (.int 0))) (mFC 0 f__law_take (mCons (mOp dAdd (mOp dSub (mOp dIx (mVar 5) (mPure (.int 0))) (mOp dIx (mVar 4) (mPure (.int 0)))) (mPure (.int 1))) mNil))))
    (mSet 1 (mF f__law_with (mCons (mVar 1) (mCons (mVar 3) (mCons (mPure (.int 4)) (mCons (mOp dSub (mOp dIx (mOp dIx (mVar 1) (mVar 3)) (mPure (.int 1))) (mVar 6)) mNil))))))) (mSeq (mSet 6 (mOp dAdd (mOp dIx (mVar 4) (mPure (.int 1))) (mFC 0 f__law_take (mCons (mOp dAdd (mOp dSub (mOp dIx (mVar 5) (mPure (.int 1))) (mOp dIx (mVar 4) (mPure (.int 1)))) (mPure (.int 1))) mNil))))
    (mSet 1 (mF f__law_with (mCons (mVar 1) (mCons (mVar 3) (mCons (mPure (.int 5)) (mCons (mOp dSub (mVar 6) (mOp dIx (mOp dIx (mVar 1) (mVar 3)) (mPure (.int 2)))) mNil)))))))))))
    (mRet (mIfE (mCmp dEq (mFC 0 f__law_take (mCons (mPure (.int 2)) mNil)) (mPure (.int 0))) (mF f_earliest (mCons (mVar 1) mNil)) (mF f_latest (mCons (mVar 1) mNil)))))
def f__law_drawn_whole := runC 7 m__law_drawn_whole
def m_law_k13 : MS := (mSeq (mFor (mRange1 (mCons (mCall dMax2 (mCons (mPure (.int 5)) (mCons (mCall dMin2 (mCons (mPure (.int 40)) (mCons (mLenO 0) mNil))) mNil))) mNil)) (gN 1) (mSeq (mSetO 2 (mFS 0 f__law_well (mCons (mVar 1) mNil)))
    (mSeq (mSet 3 (mFC 2 f__law_evening (mCons (mPure (.int 8)) (mCons (mPure (.int 12)) mNil))))
    (mSeq (mIf (mCmp dIsNone (mF f_earliest (mCons (mVar 3) mNil)) (mPure .none)) (mPure .ct) mNx)
    (mSeq (mPar2 8 9 (mDat (mFC 2 f__law_drawn_whole (mCons (mVar 3) mNil))) (mDat (mFC 2 f__law_drawn_whole (mCons (mVar 3) mNil))))
    (mSeq (mIf (mOr (mNot (mTru (mF f__law_is_whole (mCons (mVar 3) (mCons (mVar 8) mNil))))) (mNot (mTru (mF f__law_is_whole (mCons (mVar 3) (mCons (mVar 9) mNil)))))) (mRet (mPure (.bool false))) mNx)
    (mSeq (mSet 4 (mFz (mListZip (mCons (mVar 8) (mCons (mVar 9) mNil)))))
    (mSeq (mSet 5 (mCall dTupC (mCons (mFz (mComp (mItems (mVar 4)) [10, 11] (gTp (gCons' (gN 10) (gCons' (gN 11) gNil'))) (mPure true) (mTup (mCons (mCall dMin2 (mCons (mOp dIx (mVar 10) (mPure (.int 0))) (mCons (mOp dIx (mVar 11) (mPure (.int 0))) mNil))) (mCons (mCall dMin2 (mCons (mOp dIx (mVar 10) (mPure (.int 1))) (mCons (mOp dIx (mVar 11) (mPure (.int 1))) mNil))) mNil))))) mNil)))
    (mSeq (mSet 6 (mCall dTupC (mCons (mFz (mComp (mItems (mVar 4)) [10, 11] (gTp (gCons' (gN 10) (gCons' (gN 11) gNil'))) (mPure true) (mTup (mCons (mCall dMax2 (mCons (mOp dIx (mVar 10) (mPure (.int 0))) (mCons (mOp dIx (mVar 11) (mPure (.int 0))) mNil))) (mCons (mCall dMax2 (mCons (mOp dIx (mVar 10) (mPure (.int 1))) (mCons (mOp dIx (mVar 11) (mPure (.int 1))) mNil))) mNil))))) mNil)))
    (mFor (mItems (mFz (mLst (mCons (mVar 5) (mCons (mVar 6) mNil))))) (gN 7) (mSeq (mIf (mOr (mNot (mTru (mF f__law_is_whole (mCons (mVar 3) (mCons (mVar 7) mNil))))) (mCmp dNotBl (mF f_is_standing (mCons (mVar 3) (mCons (mVar 7) mNil))) (mPure (.bool true)))) (mRet (mPure (.bool false))) mNx)
    (mIf (mCmp dNe (mCall dSum (mCons (mF f_forgoes (mCons (mVar 3) (mCons (mVar 7) mNil))) mNil)) (mPure (.int 0))) (mRet (mPure (.bool false))) mNx))))))))))))
    (mRet (mB (mCmp dEq (mF f_latest (mCons (mTup (mCons (mTup (mCons (mPure (.str "a")) (mCons (mPure (.int 5)) (mCons (mPure (.int 9)) (mCons (mPure (.int 6)) (mCons (mPure (.int 2)) (mCons (mPure (.int 1)) (mCons (mPure (.int 3)) mNil)))))))) (mCons (mTup (mCons (mPure (.str "b")) (mCons (mPure (.int 20)) (mCons (mPure (.int 21)) (mCons (mPure (.int 1)) (mCons (mPure (.int 0)) (mCons (mPure (.int 0)) (mCons (mPure (.int 0)) mNil)))))))) mNil))) mNil)) (mTup (mCons (mTup (mCons (mPure (.int 4)) (mCons (mPure (.int 10)) mNil))) (mCons (mTup (mCons (mPure (.int 20)) (mCons (mPure (.int 21)) mNil))) mNil)))))))
def f_law_k13 := runL 12 m_law_k13
def m_apart_rows : MS := (mSeq (mSet 1 (mCall dLen (mCons (mVar 0) mNil)))
    (mSeq (mSetO 2 (mLst (mCons (mTup (mCons (mPure (.int 0)) (mCons (mTup mNil) mNil))) mNil)))
    (mSeq (mFor (mRange2 (mCons (mPure (.int 1)) (mCons (mOp dAdd (mVar 1) (mPure (.int 1))) mNil))) (gN 3) (mSeq (mSet 4 (mIxO 2 (mUn dNeg (mPure (.int 1)))))
    (mSeq (mFor (mItems (mF f_all_runs (mCons (mVar 1) mNil))) (gN 5) (mSeq (mAsg (gTp (gCons' (gN 6) (gCons' (gN 7) gNil'))) (mF f_acts_of (mCons (mVar 5) mNil)))
    (mIf (mAnd (mCmp dEq (mVar 7) (mVar 3)) (mCmp dGt (mOp dAdd (mOp dIx (mIxO 2 (mVar 6)) (mPure (.int 0))) (mF f_lack_of (mCons (mVar 0) (mCons (mVar 5) mNil)))) (mOp dIx (mVar 4) (mPure (.int 0))))) (mSet 4 (mTup (mCons (mOp dAdd (mOp dIx (mIxO 2 (mVar 6)) (mPure (.int 0))) (mF f_lack_of (mCons (mVar 0) (mCons (mVar 5) mNil)))) (mCons (mOp dAdd (mOp dIx (mIxO 2 (mVar 6)) (mPure (.int 1))) (mTup (mCons (mVar 5) mNil))) mNil)))) mNx)))
    (mMeth 2 dAppend (mCons (mVar 4) mNil)))))
    (mRet (mFz (mMove 2))))))
def f_apart_rows := runF 8 m_apart_rows
def m__law_greatest : MS := (mSeq (mSetO 1 (mLst (mCons (mPure (.int 0)) mNil)))
    (mSeq (mFor (mRange2 (mCons (mPure (.int 1)) (mCons (mOp dAdd (mCall dLen (mCons (mVar 0) mNil)) (mPure (.int 1))) mNil))) (gN 2) (mSeq (mSet 3 (mIxO 1 (mUn dNeg (mPure (.int 1)))))
    (mSeq (mFor (mItems (mF f__law_all_runs (mCons (mCall dLen (mCons (mVar 0) mNil)) mNil))) (gN 4) (mSeq (mSet 5 (mF f__law_acts (mCons (mVar 4) mNil)))
    (mIf (mCmp dEq (mOp dIx (mVar 5) (mUn dNeg (mPure (.int 1)))) (mOp dSub (mVar 2) (mPure (.int 1)))) (mSet 3 (mCall dMax2 (mCons (mVar 3) (mCons (mOp dAdd (mIxO 1 (mOp dIx (mVar 5) (mPure (.int 0)))) (mF f__law_lack (mCons (mVar 0) (mCons (mVar 4) mNil)))) mNil)))) mNx)))
    (mMeth 1 dAppend (mCons (mVar 3) mNil)))))
    (mRet (mIxO 1 (mUn dNeg (mPure (.int 1)))))))
def f__law_greatest := runF 6 m__law_greatest
def m__law_apart : MS := (mSeq (mPar2 3 4 (mDat (mF f__law_all_runs (mCons (mCall dLen (mCons (mVar 0) mNil)) mNil))) (mDat (mFz (mLst mNil))))
    (mSeq (mFor (mItems (mVar 1)) (gN 2) (mSeq (mIf (mCmp dNotInA (mVar 2) (mVar 3)) (mRet (mPure .none)) mNx)
    (mSet 4 (mOp dAdd (mVar 4) (mF f__law_acts (mCons (mVar 2) mNil))))))
    (mSeq (mIf (mCmp dNe (mLenSet (mVar 4)) (mCall dLen (mCons (mVar 4) mNil))) (mRet (mPure .none)) mNx)
    (mRet (mCall dSum (mCons (mFz (mComp (mItems (mVar 1)) [2] (gN 2) (mPure true) (mF f__law_lack (mCons (mVar 0) (mCons (mVar 2) mNil))))) mNil))))))
def f__law_apart := runF 5 m__law_apart
def m__law_all_standings : MS := (mSeq (mSet 1 (mFz (mLst (mCons (mTup mNil) mNil))))
    (mSeq (mFor (mItems (mVar 0)) (gN 2) (mSeq (mSet 3 (mFz (mLst mNil)))
    (mSeq (mFor (mItems (mVar 1)) (gN 4) (mFor (mRange2 (mCons (mOp dSub (mOp dIx (mVar 2) (mPure (.int 1))) (mOp dIx (mVar 2) (mPure (.int 4)))) (mCons (mOp dAdd (mOp dIx (mVar 2) (mPure (.int 1))) (mPure (.int 1))) mNil))) (gN 5) (mIf (mOr (mCmp dEq (mVar 4) (mTup mNil)) (mCmp dLe (mOp dAdd (mOp dIx (mOp dIx (mVar 4) (mUn dNeg (mPure (.int 1)))) (mPure (.int 1))) (mOp dIx (mOp dIx (mVar 0) (mOp dSub (mCall dLen (mCons (mVar 4) mNil)) (mPure (.int 1)))) (mPure (.int 6)))) (mVar 5))) (mSet 3 (mOp dAdd (mVar 3) (mFz (mComp (mRange2 (mCons (mOp dIx (mVar 2) (mPure (.int 2))) (mCons (mOp dAdd (mOp dAdd (mOp dIx (mVar 2) (mPure (.int 2))) (mOp dIx (mVar 2) (mPure (.int 5)))) (mPure (.int 1))) mNil))) [6] (gN 6) (mPure true) (mOp dAdd (mVar 4) (mTup (mCons (mTup (mCons (mVar 5) (mCons (mVar 6) mNil))) mNil))))))) mNx)))
    (mSet 1 (mVar 3)))))
    (mRet (mVar 1))))
def f__law_all_standings := runF 7 m__law_all_standings
def m_with_wants : MS := (mRet (mCall dTupC (mCons (mFz (mComp (mZipM (mCons (mVar 0) (mCons (mVar 1) mNil))) [2, 3] (gTp (gCons' (gN 2) (gCons' (gN 3) gNil'))) (mPure true) (mOp dAdd (mOp dAdd (mSl (mVar 2) mNoP (mPart (mPure (.int 3)))) (mTup (mCons (mVar 3) mNil))) (mSl (mVar 2) (mPart (mPure (.int 4))) mNoP)))) mNil)))
def f_with_wants := runF 4 m_with_wants
def m_with_less : MS := (mRet (mF f_with_wants (mCons (mVar 0) (mCons (mFz (mComp (mItems (mVar 0)) [2] (gN 2) (mPure true) (mCall dMax2 (mCons (mOp dSub (mOp dIx (mVar 2) (mPure (.int 2))) (mOp dIx (mVar 2) (mPure (.int 1)))) (mCons (mOp dSub (mOp dIx (mVar 2) (mPure (.int 3))) (mVar 1)) mNil))))) mNil))))
def f_with_less := runF 3 m_with_less
def m_number_each : MS := (mSeq (mSet 1 (mPure (.int 0)))
    (mSeq (mWhile (fun _ => 400) (mCmp dIsNone (mF f_first_whole (mCons (mF f_with_less (mCons (mVar 0) (mCons (mVar 1) mNil))) mNil)) (mPure .none)) (mSet 1 (mOp dAdd (mVar 1) (mPure (.int 1)))))
    (mRet (mVar 1))))
def f_number_each := runF 2 m_number_each
def m_standing_each : MS := (mSeq (mDrop (mF f_need_evening (mCons (mVar 0) mNil)))
    (mRet (mF f_first_whole (mCons (mF f_with_less (mCons (mVar 0) (mCons (mF f_number_each (mCons (mVar 0) mNil)) mNil))) mNil))))
def f_standing_each := runF 1 m_standing_each
def m_least_each : MS := (mSeq (mDrop (mF f_need_evening (mCons (mVar 0) mNil)))
    (mRet (mF f_number_each (mCons (mVar 0) mNil))))
def f_least_each := runF 1 m_least_each
def m_run_each : MS := (mSeq (mDrop (mF f_need_evening (mCons (mVar 0) mNil)))
    (mSeq (mSet 1 (mF f_number_each (mCons (mVar 0) mNil)))
    (mSeq (mIf (mCmp dEq (mVar 1) (mPure (.int 0))) (mRet (mPure .none)) mNx)
    (mSeq (mSet 2 (mF f_with_less (mCons (mVar 0) (mCons (mOp dSub (mVar 1) (mPure (.int 1))) mNil))))
    (mRet (mOp dIx (mFz (mComp (mItems (mF f_all_runs (mCons (mCall dLen (mCons (mVar 0) mNil)) mNil))) [3] (gN 3) (mCmp dGt (mF f_lack_of (mCons (mVar 2) (mCons (mVar 3) mNil))) (mPure (.int 0))) (mVar 3))) (mPure (.int 0))))))))
def f_run_each := runF 4 m_run_each
def m__law_needs_more : MS := (mSeq (mSet 3 (mPure (.int 0)))
    (mSeq (mFor (mItems (mF f__law_acts (mCons (mVar 1) mNil))) (gN 4) (mSeq (mSet 5 (mOp dIx (mVar 0) (mVar 4)))
    (mSet 3 (mOp dAdd (mVar 3) (mCall dMin2 (mCons (mVar 2) (mCons (mOp dSub (mOp dIx (mVar 5) (mPure (.int 3))) (mOp dSub (mOp dIx (mVar 5) (mPure (.int 2))) (mOp dIx (mVar 5) (mPure (.int 1))))) mNil)))))))
    (mRet (mB (mCmp dGt (mF f__law_lack (mCons (mVar 0) (mCons (mVar 1) mNil))) (mVar 3))))))
def f__law_needs_more := runF 6 m__law_needs_more
def m_law_k24 : MS := (mSeq (mFor (mRange1 (mCons (mCall dMax2 (mCons (mPure (.int 6)) (mCons (mCall dMin2 (mCons (mPure (.int 50)) (mCons (mLenO 0) mNil))) mNil))) mNil)) (gN 1) (mSeq (mSetO 3 (mFS 0 f__law_well (mCons (mVar 1) mNil)))
    (mSeq (mSet 4 (mFC 3 f__law_evening (mCons (mPure (.int 8)) (mCons (mPure (.int 12)) mNil))))
    (mSeq (mAsg (gTp (gCons' (gN 7) (gCons' (gN 8) gNil'))) (mTup (mCons (mF f_least_each (mCons (mVar 4) mNil)) (mCons (mF f_standing_each (mCons (mVar 4) mNil)) mNil))))
    (mSeq (mSet 5 (mF f_run_each (mCons (mVar 4) mNil)))
    (mSeq (mIf (mOr (mNot (mTru (mF f__law_are_standing (mCons (mVar 4) (mCons (mVar 8) mNil))))) (mCmp dGt (mCall dMaxL (mCons (mF f__law_forgone (mCons (mVar 4) (mCons (mVar 8) mNil))) mNil)) (mVar 7))) (mRet (mPure (.bool false))) mNx)
    (mSeq (mIf (mOr (mCmp dNe (mB (mCmp dEq (mVar 7) (mPure (.int 0)))) (mB (mCmp dIsNone (mF f_worst_run (mCons (mVar 4) mNil)) (mPure .none)))) (mIsi "bool" (mVar 7))) (mRet (mPure (.bool false))) mNx)
    (mSeq (mIf (mCmp dEq (mVar 7) (mPure (.int 0))) (mIf (mCmp dNotNone (mVar 5) (mPure .none)) (mRet (mPure (.bool false))) mNx) (mSeq (mSetO 9 (mComp (mItems (mF f__law_all_runs (mCons (mCall dLen (mCons (mVar 4) mNil)) mNil))) [10] (gN 10) (mTru (mF f__law_needs_more (mCons (mVar 4) (mCons (mVar 10) (mCons (mOp dSub (mVar 7) (mPure (.int 1))) mNil))))) (mVar 10)))
    (mIf (mOr (mCmpO dEq 9 (mFz (mLst mNil))) (mCmp dNe (mVar 5) (mIxO 9 (mPure (.int 0))))) (mRet (mPure (.bool false))) mNx)))
    (mSeq (mIf (mCmp dNe (mFz (mComp (mItems (mF f__law_all_runs (mCons (mCall dLen (mCons (mVar 4) mNil)) mNil))) [10] (gN 10) (mTru (mF f__law_needs_more (mCons (mVar 4) (mCons (mVar 10) (mCons (mVar 7) mNil))))) (mVar 10))) (mFz (mLst mNil))) (mRet (mPure (.bool false))) mNx)
    (mFor (mRange1 (mCons (mPure (.int 5)) mNil)) (gN 6) (mIf (mCmp dLt (mCall dMaxL (mCons (mF f__law_forgone (mCons (mVar 4) (mCons (mFC 3 f__law_some_standing (mCons (mVar 4) mNil)) mNil))) mNil)) (mVar 7)) (mRet (mPure (.bool false))) mNx)))))))))))
    (mSeq (mSet 2 (mTup (mCons (mTup (mCons (mPure (.str "a")) (mCons (mPure (.int 5)) (mCons (mPure (.int 9)) (mCons (mPure (.int 7)) (mCons (mPure (.int 2)) (mCons (mPure (.int 1)) (mCons (mPure (.int 3)) mNil)))))))) (mCons (mTup (mCons (mPure (.str "b")) (mCons (mPure (.int 12)) (mCons (mPure (.int 14)) (mCons (mPure (.int 6)) (mCons (mPure (.int 0)) (mCons (mPure (.int 2)) (mCons (mPure (.int 0)) mNil)))))))) mNil))))
    (mRet (mAndV (mB (mCmp dEq (mF f_least_each (mCons (mVar 2) mNil)) (mPure (.int 2)))) (mB (mCmp dEq (mF f_run_each (mCons (mVar 2) mNil)) (mTup (mCons (mPure (.int 0)) (mCons (mPure (.str "early")) (mCons (mPure (.int 1)) (mCons (mPure (.str "late")) mNil)))))))))))
def f_law_k24 := runL 11 m_law_k24
def m__law_later : MS := (mSeq (mSetO 3 (mCallO dListC (mCons (mSl (mVar 0) mNoP (mPart (mVar 1))) mNil)))
    (mSeq (mFor (mItems (mSl (mVar 0) (mPart (mVar 1)) mNoP)) (gN 4) (mMeth 3 dAppend (mCons (mOp dAdd (mTup (mCons (mOp dIx (mVar 4) (mPure (.int 0))) (mCons (mOp dAdd (mOp dIx (mVar 4) (mPure (.int 1))) (mVar 2)) (mCons (mOp dAdd (mOp dIx (mVar 4) (mPure (.int 2))) (mVar 2)) mNil)))) (mSl (mVar 4) (mPart (mPure (.int 3))) mNoP)) mNil)))
    (mRet (mCall dTupC (mCons (mFz (mMove 3)) mNil)))))
def f__law_later := runF 5 m__law_later
def m_spare : MS := (mRet (mOp dSub (mOp dSub (mOp dIx (mOp dIx (mVar 0) (mOp dAdd (mVar 1) (mPure (.int 1)))) (mPure (.int 1))) (mOp dIx (mOp dIx (mVar 0) (mVar 1)) (mPure (.int 2)))) (mOp dIx (mOp dIx (mVar 0) (mVar 1)) (mPure (.int 6)))))
def f_spare := runF 2 m_spare
def m_behind : MS := (mSeq (mPar2 2 3 (mOwn (mRep (mCons (mPure (.int 0)) mNil) (mOp dAdd (mCall dLen (mCons (mVar 0) mNil)) (mPure (.int 1))))) (mDat (mCall dLen (mCons (mVar 0) mNil))))
    (mSeq (mFor (mRange3 (mCons (mOp dSub (mVar 3) (mPure (.int 1))) (mCons (mUn dNeg (mPure (.int 1))) (mCons (mUn dNeg (mPure (.int 1))) mNil)))) (gN 1) (mSeq (mSetIx 2 (mIxO 2 (mOp dAdd (mVar 1) (mPure (.int 1)))) (mVar 1))
    (mFor (mItems (mF f_all_runs (mCons (mVar 3) mNil))) (gN 4) (mSeq (mAsg (gTp (gCons' (gN 5) (gCons' (gN 6) gNil'))) (mF f_acts_of (mCons (mVar 4) mNil)))
    (mIf (mCmp dEq (mVar 5) (mVar 1)) (mSetIx 2 (mCall dMax2 (mCons (mIxO 2 (mVar 1)) (mCons (mOp dAdd (mF f_lack_of (mCons (mVar 0) (mCons (mVar 4) mNil))) (mIxO 2 (mVar 6))) mNil))) (mVar 1)) mNx)))))
    (mRet (mFz (mMove 2)))))
def f_behind := runF 7 m_behind
def m_lots : MS := (mSeq (mSet 1 (mFz (mLst (mCons (mTup mNil) mNil))))
    (mSeq (mFor (mRange1 (mCons (mVar 0) mNil)) (gN 2) (mSet 1 (mOp dAdd (mVar 1) (mFz (mComp (mItems (mVar 1)) [3] (gN 3) (mPure true) (mOp dAdd (mVar 3) (mTup (mCons (mVar 2) mNil))))))))
    (mRet (mVar 1))))
def f_lots := runF 4 m_lots
def m_can_keep : MS := (mRet (mB (mCmp dNotNone (mF f_first_whole (mCons (mCall dTupC (mCons (mFz (mComp (mItems (mVar 1)) [2] (gN 2) (mPure true) (mOp dIx (mVar 0) (mVar 2)))) mNil)) mNil)) (mPure .none))))
def f_can_keep := runF 3 m_can_keep
def m_frees : MS := (mSeq (mDrop (mF f_need_evening (mCons (mVar 0) mNil)))
    (mSeq (mSetO 1 (mLst (mCons (mPure (.int 0)) mNil)))
    (mSeq (mFor (mRange2 (mCons (mPure (.int 1)) (mCons (mOp dAdd (mCall dLen (mCons (mVar 0) mNil)) (mPure (.int 1))) mNil))) (gN 2) (mSeq (mSetO 3 (mLst mNil))
    (mSeq (mFor (mItems (mF f_lots (mCons (mCall dLen (mCons (mVar 0) mNil)) mNil))) (gN 4) (mIf (mAnd (mCmp dEq (mCall dLen (mCons (mVar 4) mNil)) (mVar 2)) (mTru (mF f_can_keep (mCons (mVar 0) (mCons (mVar 4) mNil))))) (mSeq (mSet 5 (mOp dIx (mF f_first_whole (mCons (mCall dTupC (mCons (mFz (mComp (mItems (mVar 4)) [6] (gN 6) (mPure true) (mOp dIx (mVar 0) (mVar 6)))) mNil)) mNil)) (mUn dNeg (mPure (.int 1)))))
    (mMeth 3 dAppend (mCons (mOp dAdd (mOp dIx (mVar 5) (mPure (.int 1))) (mOp dIx (mOp dIx (mVar 0) (mOp dIx (mVar 4) (mUn dNeg (mPure (.int 1))))) (mPure (.int 6)))) mNil))) mNx))
    (mFrz 3 (mMeth 1 dAppend (mCons (mIfE (mCmp dNe (mVar 3) (mFz (mLst mNil))) (mCall dMinL (mCons (mVar 3) mNil)) (mPure .none)) mNil))))))
    (mRet (mFz (mMove 1))))))
def f_frees := runF 7 m_frees
def m__law_done_at : MS := (mSeq (mSet 2 (mUn dNeg (mOp dPow (mPure (.int 10)) (mPure (.int 9)))))
    (mSeq (mFor (mItems (mVar 1)) (gN 3) (mSeq (mSet 4 (mOp dIx (mVar 0) (mVar 3)))
    (mSeq (mSet 5 (mCall dMax2 (mCons (mOp dSub (mOp dIx (mVar 4) (mPure (.int 1))) (mOp dIx (mVar 4) (mPure (.int 4)))) (mCons (mVar 2) mNil))))
    (mSeq (mSet 6 (mCall dMax2 (mCons (mOp dIx (mVar 4) (mPure (.int 2))) (mCons (mOp dAdd (mVar 5) (mOp dIx (mVar 4) (mPure (.int 3)))) mNil))))
    (mSeq (mIf (mOr (mCmp dGt (mVar 5) (mOp dIx (mVar 4) (mPure (.int 1)))) (mCmp dGt (mVar 6) (mOp dAdd (mOp dIx (mVar 4) (mPure (.int 2))) (mOp dIx (mVar 4) (mPure (.int 5)))))) (mRet (mPure .none)) mNx)
    (mSet 2 (mOp dAdd (mVar 6) (mOp dIx (mVar 4) (mPure (.int 6))))))))))
    (mRet (mVar 2))))
def f__law_done_at := runF 7 m__law_done_at
def m_best_lot : MS := (mSeq (mSetO 1 (mComp (mItems (mF f_lots (mCons (mCall dLen (mCons (mVar 0) mNil)) mNil))) [3] (gN 3) (mTru (mF f_can_keep (mCons (mVar 0) (mCons (mVar 3) mNil)))) (mVar 3)))
    (mFrz 1 (mSeq (mSet 2 (mCall dMaxL (mCons (mFz (mComp (mItems (mVar 1)) [3] (gN 3) (mPure true) (mCall dLen (mCons (mVar 3) mNil)))) mNil)))
    (mRet (mCall dMinL (mCons (mFz (mComp (mItems (mVar 1)) [3] (gN 3) (mCmp dEq (mCall dLen (mCons (mVar 3) mNil)) (mVar 2)) (mVar 3))) mNil))))))
def f_best_lot := runF 4 m_best_lot
def m_most_kept : MS := (mSeq (mDrop (mF f_need_evening (mCons (mVar 0) mNil)))
    (mRet (mF f_best_lot (mCons (mVar 0) mNil))))
def f_most_kept := runF 1 m_most_kept
def m_how_many_lots : MS := (mSeq (mDrop (mF f_need_evening (mCons (mVar 0) mNil)))
    (mRet (mCall dLen (mCons (mFz (mComp (mItems (mF f_lots (mCons (mCall dLen (mCons (mVar 0) mNil)) mNil))) [1] (gN 1) (mTru (mF f_can_keep (mCons (mVar 0) (mCons (mVar 1) mNil)))) (mVar 1))) mNil))))
def f_how_many_lots := runF 2 m_how_many_lots
def m__law_written : MS := (mSeq (mSetO 3 (mLst mNil))
    (mSeq (mFor (mRange1 (mCons (mVar 2) mNil)) (gN 4) (mFor (mItems (mVar 0)) (gN 5) (mMeth 3 dAppend (mCons (mOp dAdd (mTup (mCons (mOp dAdd (mOp dIx (mVar 5) (mPure (.int 0))) (mOp dIx (mPure (.str "abcdefgh")) (mVar 4))) (mCons (mOp dAdd (mOp dIx (mVar 5) (mPure (.int 1))) (mOp dMulI (mVar 4) (mVar 1))) (mCons (mOp dAdd (mOp dIx (mVar 5) (mPure (.int 2))) (mOp dMulI (mVar 4) (mVar 1))) mNil)))) (mSl (mVar 5) (mPart (mPure (.int 3))) mNoP)) mNil))))
    (mRet (mCall dTupC (mCons (mFz (mMove 3)) mNil)))))
def f__law_written := runF 6 m__law_written
def m__law_far : MS := (mSeq (mSet 2 (mPure (.int 0)))
    (mSeq (mFor (mRange1 (mCons (mPure (.int 3)) mNil)) (gN 3) (mSet 2 (mOp dAdd (mOp dMulI (mVar 2) (mPure (.int 1000003))) (mFC 0 f__law_take (mCons (mPure (.int 1000003)) mNil)))))
    (mRet (mOp dAdd (mPure (.int 1)) (mOp dMod (mVar 2) (mOp dIx (mFz (mLst (mCons (mPure (.int 9)) (mCons (mPure (.int 300)) (mCons (mVar 1) mNil))))) (mFC 0 f__law_take (mCons (mPure (.int 3)) mNil))))))))
def f__law_far := runC 4 m__law_far
def m__law_frac_so : MS := (mSeq (mIf (mOr (mNot (mIsi "tuple" (mVar 0))) (mOr (mCmp dNe (mCall dLen (mCons (mVar 0) mNil)) (mPure (.int 2))) (mNot (mTru (mF f__law_is_int (mCons (mOp dIx (mVar 0) (mPure (.int 0))) (mCons (mPure (.int 0)) (mCons (mOp dPow (mPure (.int 10)) (mPure (.int 40))) mNil)))))))) (mRet (mPure (.bool false))) mNx)
    (mSeq (mIf (mNot (mTru (mF f__law_is_int (mCons (mOp dIx (mVar 0) (mPure (.int 1))) (mCons (mPure (.int 1)) (mCons (mOp dPow (mPure (.int 10)) (mPure (.int 40))) mNil)))))) (mRet (mPure (.bool false))) mNx)
    (mSeq (mAsg (gTp (gCons' (gN 1) (gCons' (gN 2) gNil'))) (mVar 0))
    (mSeq (mWhile (fun _ => 200) (mCmp dGt (mVar 2) (mPure (.int 0))) (mPar2 1 2 (mDat (mVar 2)) (mDat (mOp dMod (mVar 1) (mVar 2)))))
    (mRet (mB (mCmp dEq (mVar 1) (mPure (.int 1)))))))))
def f__law_frac_so := runF 3 m__law_frac_so
def m_need_place : MS := (mIf (mNot (mTru (mF f_is_whole (mCons (mVar 1) (mCons (mPure (.int 0)) (mCons (mOp dSub (mCall dLen (mCons (mVar 0) mNil)) (mPure (.int 1))) mNil)))))) (mRaise "NoPlace") mNx)
def f_need_place := runF 2 m_need_place
def m__law_felt : MS := (mSeq (mPar2 4 5 (mDat (mOp dIx (mVar 0) (mPure (.int 0)))) (mDat (mOp dIx (mVar 0) (mUn dNeg (mPure (.int 1))))))
    (mSeq (mIf (mOr (mCmp dGt (mVar 1) (mOp dIx (mVar 4) (mPure (.int 1)))) (mCmp dLt (mVar 2) (mOp dAdd (mOp dIx (mVar 5) (mPure (.int 2))) (mOp dIx (mVar 5) (mPure (.int 6)))))) (mRet (mPure .none)) mNx)
    (mSeq (mSet 3 (mF f__law_with (mCons (mVar 0) (mCons (mPure (.int 0)) (mCons (mPure (.int 4)) (mCons (mCall dMin2 (mCons (mOp dIx (mVar 4) (mPure (.int 4))) (mCons (mOp dSub (mOp dIx (mVar 4) (mPure (.int 1))) (mVar 1)) mNil))) mNil))))))
    (mRet (mF f__law_greatest (mCons (mF f__law_with (mCons (mVar 3) (mCons (mOp dSub (mCall dLen (mCons (mVar 0) mNil)) (mPure (.int 1))) (mCons (mPure (.int 5)) (mCons (mCall dMin2 (mCons (mOp dIx (mVar 5) (mPure (.int 5))) (mCons (mOp dSub (mOp dSub (mVar 2) (mOp dIx (mVar 5) (mPure (.int 6)))) (mOp dIx (mVar 5) (mPure (.int 2)))) mNil))) mNil))))) mNil))))))
def f__law_felt := runF 6 m__law_felt
def m__law_two : MS := (mSeq (mPar2 3 4 (mDat (mFC 0 f__law_evening (mCons (mPure (.int 4)) (mCons (mPure (.int 12)) mNil)))) (mDat (mFC 0 f__law_evening (mCons (mPure (.int 4)) (mCons (mPure (.int 12)) mNil)))))
    (mSeq (mSet 1 (mOp dAdd (mOp dSub (mOp dAdd (mOp dIx (mOp dIx (mVar 3) (mUn dNeg (mPure (.int 1)))) (mPure (.int 2))) (mOp dIx (mOp dIx (mVar 3) (mUn dNeg (mPure (.int 1)))) (mPure (.int 6)))) (mOp dIx (mOp dIx (mVar 4) (mPure (.int 0))) (mPure (.int 1)))) (mFC 0 f__law_take (mCons (mPure (.int 9)) mNil))))
    (mSeq (mSetO 2 (mComp (mItems (mVar 4)) [5] (gN 5) (mPure true) (mOp dAdd (mTup (mCons (mOp dAdd (mPure (.str "x")) (mOp dIx (mVar 5) (mPure (.int 0)))) (mCons (mOp dAdd (mOp dIx (mVar 5) (mPure (.int 1))) (mVar 1)) (mCons (mOp dAdd (mOp dIx (mVar 5) (mPure (.int 2))) (mVar 1)) mNil)))) (mSl (mVar 5) (mPart (mPure (.int 3))) mNoP))))
    (mRet (mFz (mLst (mCons (mVar 3) (mCons (mCall dTupC (mCons (mFz (mMove 2)) mNil)) mNil))))))))
def f__law_two := runC 6 m__law_two
def m__law_like : MS := (mSeq (mPar2 3 4 (mDat (mFC 0 f__law_take (mCons (mPure (.int 6)) mNil))) (mDat (mFC 0 f__law_take (mCons (mCall dLen (mCons (mVar 1) mNil)) mNil))))
    (mSeq (mSet 2 (mOp dIx (mVar 1) (mVar 4)))
    (mSeq (mIf (mCmp dEq (mVar 3) (mPure (.int 0))) (mRet (mF f__law_with (mCons (mVar 1) (mCons (mVar 4) (mCons (mPure (.int 3)) (mCons (mOp dAdd (mOp dIx (mVar 2) (mPure (.int 3))) (mPure (.int 1))) mNil)))))) mNx)
    (mSeq (mIf (mAnd (mCmp dEq (mVar 3) (mPure (.int 1))) (mCmp dLt (mOp dIx (mVar 2) (mPure (.int 4))) (mPure (.int 12)))) (mRet (mF f__law_with (mCons (mVar 1) (mCons (mVar 4) (mCons (mPure (.int 4)) (mCons (mOp dAdd (mOp dIx (mVar 2) (mPure (.int 4))) (mPure (.int 1))) mNil)))))) mNx)
    (mSeq (mIf (mAnd (mCmp dEq (mVar 3) (mPure (.int 2))) (mCmp dLt (mOp dIx (mVar 2) (mPure (.int 5))) (mPure (.int 12)))) (mRet (mF f__law_with (mCons (mVar 1) (mCons (mVar 4) (mCons (mPure (.int 5)) (mCons (mOp dAdd (mOp dIx (mVar 2) (mPure (.int 5))) (mPure (.int 1))) mNil)))))) mNx)
    (mSeq (mIf (mAnd (mCmp dEq (mVar 3) (mPure (.int 3))) (mCmp dGt (mOp dSub (mOp dIx (mVar 2) (mPure (.int 2))) (mOp dIx (mVar 2) (mPure (.int 1)))) (mPure (.int 1)))) (mSeq (mSet 5 (mOp dAdd (mOp dIx (mVar 2) (mPure (.int 1))) (mPure (.int 1))))
    (mSeq (mSet 6 (mTup (mCons (mOp dAdd (mPure (.str "q")) (mOp dIx (mVar 2) (mPure (.int 0)))) (mCons (mOp dIx (mVar 2) (mPure (.int 1))) (mCons (mVar 5) (mCons (mOp dSub (mOp dAdd (mPure (.int 1)) (mOp dIx (mVar 2) (mPure (.int 3)))) (mOp dSub (mOp dIx (mVar 2) (mPure (.int 2))) (mOp dIx (mVar 2) (mPure (.int 1))))) (mCons (mOp dIx (mVar 2) (mPure (.int 4))) (mCons (mPure (.int 0)) (mCons (mPure (.int 0)) mNil)))))))))
    (mSeq (mSet 7 (mOp dAdd (mTup (mCons (mOp dIx (mVar 2) (mPure (.int 0))) (mCons (mVar 5) (mCons (mOp dIx (mVar 2) (mPure (.int 2))) (mCons (mOp dSub (mOp dIx (mVar 2) (mPure (.int 2))) (mVar 5)) (mCons (mPure (.int 0)) mNil)))))) (mSl (mVar 2) (mPart (mPure (.int 5))) mNoP)))
    (mRet (mOp dAdd (mOp dAdd (mSl (mVar 1) mNoP (mPart (mVar 4))) (mTup (mCons (mVar 6) (mCons (mVar 7) mNil)))) (mSl (mVar 1) (mPart (mOp dAdd (mVar 4) (mPure (.int 1)))) mNoP)))))) mNx)
    (mSeq (mIf (mCmp dEq (mVar 3) (mPure (.int 4))) (mRet (mF f__law_later (mCons (mVar 1) (mCons (mVar 4) (mCons (mPure (.int 1)) mNil))))) mNx)
    (mRet (mVar 1)))))))))
def f__law_like := runC 8 m__law_like
def m__law_backward : MS := (mSeq (mSet 1 (mOp dIx (mOp dIx (mVar 0) (mUn dNeg (mPure (.int 1)))) (mPure (.int 2))))
    (mSeq (mPar2 3 4 (mOwn (mLst mNil)) (mDat (mPure (.int 0))))
    (mSeq (mFor (mRange3 (mCons (mOp dSub (mCall dLen (mCons (mVar 0) mNil)) (mPure (.int 1))) (mCons (mUn dNeg (mPure (.int 1))) (mCons (mUn dNeg (mPure (.int 1))) mNil)))) (gN 2) (mSeq (mSet 5 (mOp dIx (mVar 0) (mVar 2)))
    (mSeq (mSet 4 (mIfE (mCmp dGt (mVar 2) (mPure (.int 0))) (mOp dIx (mOp dIx (mVar 0) (mOp dSub (mVar 2) (mPure (.int 1)))) (mPure (.int 6))) (mPure (.int 0))))
    (mMeth 3 dAppend (mCons (mTup (mCons (mOp dIx (mVar 5) (mPure (.int 0))) (mCons (mOp dSub (mVar 1) (mOp dIx (mVar 5) (mPure (.int 2)))) (mCons (mOp dSub (mVar 1) (mOp dIx (mVar 5) (mPure (.int 1)))) (mCons (mOp dIx (mVar 5) (mPure (.int 3))) (mCons (mOp dIx (mVar 5) (mPure (.int 5))) (mCons (mOp dIx (mVar 5) (mPure (.int 4))) (mCons (mVar 4) mNil)))))))) mNil)))))
    (mRet (mCall dTupC (mCons (mFz (mMove 3)) mNil))))))
def f__law_backward := runF 6 m__law_backward
def m__law_longer : MS := (mRet (mCall dTupC (mCons (mFz (mComp (mItems (mVar 0)) [2] (gN 2) (mPure true) (mOp dAdd (mSl (mVar 2) mNoP (mPart (mPure (.int 1)))) (mCall dTupC (mCons (mFz (mComp (mItems (mSl (mVar 2) (mPart (mPure (.int 1))) mNoP)) [3] (gN 3) (mPure true) (mOp dMulI (mVar 1) (mVar 3)))) mNil))))) mNil)))
def f__law_longer := runF 4 m__law_longer
def m__law_moved : MS := (mSeq (mIf (mCmp dIsNone (mVar 0) (mPure .none)) (mRet (mPure .none)) mNx)
    (mRet (mCall dTupC (mCons (mFz (mComp (mItems (mVar 0)) [2] (gN 2) (mPure true) (mTup (mCons (mOp dAdd (mOp dIx (mVar 2) (mPure (.int 0))) (mVar 1)) (mCons (mOp dAdd (mOp dIx (mVar 2) (mPure (.int 1))) (mVar 1)) mNil))))) mNil))))
def f__law_moved := runF 3 m__law_moved
def m__law_harder : MS := (mSeq (mSet 2 (mFC 0 f__law_take (mCons (mCall dLen (mCons (mVar 1) mNil)) mNil)))
    (mSeq (mPar2 5 6 (mDat (mOp dIx (mVar 1) (mVar 2))) (mOwn (mLst mNil)))
    (mSeq (mMeth 6 dAppend (mCons (mTup (mCons (mF f__law_with (mCons (mVar 1) (mCons (mVar 2) (mCons (mPure (.int 3)) (mCons (mOp dAdd (mOp dAdd (mOp dIx (mVar 5) (mPure (.int 3))) (mPure (.int 1))) (mFC 0 f__law_take (mCons (mPure (.int 9)) mNil))) mNil))))) (mCons (mPure (.bool true)) mNil))) mNil))
    (mSeq (mMeth 6 dAppend (mCons (mTup (mCons (mF f__law_with (mCons (mVar 1) (mCons (mVar 2) (mCons (mPure (.int 4)) (mCons (mFC 0 f__law_take (mCons (mOp dAdd (mOp dIx (mVar 5) (mPure (.int 4))) (mPure (.int 1))) mNil)) mNil))))) (mCons (mPure (.bool true)) mNil))) mNil))
    (mSeq (mMeth 6 dAppend (mCons (mTup (mCons (mF f__law_with (mCons (mVar 1) (mCons (mVar 2) (mCons (mPure (.int 5)) (mCons (mFC 0 f__law_take (mCons (mOp dAdd (mOp dIx (mVar 5) (mPure (.int 5))) (mPure (.int 1))) mNil)) mNil))))) (mCons (mPure (.bool true)) mNil))) mNil))
    (mSeq (mMeth 6 dAppend (mCons (mTup (mCons (mF f__law_with (mCons (mVar 1) (mCons (mVar 2) (mCons (mPure (.int 6)) (mCons (mOp dAdd (mOp dIx (mVar 5) (mPure (.int 6))) (mPure (.int 1))) mNil))))) (mCons (mPure (.bool true)) mNil))) mNil))
    (mSeq (mMeth 6 dAppend (mCons (mIfE (mCmp dGt (mVar 2) (mPure (.int 0))) (mTup (mCons (mF f__law_later (mCons (mVar 1) (mCons (mVar 2) (mCons (mUn dNeg (mPure (.int 1))) mNil)))) (mCons (mPure (.bool true)) mNil))) (mTup (mCons (mVar 1) (mCons (mPure (.bool true)) mNil)))) mNil))
    (mSeq (mSet 3 (mOp dIx (mVar 1) (mUn dNeg (mPure (.int 1)))))
    (mSeq (mSet 4 (mOp dAdd (mOp dAdd (mOp dIx (mVar 3) (mPure (.int 2))) (mOp dIx (mVar 3) (mPure (.int 6)))) (mFC 0 f__law_take (mCons (mPure (.int 4)) mNil))))
    (mSeq (mMeth 6 dAppend (mCons (mTup (mCons (mOp dAdd (mVar 1) (mTup (mCons (mTup (mCons (mPure (.str "zed")) (mCons (mVar 4) (mCons (mOp dAdd (mVar 4) (mPure (.int 2))) (mCons (mOp dAdd (mPure (.int 2)) (mFC 0 f__law_take (mCons (mPure (.int 5)) mNil))) (mCons (mPure (.int 3)) (mCons (mPure (.int 3)) (mCons (mPure (.int 0)) mNil)))))))) mNil))) (mCons (mPure (.bool false)) mNil))) mNil))
    (mSeq (mIf (mCmp dLt (mOp dAdd (mVar 2) (mPure (.int 1))) (mCall dLen (mCons (mVar 1) mNil))) (mSeq (mSet 4 (mOp dAdd (mOp dIx (mVar 5) (mPure (.int 2))) (mOp dIx (mVar 5) (mPure (.int 6)))))
    (mSeq (mSet 7 (mTup (mCons (mPure (.str "zed")) (mCons (mVar 4) (mCons (mOp dAdd (mVar 4) (mPure (.int 1))) (mCons (mOp dAdd (mPure (.int 1)) (mFC 0 f__law_take (mCons (mPure (.int 4)) mNil))) (mCons (mPure (.int 2)) (mCons (mPure (.int 2)) (mCons (mPure (.int 0)) mNil)))))))))
    (mMeth 6 dAppend (mCons (mTup (mCons (mOp dAdd (mOp dAdd (mSl (mVar 1) mNoP (mPart (mOp dAdd (mVar 2) (mPure (.int 1))))) (mTup (mCons (mVar 7) mNil))) (mSl (mVar 1) (mPart (mOp dAdd (mVar 2) (mPure (.int 1)))) mNoP)) (mCons (mPure (.bool false)) mNil))) mNil)))) mNx)
    (mRet (mFz (mMove 6))))))))))))))
def f__law_harder := runC 8 m__law_harder
def m__law_deed : MS := (mSeq (mPar2 4 5 (mDat (mOp dAdd (mFz (mComp (mItems (mVar 1)) [9] (gN 9) (mPure true) (mOp dIx (mVar 9) (mPure (.int 0))))) (mFz (mLst (mCons (mPure (.str "zed")) mNil))))) (mDat (mFC 0 f__law_take (mCons (mPure (.int 16)) mNil))))
    (mSeq (mIf (mCmp dLt (mVar 5) (mPure (.int 8))) (mSeq (mSet 2 (mOp dIx (mFz (mLst (mCons (mPure (.str "ia")) (mCons (mPure (.str "ja")) (mCons (mPure (.str "ka")) (mCons (mPure (.str "la")) (mCons (mPure (.str "ma")) (mCons (mPure (.str "na")) (mCons (mPure (.str "oa")) (mCons (mPure (.str "pa")) (mCons (mPure (.str "qa")) (mCons (mOp dIx (mVar 4) (mPure (.int 0))) mNil)))))))))))) (mFC 0 f__law_take (mCons (mPure (.int 10)) mNil))))
    (mSeq (mPar2 7 8 (mDat (mFC 0 f__law_take (mCons (mOp dIx (mFz (mLst (mCons (mPure (.int 40)) (mCons (mPure (.int 120)) mNil)))) (mFC 0 f__law_take (mCons (mPure (.int 2)) mNil))) mNil))) (mDat (mOp dAdd (mPure (.int 1)) (mFC 0 f__law_take (mCons (mPure (.int 4)) mNil)))))
    (mSeq (mSet 6 (mFz (mLst (mCons (mFC 0 f__law_take (mCons (mPure (.int 13)) mNil)) (mCons (mFC 0 f__law_take (mCons (mPure (.int 13)) mNil)) (mCons (mFC 0 f__law_take (mCons (mPure (.int 3)) mNil)) mNil))))))
    (mRet (mTup (mCons (mPure (.str "come")) (mCons (mOp dAdd (mTup (mCons (mVar 2) (mCons (mVar 7) (mCons (mOp dAdd (mVar 7) (mVar 8)) (mCons (mOp dAdd (mVar 8) (mFC 0 f__law_take (mCons (mPure (.int 12)) mNil))) mNil))))) (mCall dTupC (mCons (mVar 6) mNil))) mNil))))))) mNx)
    (mSeq (mSet 2 (mOp dIx (mVar 4) (mFC 0 f__law_take (mCons (mCall dLen (mCons (mVar 4) mNil)) mNil))))
    (mSeq (mIf (mCmp dLt (mVar 5) (mPure (.int 10))) (mRet (mTup (mCons (mPure (.str "go")) (mCons (mVar 2) mNil)))) mNx)
    (mSeq (mIf (mCmp dLt (mVar 5) (mPure (.int 12))) (mRet (mTup (mCons (mPure (.str "want")) (mCons (mVar 2) (mCons (mOp dIx (mFz (mLst (mCons (mFC 0 f__law_take (mCons (mPure (.int 20)) mNil)) (mCons (mPure (.int 4)) (mCons (mPure (.int 200)) (mCons (mPure (.int 201)) (mCons (mPure (.int 0)) (mCons (mPure (.bool true)) mNil)))))))) (mCall dMax2 (mCons (mPure (.int 0)) (mCons (mOp dSub (mFC 0 f__law_take (mCons (mPure (.int 10)) mNil)) (mPure (.int 4))) mNil)))) mNil))))) mNx)
    (mSeq (mIf (mCmp dLt (mVar 5) (mPure (.int 15))) (mRet (mTup (mCons (mPure (.str "back")) mNil))) mNx)
    (mSeq (mSet 3 (mFz (mLst (mCons (mTup (mCons (mPure (.str "come")) (mCons (mPure .none) mNil))) (mCons (mTup (mCons (mPure (.str "come")) (mCons (mTup (mCons (mPure (.str "x")) (mCons (mPure (.int 3)) (mCons (mPure (.int 3)) (mCons (mPure (.int 1)) (mCons (mPure (.int 0)) (mCons (mPure (.int 0)) (mCons (mPure (.int 0)) mNil)))))))) mNil))) (mCons (mTup (mCons (mPure (.str "go")) (mCons (mPure .none) mNil))) (mCons (mTup (mCons (mPure (.str "want")) (mCons (mPure .none) (mCons (mPure .none) mNil)))) mNil)))))))
    (mRet (mOp dIx (mOp dAdd (mVar 3) (mFz (mLst (mCons (mTup (mCons (mPure (.str "go")) (mCons (mPure (.int 7)) mNil))) (mCons (mTup (mCons (mPure (.str "want")) (mCons (mPure (.str "zed")) (mCons (mPure .none) mNil)))) mNil))))) (mFC 0 f__law_take (mCons (mPure (.int 6)) mNil)))))))))))
def f__law_deed := runC 10 m__law_deed
end Lw

namespace Lw
open PySem DL
local macro_rules | `(tactic| walk_at "ev") => `(tactic| simp only [ok_ok, ok_bind, ok_pure, ok_opt, ok_var, ok_op, ok_opO, ok_un, ok_cmp, ok_B, ok_ite, ok_chain, ok_and, ok_or, ok_not, ok_ifE, ok_tru, ok_andV, ok_orV, ok_notV, ok_nil, ok_cons, ok_tup, ok_lst, ok_fz, ok_isi, ok_call, ok_callO, ok_noP, ok_part, ok_sl, ok_slAt, ok_ixO, ok_lenO, ok_move, ok_seq, ok_nx, ok_if, ok_ret, ok_retO, ok_drop, ok_store, ok_set, ok_setO, ok_asg, ok_dat, ok_own, ok_par2, ok_par3, ok_meth, ok_setIx, ok_extend, ok_frz, ok_cmpO, ok_rep, ok_listRg, ok_F, ok_FO, ok_FC, ok_FS, ok_items, ok_signs, ok_range1, ok_range2, ok_range3, ok_zip, ok_enum, ok_for, ok_comp,
  okO_some, okO_none, okF_ok, okC_ok, slD_dat, slL_own, slL_cel, ixP_own, ixP_cel, ixP_scr, isL_own, isL_cel, isL_scr, lenP_own, lenP_cel, lenP_scr, seqP_nx, seqP_rt, seqP_ro, seqP_ct, seqP_bk, wrS_un, wrS_dat, wrS_own, wrS_scr, okO_gN, okO_gTp, okO_gCons, okO_gNil, chgP_own, chgP_cel, okO_chg, ownB_own, ownB_cel, celP_own, celP_cel, scrP_scr, putSl_eq,
  v_addII, v_addIB, v_addTT, v_addLL, v_addSS, v_catLL, v_sub, v_mul, v_mod, v_div, v_pow, v_neg, v_cmp, v_eqII, v_neII, v_eqSS, v_neSS, v_isNone_n, v_isNone_b, v_isNone_i, v_isNone_s, v_isNone_l, v_isNone_t, v_notNone_n, v_notNone_b, v_notNone_i, v_notNone_s, v_notNone_l, v_notNone_t, v_isBl, v_in, v_notIn, v_inS, v_notInS, v_ixL, v_ixT, v_ixS, v_slL, v_slT, v_revL, v_revT, v_lenL, v_lenT, v_lenS, v_max2, v_min2, v_intB, v_intI, v_tupL, v_tupT, v_listL, v_listT, v_truB, v_truI, v_truN, v_blB, v_int, v_itL, v_itT, v_sig, v_rng1, v_rng2, v_lrg, v_zipL, v_zipT, v_zipTT, ok_lenSet, ok_listZip, sizeLine_eq, Nat.reduceLeDiff, Int.reduceLT, Int.reduceLE, atI0, atI1, atI2, atI3, atI4, atI5, atI6, atI_c, ixN0, ixN1, ixN2, okO_celAt, v_notBlT, v_notBlF, v_notBlG, v_notBlH, Int.reduceEq, Int.reduceNe, Int.cast_ofNat_Int, not_true_eq_false, not_false_eq_true, pow9, pow18, natAbs10, Bool.true_eq_false, cut_1, cut_nn, v_enum, v_app, v_setAt,
  List.getElem?_cons_zero, List.getElem?_cons_succ, List.set_cons_zero, List.set_cons_succ, List.length_cons, List.length_nil, List.map_cons, List.map_nil, envOf, List.cons_append, List.nil_append, List.replicate, wipeE, restE, keepS,
  decide_eq_true_eq, true_and, and_true, if_true, if_false, Bool.false_eq_true, Nat.reduceAdd, Nat.reduceSub, Nat.zero_add, Nat.sub_zero, Bool.not_true, Bool.not_false, Bool.not_eq_true', decide_eq_false_iff_not])
local macro_rules | `(tactic| walk_at "en") => `(tactic| simp only [ok_ok, ok_bind, ok_pure, ok_opt, ok_var, ok_op, ok_opO, ok_un, ok_cmp, ok_B, ok_ite, ok_chain, ok_and, ok_or, ok_not, ok_ifE, ok_tru, ok_andV, ok_orV, ok_notV, ok_nil, ok_cons, ok_tup, ok_lst, ok_fz, ok_isi, ok_call, ok_callO, ok_noP, ok_part, ok_sl, ok_slAt, ok_ixO, ok_lenO, ok_move, ok_seq, ok_nx, ok_if, ok_ret, ok_retO, ok_drop, ok_store, ok_set, ok_setO, ok_asg, ok_dat, ok_own, ok_par2, ok_par3, ok_meth, ok_setIx, ok_extend, ok_frz, ok_cmpO, ok_rep, ok_listRg, ok_F, ok_FO, ok_FC, ok_FS, ok_items, ok_signs, ok_range1, ok_range2, ok_range3, ok_zip, ok_enum, ok_for, ok_comp,
  okO_some, okO_none, okF_ok, okC_ok, slD_dat, slL_own, slL_cel, ixP_own, ixP_cel, ixP_scr, isL_own, isL_cel, isL_scr, lenP_own, lenP_cel, lenP_scr, seqP_nx, seqP_rt, seqP_ro, seqP_ct, seqP_bk, wrS_un, wrS_dat, wrS_own, wrS_scr, okO_gN, okO_gTp, okO_gCons, okO_gNil, chgP_own, chgP_cel, okO_chg, ownB_own, ownB_cel, celP_own, celP_cel, scrP_scr, putSl_eq,
  v_addII, v_addIB, v_addTT, v_addLL, v_addSS, v_catLL, v_sub, v_mul, v_mod, v_div, v_pow, v_neg, v_cmp, v_eqII, v_neII, v_eqSS, v_neSS, v_isNone_n, v_isNone_b, v_isNone_i, v_isNone_s, v_isNone_l, v_isNone_t, v_notNone_n, v_notNone_b, v_notNone_i, v_notNone_s, v_notNone_l, v_notNone_t, v_isBl, v_in, v_notIn, v_inS, v_notInS, v_ixL, v_ixT, v_ixS, v_slL, v_slT, v_revL, v_revT, v_lenL, v_lenT, v_lenS, v_max2, v_min2, v_intB, v_intI, v_tupL, v_tupT, v_listL, v_listT, v_truB, v_truI, v_truN, v_blB, v_int, v_itL, v_itT, v_sig, v_rng1, v_rng2, v_lrg, v_zipL, v_zipT, v_zipTT, ok_lenSet, ok_listZip, sizeLine_eq, Nat.reduceLeDiff, Int.reduceLT, Int.reduceLE, atI0, atI1, atI2, atI3, atI4, atI5, atI6, atI_c, ixN0, ixN1, ixN2, okO_celAt, v_notBlT, v_notBlF, v_notBlG, v_notBlH, Int.reduceEq, Int.reduceNe, Int.cast_ofNat_Int, not_true_eq_false, not_false_eq_true, pow9, pow18, natAbs10, Bool.true_eq_false, cut_1, cut_nn, v_enum, v_app, v_setAt,
  List.getElem?_cons_zero, List.getElem?_cons_succ, List.set_cons_zero, List.set_cons_succ, List.length_cons, List.length_nil, List.map_cons, List.map_nil, envOf, List.cons_append, List.nil_append, List.replicate, wipeE, restE, keepS,
  decide_eq_true_eq, true_and, and_true, if_true, if_false, Bool.false_eq_true, Nat.reduceAdd, Nat.reduceSub, Nat.zero_add, Nat.sub_zero, Bool.not_true, Bool.not_false, Bool.not_eq_true', decide_eq_false_iff_not,
  ok_par2N, ok_nApp, ok_nSet, ok_nIx, ok_frzN, nstB_nst, nstP_nst, onlyN_s, onlyN_z, noN_un, noN_dat, noN_own, noN_cel, noN_scr, allN_cons, allN_nil, Bool.and_true, Bool.true_and, Int.reduceNeg, ok_zipM, v_zipM])
local macro_rules | `(tactic| walk_at "rn") => `(tactic| simp only [ok_ok, ok_bind, ok_pure, ok_opt, ok_var, ok_op, ok_opO, ok_un, ok_cmp, ok_B, ok_ite, ok_chain, ok_and, ok_or, ok_not, ok_ifE, ok_tru, ok_andV, ok_orV, ok_notV, ok_nil, ok_cons, ok_tup, ok_lst, ok_fz, ok_isi, ok_call, ok_callO, ok_noP, ok_part, ok_sl, ok_slAt, ok_ixO, ok_lenO, ok_move, ok_seq, ok_nx, ok_if, ok_ret, ok_retO, ok_drop, ok_store, ok_set, ok_setO, ok_asg, ok_dat, ok_own, ok_par2, ok_par3, ok_meth, ok_setIx, ok_extend, ok_frz, ok_cmpO, ok_rep, ok_listRg, ok_F, ok_FO, ok_FC, ok_FS, ok_items, ok_signs, ok_range1, ok_range2, ok_range3, ok_zip, ok_enum, ok_for, ok_comp,
  okO_some, okO_none, okF_ok, okC_ok, slD_dat, slL_own, slL_cel, ixP_own, ixP_cel, ixP_scr, isL_own, isL_cel, isL_scr, lenP_own, lenP_cel, lenP_scr, seqP_nx, seqP_rt, seqP_ro, seqP_ct, seqP_bk, wrS_un, wrS_dat, wrS_own, wrS_scr, okO_gN, okO_gTp, okO_gCons, okO_gNil, chgP_own, chgP_cel, okO_chg, ownB_own, ownB_cel, celP_own, celP_cel, scrP_scr, putSl_eq,
  v_addII, v_addIB, v_addTT, v_addLL, v_addSS, v_catLL, v_sub, v_mul, v_mod, v_div, v_pow, v_neg, v_cmp, v_eqII, v_neII, v_eqSS, v_neSS, v_isNone_n, v_isNone_b, v_isNone_i, v_isNone_s, v_isNone_l, v_isNone_t, v_notNone_n, v_notNone_b, v_notNone_i, v_notNone_s, v_notNone_l, v_notNone_t, v_isBl, v_in, v_notIn, v_inS, v_notInS, v_ixL, v_ixT, v_ixS, v_slL, v_slT, v_revL, v_revT, v_lenL, v_lenT, v_lenS, v_max2, v_min2, v_intB, v_intI, v_tupL, v_tupT, v_listL, v_listT, v_truB, v_truI, v_truN, v_blB, v_int, v_itL, v_itT, v_sig, v_rng1, v_rng2, v_lrg, v_zipL, v_zipT, v_zipTT, ok_lenSet, ok_listZip, sizeLine_eq, Nat.reduceLeDiff, Int.reduceLT, Int.reduceLE, atI0, atI1, atI2, atI3, atI4, atI5, atI6, atI_c, ixN0, ixN1, ixN2, okO_celAt, v_notBlT, v_notBlF, v_notBlG, v_notBlH, Int.reduceEq, Int.reduceNe, Int.cast_ofNat_Int, not_true_eq_false, not_false_eq_true, pow9, pow18, natAbs10, Bool.true_eq_false, cut_1, cut_nn, v_enum, v_app, v_setAt,
  List.getElem?_cons_zero, List.getElem?_cons_succ, List.set_cons_zero, List.set_cons_succ, List.length_cons, List.length_nil, List.map_cons, List.map_nil, envOf, List.cons_append, List.nil_append, List.replicate, wipeE, restE, keepS,
  decide_eq_true_eq, true_and, and_true, if_true, if_false, Bool.false_eq_true, Nat.reduceAdd, Nat.reduceSub, Nat.zero_add, Nat.sub_zero, Bool.not_true, Bool.not_false, Bool.not_eq_true', decide_eq_false_iff_not,
  ok_par2N, ok_nApp, ok_nSet, ok_nIx, ok_frzN, nstB_nst, nstP_nst, onlyN_s, onlyN_z, noN_un, noN_dat, noN_own, noN_cel, noN_scr, allN_cons, allN_nil, Bool.and_true, Bool.true_and, Int.reduceNeg, ok_zipM, v_zipM, shEarly, shEnd, shBegin, shLate, neEE, neEE2, neBL, neBL2, eq_self, if_neg_f, decide_true, decide_false, Bool.and_false, Bool.false_and])
/-! ## the wells -/
structure WOk (W : List D) : Prop where
  ex : ∃ a s p : Int, W = [.int a, .int s, .int p] ∧ 0 < p ∧ p < 2147483648
theorem take_ok {W : List D} {many : Int} {P : D × List D → Prop} (hW : WOk W) (h1 : 0 < many) (h2 : many < 1073741824) (hP : ∀ r W', 0 ≤ r → r < many → WOk W' → P (.int r, W')) : okC (f__law_take W [.int many]) P := by
  obtain ⟨a, s, p, rfl, hp, hp2⟩ := hW
  unfold f__law_take runC m__law_take
  rw [okC_ret]
  walk_at "ev"
  by_cases h : a > 0
  · rw [if_pos h]
    refine ⟨h1, ⟨h1, h2⟩, hP _ _ (Int.emod_nonneg _ (by omega)) (Int.emod_lt_of_pos _ h1) ⟨_, s, p, rfl, hp, hp2⟩⟩
  · rw [if_neg h]
    have e1 := Int.emod_nonneg (s * 48271) (show p ≠ 0 by omega)
    have e2 := Int.emod_lt_of_pos (s * 48271) hp
    refine ⟨.inr ⟨by decide, by decide⟩, hp, .inl ⟨by omega, by omega⟩, h1, hP _ _ (Int.emod_nonneg _ (by omega)) (Int.emod_lt_of_pos _ h1) ⟨_, _, _, rfl, hp, hp2⟩⟩
theorem cellOf_ok (ns : List Int) {k : Nat} {P : List D → Prop} (hk : (k : Int) < 1073741824) (hP : ∀ W, WOk W → P W) : okF (f__law_well ns [.int k]) P := by
  unfold f__law_well runS m__law_well
  rw [okF_retO]
  walk_at "ev"
  have key : ∀ n : Int, (-2 ^ 64 < n % 2147483489 + 1 ∧ n % 2147483489 + 1 < 2 ^ 64 ∨ -2 ^ 64 < 48271 + 2 * (k : Int) ∧ 48271 + 2 * (k : Int) < 2 ^ 64) := fun n => .inr ⟨by omega, by omega⟩
  have key2 : ∀ n : Int, 0 ≤ n % 2147483489 ∧ n % 2147483489 < 2147483489 := fun n => ⟨Int.emod_nonneg _ (by omega), Int.emod_lt_of_pos _ (by omega)⟩
  have key3 : ∀ (Q : D → Prop), (∀ c, 2147483497 ≤ c → c ≤ 2147483647 → Q (.int c)) → okO (L2.atI [PyData.int 2147483647, PyData.int 2147483629, PyData.int 2147483587, PyData.int 2147483579, PyData.int 2147483563, PyData.int 2147483549, PyData.int 2147483543, PyData.int 2147483497] ((k : Int) % 8)) Q := fun Q h =>
    atI_rng (xs := [2147483647, 2147483629, 2147483587, 2147483579, 2147483563, 2147483549, 2147483543, 2147483497]) (lo := 2147483497) (hi := 2147483647) (Int.emod_nonneg _ (by omega)) (Int.emod_lt_of_pos _ (by decide)) (by decide) h
  by_cases hk2 : (k : Int) < (ns.length : Int)
  · rw [if_pos hk2, List.getElem?_eq_getElem (by omega)]
    refine ⟨.inl ⟨by omega, by omega⟩, key _, .inl ?_, ?_⟩
    · have := key2 ((ns[k] % 2147483489 + 1) * (48271 + 2 * (k : Int)))
      exact ⟨by omega, by omega⟩
    · split
      · exact key3 _ fun c c1 c2 => hP _ ⟨_, _, _, rfl, by omega, by omega⟩
      · exact key3 _ fun c c1 c2 => hP _ ⟨_, _, _, rfl, by omega, by omega⟩
  · rw [if_neg hk2]
    refine ⟨.inl ⟨by omega, by omega⟩, key _, .inl ?_, ?_⟩
    · have := key2 ((0 % 2147483489 + 1) * (48271 + 2 * (k : Int)))
      exact ⟨by omega, by omega⟩
    · exact key3 _ fun c c1 c2 => hP _ ⟨_, _, _, rfl, by omega, by omega⟩
/-! ## acts -/
structure Act where
  n : Str
  b : Int
  e : Int
  w : Int
  ea : Int
  la : Int
  ch : Int
def actD (a : Act) : D := .tuple [.str a.n, .int a.b, .int a.e, .int a.w, .int a.ea, .int a.la, .int a.ch]
def evD (E : List Act) : D := .tuple (E.map actD)
structure NmOk (x : Str) : Prop where
  lo : 1 ≤ x.length
  hi : x.length ≤ 8
  sg : ∀ c ∈ x.cps.toList, c ∈ ("abcdefghijklmnopqrstuvwxyz" : Str).cps.toList
structure AOk (a : Act) : Prop where
  n : NmOk a.n
  b : 0 ≤ a.b ∧ a.b < a.e ∧ a.e ≤ 300
  w : a.e - a.b ≤ a.w ∧ a.w ≤ 200
  ea : 0 ≤ a.ea ∧ a.ea ≤ 12
  la : 0 ≤ a.la ∧ a.la ≤ 12
  ch : 0 ≤ a.ch ∧ a.ch ≤ 20
/-- acts that follow one another, from a moment on -/
def Fol : Int → List Act → Prop
  | _, [] => True
  | r, a :: E => r ≤ a.b ∧ Fol (a.e + a.ch) E
def endF : Int → List Act → Int
  | r, [] => r
  | _, a :: E => endF (a.e + a.ch) E
theorem fol_snoc {a : Act} : ∀ {r : Int} {E : List Act}, Fol r (E ++ [a]) ↔ Fol r E ∧ endF r E ≤ a.b
  | r, [] => by simp [Fol, endF]
  | r, x :: E => by simp [Fol, endF, fol_snoc, and_assoc]
theorem endF_snoc {a : Act} : ∀ {r : Int} {E : List Act}, endF r (E ++ [a]) = a.e + a.ch
  | r, [] => rfl
  | r, x :: E => endF_snoc (E := E)
structure EvOk (E : List Act) : Prop where
  lo : 1 ≤ E.length
  hi : E.length ≤ 8
  act : ∀ a ∈ E, AOk a
  nd : (E.map Act.n).Nodup
  fol : Fol 0 E
/-- what the laws draw -/
structure Drawn (most wide : Int) (E : List Act) : Prop where
  ok : EvOk E
  len : (E.length : Int) ≤ most
  ea : ∀ a ∈ E, a.ea ≤ wide ∧ a.la ≤ wide
  bd : ∀ a ∈ E, a.e ≤ 231 ∧ a.w ≤ 27 ∧ a.ch ≤ 6
def names8 : List Str := ["al", "bo", "cy", "di", "ed", "fay", "gus", "hal"]
theorem names8_ok : ∀ x ∈ names8, NmOk x := by
  intro x hx
  have : (names8.all fun x => decide (1 ≤ x.length) && decide (x.length ≤ 8) && x.cps.toList.all fun c => decide (c ∈ ("abcdefghijklmnopqrstuvwxyz" : Str).cps.toList)) = true := by decide +kernel
  have := List.all_eq_true.mp this x hx
  simp only [Bool.and_eq_true, decide_eq_true_eq, List.all_eq_true] at this
  exact ⟨this.1.1, this.1.2, this.2⟩
theorem names8_nd : names8.Nodup := by decide +kernel
theorem evening_ok {W : List D} {most wide : Int} {P : D × List D → Prop} (hW : WOk W) (hm : 1 ≤ most ∧ most ≤ 8) (hw : 0 ≤ wide ∧ wide ≤ 12) (hP : ∀ E W', Drawn most wide E → WOk W' → P (evD E, W')) :
    okC (f__law_evening W [.int most, .int wide]) P := by
  unfold f__law_evening runC m__law_evening
  rw [okC_ret]
  walk_at "ev"
  refine take_ok hW (by omega) (by omega) fun r1 W1 a1 a2 hW1 => take_ok hW1 (by omega) (by omega) fun r2 W2 b1 b2 hW2 => take_ok hW2 (by omega) (by omega) fun r3 W3 c1 c2 hW3 => ?_
  walk_at "ev"
  rw [cut_hi _ (by omega)]
  have hds : ([PyData.str "al", .str "bo", .str "cy", .str "di", .str "ed", .str "fay", .str "gus", .str "hal"] : List D) = names8.map .str := rfl
  rw [hds, ← List.map_take]
  refine forL_inv (fun i e => ∃ W' s4 at_ s7 s8 s9 s10 E, WOk W' ∧ e = [.cel W', .dat (.int most), .dat (.int wide), .dat (.int r2), s4, .own (E.map actD), .dat (.int at_), s7, s8, s9, s10] ∧ E.length = i ∧ E.map Act.n = names8.take i ∧
    wrS (some s4) = true ∧ wrS (some s7) = true ∧ wrS (some s8) = true ∧ wrS (some s9) = true ∧ wrS (some s10) = true ∧ (∀ a ∈ E, AOk a ∧ a.ea ≤ wide ∧ a.la ≤ wide ∧ a.e ≤ 231 ∧ a.w ≤ 27 ∧ a.ch ≤ 6) ∧ Fol 0 E ∧ endF 0 E ≤ at_ ∧ 0 ≤ at_ ∧ at_ ≤ 29 + 26 * (i : Int)) ?_ ?_ ?_
  · exact ⟨W3, _, r1, _, _, _, _, [], hW3, rfl, rfl, rfl, rfl, rfl, rfl, rfl, rfl, by simp, trivial, a1, a1, by omega⟩
  · rintro i d e hd ⟨W', s4, at_, s7, s8, s9, s10, E, hW', rfl, hl, hn, q4, q7, q8, q9, q10, hE, hf, he, ha0, ha⟩
    rw [List.getElem?_map] at hd
    obtain ⟨x, hx, rfl⟩ := Option.map_eq_some_iff.mp hd
    have hi : i < 8 := by
      have := (List.getElem?_eq_some_iff.mp hx).1
      rw [List.length_take] at this
      exact Nat.lt_of_lt_of_le this (Nat.min_le_right _ _)
    have hx8 : names8[i]? = some x := by
      rw [List.getElem?_take] at hx
      split at hx
      · exact hx
      · cases hx
    have xok := names8_ok x (List.mem_of_getElem? hx8)
    walk_at "ev"
    simp only [q4, q7, q8, q9, q10, true_and]
    refine take_ok hW' (by omega) (by omega) fun u1 W1 e1 e2 h1 => ?_
    walk_at "ev"
    refine atI_rng (xs := [2, 5, 9]) (lo := 1) (hi := 9) e1 e2 (by decide) fun m1 _ _ => take_ok h1 (by omega) (by omega) fun u2 W2 f1 f2 h2 => ?_
    walk_at "ev"
    refine take_ok h2 (by omega) (by omega) fun u3 W3 g1 g2 h3 => ?_
    walk_at "ev"
    refine atI_rng (xs := [2, 6, 12]) (lo := 1) (hi := 12) g1 g2 (by decide) fun m2 _ _ => take_ok h3 (by omega) (by omega) fun u4 W4 i1 i2 h4 => ?_
    walk_at "ev"
    refine atI_rng (xs := [4, 9, 16]) (lo := 1) (hi := 16) b1 b2 (by decide) fun m3 _ _ => take_ok h4 (by omega) (by omega) fun u5 W5 j1 j2 h5 => ?_
    walk_at "ev"
    refine take_ok h5 (by omega) (by omega) fun u6 W6 k1 k2 h6 => ?_
    walk_at "ev"
    refine atI_rng (xs := [1, 3, 7]) (lo := 1) (hi := 7) k1 k2 (by decide) fun m4 _ _ => take_ok h6 (by omega) (by omega) fun u7 W7 l1 l2 h7 => take_ok h7 (by omega) (by omega) fun u8 W8 n1 n2 h8 => take_ok h8 (by omega) (by omega) fun u9 W9 o1 o2 h9 => ?_
    walk_at "ev"
    refine ⟨by rw [List.length_map]; omega, W9, _, _, _, _, _, _, E ++ [⟨x, at_ + u2, at_ + u2 + 1 + u4, at_ + u2 + 1 + u4 - (at_ + u2) + u5, u8, u9, u7⟩], h9, by rw [List.map_append]; rfl, by simp [hl], ?_, rfl, rfl, rfl, rfl, rfl, ?_, ?_, ?_, ?_, ?_⟩
    · rw [List.map_append, hn, List.take_succ, hx8]; rfl
    · intro a ha'
      rcases List.mem_append.mp ha' with h | h
      · exact hE a h
      · obtain rfl := List.mem_singleton.mp h
        exact ⟨⟨xok, by dsimp only; omega, by dsimp only; omega, by dsimp only; omega, by dsimp only; omega, by dsimp only; omega⟩, by dsimp only; omega⟩
    · exact fol_snoc.mpr ⟨hf, by dsimp only; omega⟩
    · rw [endF_snoc]; exact Int.le_refl _
    · omega
    · omega
  · rintro e ⟨W', s4, at_, s7, s8, s9, s10, E, hW', rfl, hl, hn, q4, q7, q8, q9, q10, hE, hf, he, ha0, ha⟩
    walk_at "ev"
    have hlen : E.length = (1 + r3).toNat := by rw [hl, List.length_map, List.length_take]; exact Nat.min_eq_left (by show _ ≤ 8; omega)
    refine hP E W' ⟨⟨by omega, by omega, fun a h => (hE a h).1, ?_, hf⟩, by omega, fun a h => ⟨(hE a h).2.1, (hE a h).2.2.1⟩, fun a h => (hE a h).2.2.2⟩ hW'
    rw [hn]
    exact List.Nodup.sublist (List.take_sublist _ _) names8_nd
end Lw

namespace Lw
open PySem DL
local macro_rules | `(tactic| walk_at "ev") => `(tactic| simp only [ok_ok, ok_bind, ok_pure, ok_opt, ok_var, ok_op, ok_opO, ok_un, ok_cmp, ok_B, ok_ite, ok_chain, ok_and, ok_or, ok_not, ok_ifE, ok_tru, ok_andV, ok_orV, ok_notV, ok_nil, ok_cons, ok_tup, ok_lst, ok_fz, ok_isi, ok_call, ok_callO, ok_noP, ok_part, ok_sl, ok_slAt, ok_ixO, ok_lenO, ok_move, ok_seq, ok_nx, ok_if, ok_ret, ok_retO, ok_drop, ok_store, ok_set, ok_setO, ok_asg, ok_dat, ok_own, ok_par2, ok_par3, ok_meth, ok_setIx, ok_extend, ok_frz, ok_cmpO, ok_rep, ok_listRg, ok_F, ok_FO, ok_FC, ok_FS, ok_items, ok_signs, ok_range1, ok_range2, ok_range3, ok_zip, ok_enum, ok_for, ok_comp,
  okO_some, okO_none, okF_ok, okC_ok, slD_dat, slL_own, slL_cel, ixP_own, ixP_cel, ixP_scr, isL_own, isL_cel, isL_scr, lenP_own, lenP_cel, lenP_scr, seqP_nx, seqP_rt, seqP_ro, seqP_ct, seqP_bk, wrS_un, wrS_dat, wrS_own, wrS_scr, okO_gN, okO_gTp, okO_gCons, okO_gNil, chgP_own, chgP_cel, okO_chg, ownB_own, ownB_cel, celP_own, celP_cel, scrP_scr, putSl_eq,
  v_addII, v_addIB, v_addTT, v_addLL, v_addSS, v_catLL, v_sub, v_mul, v_mod, v_div, v_pow, v_neg, v_cmp, v_eqII, v_neII, v_eqSS, v_neSS, v_isNone_n, v_isNone_b, v_isNone_i, v_isNone_s, v_isNone_l, v_isNone_t, v_notNone_n, v_notNone_b, v_notNone_i, v_notNone_s, v_notNone_l, v_notNone_t, v_isBl, v_in, v_notIn, v_inS, v_notInS, v_ixL, v_ixT, v_ixS, v_slL, v_slT, v_revL, v_revT, v_lenL, v_lenT, v_lenS, v_max2, v_min2, v_intB, v_intI, v_tupL, v_tupT, v_listL, v_listT, v_truB, v_truI, v_truN, v_blB, v_int, v_itL, v_itT, v_sig, v_rng1, v_rng2, v_lrg, v_zipL, v_zipT, v_zipTT, ok_lenSet, ok_listZip, sizeLine_eq, Nat.reduceLeDiff, Int.reduceLT, Int.reduceLE, atI0, atI1, atI2, atI3, atI4, atI5, atI6, atI_c, ixN0, ixN1, ixN2, okO_celAt, v_notBlT, v_notBlF, v_notBlG, v_notBlH, Int.reduceEq, Int.reduceNe, Int.cast_ofNat_Int, not_true_eq_false, not_false_eq_true, pow9, pow18, natAbs10, Bool.true_eq_false, cut_1, cut_nn, v_enum, v_app, v_setAt,
  List.getElem?_cons_zero, List.getElem?_cons_succ, List.set_cons_zero, List.set_cons_succ, List.length_cons, List.length_nil, List.map_cons, List.map_nil, envOf, List.cons_append, List.nil_append, List.replicate, wipeE, restE, keepS,
  decide_eq_true_eq, true_and, and_true, if_true, if_false, Bool.false_eq_true, Nat.reduceAdd, Nat.reduceSub, Nat.zero_add, Nat.sub_zero, Bool.not_true, Bool.not_false, Bool.not_eq_true', decide_eq_false_iff_not])
local macro_rules | `(tactic| walk_at "en") => `(tactic| simp only [ok_ok, ok_bind, ok_pure, ok_opt, ok_var, ok_op, ok_opO, ok_un, ok_cmp, ok_B, ok_ite, ok_chain, ok_and, ok_or, ok_not, ok_ifE, ok_tru, ok_andV, ok_orV, ok_notV, ok_nil, ok_cons, ok_tup, ok_lst, ok_fz, ok_isi, ok_call, ok_callO, ok_noP, ok_part, ok_sl, ok_slAt, ok_ixO, ok_lenO, ok_move, ok_seq, ok_nx, ok_if, ok_ret, ok_retO, ok_drop, ok_store, ok_set, ok_setO, ok_asg, ok_dat, ok_own, ok_par2, ok_par3, ok_meth, ok_setIx, ok_extend, ok_frz, ok_cmpO, ok_rep, ok_listRg, ok_F, ok_FO, ok_FC, ok_FS, ok_items, ok_signs, ok_range1, ok_range2, ok_range3, ok_zip, ok_enum, ok_for, ok_comp,
  okO_some, okO_none, okF_ok, okC_ok, slD_dat, slL_own, slL_cel, ixP_own, ixP_cel, ixP_scr, isL_own, isL_cel, isL_scr, lenP_own, lenP_cel, lenP_scr, seqP_nx, seqP_rt, seqP_ro, seqP_ct, seqP_bk, wrS_un, wrS_dat, wrS_own, wrS_scr, okO_gN, okO_gTp, okO_gCons, okO_gNil, chgP_own, chgP_cel, okO_chg, ownB_own, ownB_cel, celP_own, celP_cel, scrP_scr, putSl_eq,
  v_addII, v_addIB, v_addTT, v_addLL, v_addSS, v_catLL, v_sub, v_mul, v_mod, v_div, v_pow, v_neg, v_cmp, v_eqII, v_neII, v_eqSS, v_neSS, v_isNone_n, v_isNone_b, v_isNone_i, v_isNone_s, v_isNone_l, v_isNone_t, v_notNone_n, v_notNone_b, v_notNone_i, v_notNone_s, v_notNone_l, v_notNone_t, v_isBl, v_in, v_notIn, v_inS, v_notInS, v_ixL, v_ixT, v_ixS, v_slL, v_slT, v_revL, v_revT, v_lenL, v_lenT, v_lenS, v_max2, v_min2, v_intB, v_intI, v_tupL, v_tupT, v_listL, v_listT, v_truB, v_truI, v_truN, v_blB, v_int, v_itL, v_itT, v_sig, v_rng1, v_rng2, v_lrg, v_zipL, v_zipT, v_zipTT, ok_lenSet, ok_listZip, sizeLine_eq, Nat.reduceLeDiff, Int.reduceLT, Int.reduceLE, atI0, atI1, atI2, atI3, atI4, atI5, atI6, atI_c, ixN0, ixN1, ixN2, okO_celAt, v_notBlT, v_notBlF, v_notBlG, v_notBlH, Int.reduceEq, Int.reduceNe, Int.cast_ofNat_Int, not_true_eq_false, not_false_eq_true, pow9, pow18, natAbs10, Bool.true_eq_false, cut_1, cut_nn, v_enum, v_app, v_setAt,
  List.getElem?_cons_zero, List.getElem?_cons_succ, List.set_cons_zero, List.set_cons_succ, List.length_cons, List.length_nil, List.map_cons, List.map_nil, envOf, List.cons_append, List.nil_append, List.replicate, wipeE, restE, keepS,
  decide_eq_true_eq, true_and, and_true, if_true, if_false, Bool.false_eq_true, Nat.reduceAdd, Nat.reduceSub, Nat.zero_add, Nat.sub_zero, Bool.not_true, Bool.not_false, Bool.not_eq_true', decide_eq_false_iff_not,
  ok_par2N, ok_nApp, ok_nSet, ok_nIx, ok_frzN, nstB_nst, nstP_nst, onlyN_s, onlyN_z, noN_un, noN_dat, noN_own, noN_cel, noN_scr, allN_cons, allN_nil, Bool.and_true, Bool.true_and, Int.reduceNeg, ok_zipM, v_zipM])
local macro_rules | `(tactic| walk_at "rn") => `(tactic| simp only [ok_ok, ok_bind, ok_pure, ok_opt, ok_var, ok_op, ok_opO, ok_un, ok_cmp, ok_B, ok_ite, ok_chain, ok_and, ok_or, ok_not, ok_ifE, ok_tru, ok_andV, ok_orV, ok_notV, ok_nil, ok_cons, ok_tup, ok_lst, ok_fz, ok_isi, ok_call, ok_callO, ok_noP, ok_part, ok_sl, ok_slAt, ok_ixO, ok_lenO, ok_move, ok_seq, ok_nx, ok_if, ok_ret, ok_retO, ok_drop, ok_store, ok_set, ok_setO, ok_asg, ok_dat, ok_own, ok_par2, ok_par3, ok_meth, ok_setIx, ok_extend, ok_frz, ok_cmpO, ok_rep, ok_listRg, ok_F, ok_FO, ok_FC, ok_FS, ok_items, ok_signs, ok_range1, ok_range2, ok_range3, ok_zip, ok_enum, ok_for, ok_comp,
  okO_some, okO_none, okF_ok, okC_ok, slD_dat, slL_own, slL_cel, ixP_own, ixP_cel, ixP_scr, isL_own, isL_cel, isL_scr, lenP_own, lenP_cel, lenP_scr, seqP_nx, seqP_rt, seqP_ro, seqP_ct, seqP_bk, wrS_un, wrS_dat, wrS_own, wrS_scr, okO_gN, okO_gTp, okO_gCons, okO_gNil, chgP_own, chgP_cel, okO_chg, ownB_own, ownB_cel, celP_own, celP_cel, scrP_scr, putSl_eq,
  v_addII, v_addIB, v_addTT, v_addLL, v_addSS, v_catLL, v_sub, v_mul, v_mod, v_div, v_pow, v_neg, v_cmp, v_eqII, v_neII, v_eqSS, v_neSS, v_isNone_n, v_isNone_b, v_isNone_i, v_isNone_s, v_isNone_l, v_isNone_t, v_notNone_n, v_notNone_b, v_notNone_i, v_notNone_s, v_notNone_l, v_notNone_t, v_isBl, v_in, v_notIn, v_inS, v_notInS, v_ixL, v_ixT, v_ixS, v_slL, v_slT, v_revL, v_revT, v_lenL, v_lenT, v_lenS, v_max2, v_min2, v_intB, v_intI, v_tupL, v_tupT, v_listL, v_listT, v_truB, v_truI, v_truN, v_blB, v_int, v_itL, v_itT, v_sig, v_rng1, v_rng2, v_lrg, v_zipL, v_zipT, v_zipTT, ok_lenSet, ok_listZip, sizeLine_eq, Nat.reduceLeDiff, Int.reduceLT, Int.reduceLE, atI0, atI1, atI2, atI3, atI4, atI5, atI6, atI_c, ixN0, ixN1, ixN2, okO_celAt, v_notBlT, v_notBlF, v_notBlG, v_notBlH, Int.reduceEq, Int.reduceNe, Int.cast_ofNat_Int, not_true_eq_false, not_false_eq_true, pow9, pow18, natAbs10, Bool.true_eq_false, cut_1, cut_nn, v_enum, v_app, v_setAt,
  List.getElem?_cons_zero, List.getElem?_cons_succ, List.set_cons_zero, List.set_cons_succ, List.length_cons, List.length_nil, List.map_cons, List.map_nil, envOf, List.cons_append, List.nil_append, List.replicate, wipeE, restE, keepS,
  decide_eq_true_eq, true_and, and_true, if_true, if_false, Bool.false_eq_true, Nat.reduceAdd, Nat.reduceSub, Nat.zero_add, Nat.sub_zero, Bool.not_true, Bool.not_false, Bool.not_eq_true', decide_eq_false_iff_not,
  ok_par2N, ok_nApp, ok_nSet, ok_nIx, ok_frzN, nstB_nst, nstP_nst, onlyN_s, onlyN_z, noN_un, noN_dat, noN_own, noN_cel, noN_scr, allN_cons, allN_nil, Bool.and_true, Bool.true_and, Int.reduceNeg, ok_zipM, v_zipM, shEarly, shEnd, shBegin, shLate, neEE, neEE2, neBL, neBL2, eq_self, if_neg_f, decide_true, decide_false, Bool.and_false, Bool.false_and])
/-! ## what is an evening -/
theorem isiB_int (d : D) : isiB "int" d = match d with | .int _ => true | .bool _ => true | _ => false := by cases d <;> rfl
theorem isiB_bool (d : D) : isiB "bool" d = match d with | .bool _ => true | _ => false := by cases d <;> rfl
theorem isiB_str (d : D) : isiB "str" d = match d with | .str _ => true | _ => false := by cases d <;> rfl
theorem isiB_tup (d : D) : isiB "tuple" d = match d with | .tuple _ => true | _ => false := by cases d <;> rfl
def isW (d : D) (lo hi : Int) : Bool := match d with
  | .int i => decide (lo ≤ i) && decide (i ≤ hi)
  | _ => false
theorem is_whole_ok (d : D) (lo hi : Int) : f_is_whole [d, .int lo, .int hi] = .ok (.bool (isW d lo hi)) := by
  refine okF_eq ?_
  unfold f_is_whole runF m_is_whole
  rw [okF_ret]
  walk_at "ev"
  cases d <;> simp only [isiB_int, isiB_bool, isW]
  all_goals (walk_at "ev"; try rfl)
  split <;> simp [*]
theorem w_whole {d : D} {lo hi : Int} {P : D → Prop} : okF (f_is_whole [d, .int lo, .int hi]) P = P (.bool (isW d lo hi)) := by rw [is_whole_ok]; rfl
def letters : Str := "abcdefghijklmnopqrstuvwxyz"
def nmB (d : D) : Bool := match d with
  | .str x => decide (1 ≤ x.length) && (decide (x.length ≤ 8) && x.cps.toList.all fun c => decide (c ∈ letters.cps.toList))
  | _ => false
/-- texts that are not too long -/
def SmS (d : D) : Prop := ∀ x, d = .str x → x.length ≤ sizeLine
theorem is_name_ok (d : D) (hs : SmS d) : f_is_name [d] = .ok (.bool (nmB d)) := by
  refine okF_eq ?_
  unfold f_is_name runF m_is_name
  rw [okF_ret]
  walk_at "ev"
  cases d <;> simp only [isiB_str, nmB]
  all_goals (walk_at "ev"; try rfl)
  rename_i x
  have hx : x.length ≤ sizeLine := hs x rfl
  refine ⟨by rw [sizeLine_eq] at hx; exact hx, ?_⟩
  by_cases h1 : (1 : Int) ≤ x.length
  · rw [if_pos h1]
    by_cases h2 : (x.length : Int) ≤ 8
    · rw [if_pos h2]
      refine compA1 x.cps.toList _ (fun c => .bool (decide (c ∈ letters.cps.toList))) hx rfl (fun c hc => ?_) ?_
      · walk_at "ev"
        first | exact rfl | exact ⟨rfl, rfl⟩
      · rw [v_allm]
        have a1 : 1 ≤ x.length := by omega
        have a2 : x.length ≤ 8 := by omega
        simp [a1, a2]
    · have a2 : ¬ x.length ≤ 8 := by omega
      simp [h2, a2]
  · have a2 : ¬ 1 ≤ x.length := by omega
    simp [h1, a2]

theorem w_name {d : D} {P : D → Prop} (hs : SmS d) : okF (f_is_name [d]) P = P (.bool (nmB d)) := by rw [is_name_ok d hs]; rfl
def actB (d : D) : Bool := match d with
  | .tuple [n, .int b, .int e, .int w, ea, la, ch] => nmB n && (isW (.int b) 0 300 && (isW (.int e) (b + 1) 300 && (isW (.int w) (e - b) 200 && (isW ch 0 20 && (isW ea 0 12 && isW la 0 12)))))
  | _ => false
theorem isW_iff {d : D} {lo hi : Int} : isW d lo hi = true ↔ ∃ i, d = .int i ∧ lo ≤ i ∧ i ≤ hi := by
  cases d <;> simp [isW]
theorem nmB_iff {d : D} : nmB d = true ↔ ∃ x, d = .str x ∧ NmOk x := by
  cases d with
  | str x =>
    simp only [nmB, Bool.and_eq_true, decide_eq_true_eq, List.all_eq_true]
    exact ⟨fun ⟨a, b, c⟩ => ⟨x, rfl, a, b, c⟩, fun ⟨y, e, h⟩ => by cases e; exact ⟨h.lo, h.hi, h.sg⟩⟩
  | _ => simp [nmB]
theorem actB_iff {d : D} : actB d = true ↔ ∃ a, d = actD a ∧ AOk a := by
  constructor
  · intro h
    unfold actB at h
    split at h
    · rename_i n b e w ea la ch
      simp only [Bool.and_eq_true, nmB_iff, isW_iff] at h
      obtain ⟨⟨x, rfl, hx⟩, ⟨_, e1, h1, h2⟩, ⟨_, e2, h3, h4⟩, ⟨_, e3, h5, h6⟩, ⟨c, rfl, h7, h8⟩, ⟨ea, rfl, h9, h10⟩, la, rfl, h11, h12⟩ := h
      cases e1; cases e2; cases e3
      exact ⟨⟨x, b, e, w, ea, la, c⟩, rfl, hx, by dsimp only; omega, by dsimp only; omega, by dsimp only; omega, by dsimp only; omega, by dsimp only; omega⟩
    · cases h
  · rintro ⟨a, rfl, h⟩
    obtain ⟨h0, h1, h2, h3, h4, h5⟩ := h
    simp only [actB, actD, Bool.and_eq_true, nmB_iff, isW_iff]
    exact ⟨⟨_, rfl, h0⟩, ⟨_, rfl, by omega, by omega⟩, ⟨_, rfl, by omega, by omega⟩, ⟨_, rfl, by omega, by omega⟩, ⟨_, rfl, by omega, by omega⟩, ⟨_, rfl, by omega, by omega⟩, ⟨_, rfl, by omega, by omega⟩⟩
/-- things whose texts are not too long, as deep as is looked -/
def SmA (d : D) : Prop := ∀ xs, d = .tuple xs → xs.length ≤ sizeLine ∧ ∀ x ∈ xs, SmS x
theorem is_act_ok (d : D) (hs : SmA d) : f_is_act [d] = .ok (.bool (actB d)) := by
  refine okF_eq ?_
  unfold f_is_act runF m_is_act
  rw [okF_ret]
  walk_at "ev"
  cases d with
  | tuple xs =>
    obtain ⟨hl, hx⟩ := hs xs rfl
    simp only [isiB_tup]
    walk_at "ev"
    by_cases h7 : xs.length = 7
    · obtain ⟨x0, x1, x2, x3, x4, x5, x6, rfl⟩ : ∃ x0 x1 x2 x3 x4 x5 x6, xs = [x0, x1, x2, x3, x4, x5, x6] := by
        match xs, h7 with
        | [x0, x1, x2, x3, x4, x5, x6], _ => exact ⟨x0, x1, x2, x3, x4, x5, x6, rfl⟩
      have s0 : SmS x0 := hx x0 (by simp)
      rw [if_neg (fun h => h (by rw [h7]; rfl))]
      walk_at "ev"
      rw [w_name s0]
      walk_at "ev"
      by_cases n0 : nmB x0 = true
      · rw [n0, if_neg (by decide), w_whole]
        walk_at "ev"
        by_cases n1 : isW x1 0 300 = true
        · rw [n1, if_neg (by decide)]
          obtain ⟨b, rfl, hb⟩ := isW_iff.mp n1
          walk_at "ev"
          rw [w_whole]
          walk_at "ev"
          by_cases n2 : isW x2 (b + 1) 300 = true
          · rw [n2, if_neg (by decide)]
            obtain ⟨e, rfl, he⟩ := isW_iff.mp n2
            walk_at "ev"
            rw [w_whole]
            walk_at "ev"
            by_cases n3 : isW x3 (e - b) 200 = true
            · obtain ⟨w, rfl, hw⟩ := isW_iff.mp n3
              rw [n3, if_neg (by decide), w_whole]
              walk_at "ev"
              simp only [w_whole]
              walk_at "ev"
              simp only [actB, n0, n1, n2, n3, Bool.true_and]
              cases isW x6 0 20 <;> cases isW x4 0 12 <;> rfl
            · rw [Bool.eq_false_iff.mpr n3, if_pos rfl]
              cases x3 <;> simp [actB, n3]
          · rw [Bool.eq_false_iff.mpr n2, if_pos rfl]
            cases x2 <;> cases x3 <;> simp [actB, n2]
        · rw [Bool.eq_false_iff.mpr n1, if_pos rfl]
          cases x1 <;> cases x2 <;> cases x3 <;> simp [actB, n1]
      · rw [Bool.eq_false_iff.mpr n0, if_pos rfl]
        cases x1 <;> cases x2 <;> cases x3 <;> simp [actB, n0]
    · rw [if_pos (by omega)]
      unfold actB
      split
      · rename_i heq; cases heq; exact absurd rfl h7
      · rfl
  | _ =>
    simp only [isiB_tup]
    walk_at "ev"
    try rfl

theorem w_act {d : D} {P : D → Prop} (hs : SmA d) : okF (f_is_act [d]) P = P (.bool (actB d)) := by rw [is_act_ok d hs]; rfl
theorem smA_act {a : Act} (h : NmOk a.n) : SmA (actD a) := by
  intro xs e
  cases e
  refine ⟨by rw [sizeLine_eq]; simp, fun x hx => ?_⟩
  intro y ey
  simp only [List.mem_cons, List.not_mem_nil, or_false] at hx
  subst ey
  rcases hx with h1 | h1 | h1 | h1 | h1 | h1 | h1
  · cases h1; have := h.hi; rw [sizeLine_eq]; omega
  all_goals cases h1
def pairsUp {α : Type} : List α → List (α × α)
  | a :: b :: r => (a, b) :: pairsUp (b :: r)
  | _ => []
theorem zip_tail {α : Type} : ∀ l : List α, l.zip (l.drop 1) = pairsUp l
  | [] => rfl
  | [a] => rfl
  | a :: b :: r => by
    have := zip_tail (b :: r)
    simp only [List.drop_succ_cons, List.drop_zero] at this ⊢
    rw [List.zip_cons_cons, this]; rfl
theorem zipD_map {α β : Type} (f : α → D) (g : β → D) : ∀ (xs : List α) (ys : List β), zipD (xs.map f) (ys.map g) = (xs.zip ys).map fun p => .tuple [f p.1, g p.2]
  | [], _ => rfl
  | _ :: _, [] => rfl
  | x :: xs, y :: ys => by
    have := zipD_map f g xs ys
    show _ :: zipD (xs.map f) (ys.map g) = _
    rw [this]; rfl
theorem zipD_tail {α : Type} (f : α → D) (xs : List α) : zipD (xs.map f) ((xs.map f).drop 1) = (pairsUp xs).map fun p => .tuple [f p.1, f p.2] := by
  rw [← List.map_drop, zipD_map, zip_tail]
theorem pairsUp_len {α : Type} : ∀ l : List α, (pairsUp l).length ≤ l.length
  | [] => Nat.le_refl _
  | [a] => Nat.zero_le _
  | a :: b :: r => by
    have := pairsUp_len (b :: r)
    simp only [pairsUp, List.length_cons] at this ⊢; omega
theorem pairsUp_mem {α : Type} : ∀ {l : List α} {p : α × α}, p ∈ pairsUp l → p.1 ∈ l ∧ p.2 ∈ l
  | a :: b :: r, p, h => by
    rcases List.mem_cons.mp h with rfl | h
    · exact ⟨.head _, .tail _ (.head _)⟩
    · exact ⟨.tail _ (pairsUp_mem h).1, .tail _ (pairsUp_mem h).2⟩
def folB (E : List Act) : Bool := (pairsUp E).all fun p => decide (p.1.e + p.1.ch ≤ p.2.b)
theorem follow_ok (E : List Act) (hE : E.length ≤ sizeLine) : f_follow [evD E] = .ok (.bool (folB E)) := by
  refine okF_eq ?_
  unfold f_follow runF m_follow evD
  rw [okF_ret]
  walk_at "ev"
  rw [zipD_tail]
  refine compA1 (pairsUp E) _ (fun p => .bool (decide (p.1.e + p.1.ch ≤ p.2.b))) (Nat.le_trans (pairsUp_len E) hE) rfl (fun p hp => ?_) ?_
  · simp only [actD]
    walk_at "ev"
  · rw [v_allm]; rfl
theorem fol_iff {a : Act} : ∀ {r : Int} {E : List Act}, Fol r (a :: E) ↔ r ≤ a.b ∧ folB (a :: E) = true
  | r, [] => by simp [Fol, folB, pairsUp]
  | r, b :: E => by
    have := fol_iff (a := b) (r := a.e + a.ch) (E := E)
    show r ≤ a.b ∧ Fol (a.e + a.ch) (b :: E) ↔ _
    rw [this]
    show _ ↔ r ≤ a.b ∧ ((pairsUp (a :: b :: E)).all _) = true
    simp only [pairsUp, List.all_cons, Bool.and_eq_true, decide_eq_true_eq]
    rfl
/-- the acts of a thing -/
def evB (d : D) : Prop := ∃ E, d = evD E ∧ EvOk E
def SmE (d : D) : Prop := ∀ xs, d = .tuple xs → xs.length ≤ sizeLine ∧ ∀ x ∈ xs, SmA x
theorem acts_of_all : ∀ {xs : List D}, (∀ x ∈ xs, actB x = true) → ∃ E : List Act, xs = E.map actD ∧ ∀ a ∈ E, AOk a
  | [], _ => ⟨[], rfl, by simp⟩
  | x :: xs, h => by
    obtain ⟨a, rfl, ha⟩ := actB_iff.mp (h x (.head _))
    obtain ⟨E, rfl, hE⟩ := acts_of_all fun y hy => h y (.tail _ hy)
    exact ⟨a :: E, rfl, fun b hb => by rcases List.mem_cons.mp hb with rfl | hb; exact ha; exact hE b hb⟩
theorem EvOk.iff {E : List Act} (h1 : 1 ≤ E.length) (h8 : E.length ≤ 8) (ha : ∀ a ∈ E, AOk a) : EvOk E ↔ (E.map Act.n).Nodup ∧ folB E = true := by
  have hf : Fol 0 E ↔ folB E = true := by
    cases E with
    | nil => simp at h1
    | cons a E =>
      rw [fol_iff]
      exact ⟨fun h => h.2, fun h => ⟨(ha a (.head _)).b.1, h⟩⟩
  exact ⟨fun h => ⟨h.nd, hf.mp h.fol⟩, fun h => ⟨h1, h8, ha, h.1, hf.mpr h.2⟩⟩
open Classical in
theorem is_evening_ok (d : D) (hs : SmE d) : f_is_evening [d] = .ok (.bool (decide (evB d))) := by
  refine okF_eq ?_
  unfold f_is_evening runF m_is_evening
  rw [okF_ret]
  walk_at "ev"
  cases d with
  | tuple xs =>
    obtain ⟨hl, hx⟩ := hs xs rfl
    simp only [isiB_tup]
    walk_at "ev"
    by_cases h1 : (1 : Int) ≤ xs.length
    · rw [if_pos h1]
      by_cases h8 : (xs.length : Int) ≤ 8
      · rw [if_neg (fun h => h h8)]
        refine compL_one (fun x => .bool (actB x)) hl rfl (fun x hx' => ?_) ?_
        · walk_at "ev"
          rw [w_act (hx x hx')]
        · rw [v_allm]
          walk_at "ev"
          by_cases ha : xs.all actB = true
          · rw [ha, if_neg (by decide)]
            obtain ⟨E, rfl, hE⟩ := acts_of_all (List.all_eq_true.mp ha)
            have h1' : 1 ≤ E.length := by rw [List.length_map] at h1; omega
            have h8' : E.length ≤ 8 := by rw [List.length_map] at h8; omega
            have hev : evB (.tuple (E.map actD)) ↔ (E.map Act.n).Nodup ∧ folB E = true := by
              rw [← EvOk.iff h1' h8' hE]
              constructor
              · rintro ⟨E', e, h⟩
                have inj : ∀ a b, actD a = actD b → a = b := fun a b e => by
                  cases a; cases b
                  simp only [actD, PyData.tuple.injEq, List.cons.injEq, PyData.str.injEq, PyData.int.injEq, and_true] at e
                  simp [e]
                simp only [evD, PyData.tuple.injEq] at e
                have : E = E' := by
                  have := List.map_inj_right (f := actD) (l := E) (l' := E') (fun a b => inj a b)
                  exact this.mp e
                rw [this]; exact h
              · exact fun h => ⟨E, rfl, h⟩
            refine compA1 E actD (fun a => .str a.n) (by rw [List.length_map] at hl; exact hl) rfl (fun a ha => ?_) ?_
            · simp only [actD]
              walk_at "ev"
              try exact ⟨rfl, rfl⟩
            · walk_at "ev"
              rw [show (E.map fun a => PyData.str a.n) = (E.map Act.n).map PyData.str by rw [List.map_map]; rfl]
              rw [v_lenSetG (by rw [List.length_map]; omega)]
              walk_at "ev"
              have hf : f_follow [.tuple (E.map actD)] = _ := follow_ok E (by rw [List.length_map] at hl; exact hl)
              rw [hf]
              walk_at "ev"
              have cnt : ((metK ((E.map Act.n).map Sum.inr : List (Int ⊕ Str)) ((E.map Act.n).map Sum.inr : List (Int ⊕ Str)).length).length = ((E.map Act.n).map Sum.inr : List (Int ⊕ Str)).length) ↔ (E.map Act.n).Nodup := (metK_len_iff _).trans (nodup_inj fun a b e => Sum.inr.inj e)
              rw [List.length_map (f := PyData.str), show (E.map Act.n).length = ((E.map Act.n).map Sum.inr : List (Int ⊕ Str)).length by simp]
              by_cases hn : (E.map Act.n).Nodup
              · rw [if_pos (by rw [cnt.mpr hn])]
                congr 1
                cases hb : folB E with
                | true => exact (decide_eq_true (hev.mpr ⟨hn, hb⟩)).symm
                | false => exact (decide_eq_false fun h => by rw [(hev.mp h).2] at hb; cases hb).symm
              · rw [if_neg (fun h => hn (cnt.mp (by exact_mod_cast h)))]
                congr 1
                exact (decide_eq_false fun h => hn (hev.mp h).1).symm
          · rw [Bool.eq_false_iff.mpr ha, if_pos rfl]
            congr 1
            refine (decide_eq_false ?_).symm
            rintro ⟨E, e, h⟩
            cases e
            exact ha (List.all_eq_true.mpr fun x hx => by
              obtain ⟨a, ha, rfl⟩ := List.mem_map.mp hx
              exact actB_iff.mpr ⟨a, rfl, h.act a ha⟩)
      · rw [if_pos h8]
        congr 1
        refine (decide_eq_false ?_).symm
        rintro ⟨E, e, h⟩
        cases e
        have := h.hi
        rw [List.length_map] at h8
        omega
    · rw [if_neg h1]
      try walk_at "ev"
      congr 1
      refine (decide_eq_false ?_).symm
      rintro ⟨E, e, h⟩
      cases e
      have := h.lo
      rw [List.length_map] at h1
      omega
  | _ =>
    simp only [isiB_tup]
    walk_at "ev"
    congr 1
    refine (decide_eq_false ?_).symm
    rintro ⟨E, e, h⟩
    cases e
theorem smE_ev {E : List Act} (h : EvOk E) : SmE (evD E) := by
  intro xs e
  cases e
  have := h.hi
  refine ⟨by rw [List.length_map, sizeLine_eq]; omega, fun x hx => ?_⟩
  obtain ⟨a, ha, rfl⟩ := List.mem_map.mp hx
  exact smA_act (h.act a ha).n
theorem is_evening_good {E : List Act} (h : EvOk E) : f_is_evening [evD E] = .ok (.bool true) := by
  classical
  rw [is_evening_ok _ (smE_ev h), decide_eq_true ⟨E, rfl, h⟩]
theorem need_evening_good {E : List Act} (h : EvOk E) : f_need_evening [evD E] = .ok .none := by
  refine okF_eq ?_
  unfold f_need_evening runF m_need_evening
  rw [okF_ret]
  walk_at "ev"
  rw [is_evening_good h]
  walk_at "ev"
end Lw

namespace Lw
open PySem DL
local macro_rules | `(tactic| walk_at "ev") => `(tactic| simp only [ok_ok, ok_bind, ok_pure, ok_opt, ok_var, ok_op, ok_opO, ok_un, ok_cmp, ok_B, ok_ite, ok_chain, ok_and, ok_or, ok_not, ok_ifE, ok_tru, ok_andV, ok_orV, ok_notV, ok_nil, ok_cons, ok_tup, ok_lst, ok_fz, ok_isi, ok_call, ok_callO, ok_noP, ok_part, ok_sl, ok_slAt, ok_ixO, ok_lenO, ok_move, ok_seq, ok_nx, ok_if, ok_ret, ok_retO, ok_drop, ok_store, ok_set, ok_setO, ok_asg, ok_dat, ok_own, ok_par2, ok_par3, ok_meth, ok_setIx, ok_extend, ok_frz, ok_cmpO, ok_rep, ok_listRg, ok_F, ok_FO, ok_FC, ok_FS, ok_items, ok_signs, ok_range1, ok_range2, ok_range3, ok_zip, ok_enum, ok_for, ok_comp,
  okO_some, okO_none, okF_ok, okC_ok, slD_dat, slL_own, slL_cel, ixP_own, ixP_cel, ixP_scr, isL_own, isL_cel, isL_scr, lenP_own, lenP_cel, lenP_scr, seqP_nx, seqP_rt, seqP_ro, seqP_ct, seqP_bk, wrS_un, wrS_dat, wrS_own, wrS_scr, okO_gN, okO_gTp, okO_gCons, okO_gNil, chgP_own, chgP_cel, okO_chg, ownB_own, ownB_cel, celP_own, celP_cel, scrP_scr, putSl_eq,
  v_addII, v_addIB, v_addTT, v_addLL, v_addSS, v_catLL, v_sub, v_mul, v_mod, v_div, v_pow, v_neg, v_cmp, v_eqII, v_neII, v_eqSS, v_neSS, v_isNone_n, v_isNone_b, v_isNone_i, v_isNone_s, v_isNone_l, v_isNone_t, v_notNone_n, v_notNone_b, v_notNone_i, v_notNone_s, v_notNone_l, v_notNone_t, v_isBl, v_in, v_notIn, v_inS, v_notInS, v_ixL, v_ixT, v_ixS, v_slL, v_slT, v_revL, v_revT, v_lenL, v_lenT, v_lenS, v_max2, v_min2, v_intB, v_intI, v_tupL, v_tupT, v_listL, v_listT, v_truB, v_truI, v_truN, v_blB, v_int, v_itL, v_itT, v_sig, v_rng1, v_rng2, v_lrg, v_zipL, v_zipT, v_zipTT, ok_lenSet, ok_listZip, sizeLine_eq, Nat.reduceLeDiff, Int.reduceLT, Int.reduceLE, atI0, atI1, atI2, atI3, atI4, atI5, atI6, atI_c, ixN0, ixN1, ixN2, okO_celAt, v_notBlT, v_notBlF, v_notBlG, v_notBlH, Int.reduceEq, Int.reduceNe, Int.cast_ofNat_Int, not_true_eq_false, not_false_eq_true, pow9, pow18, natAbs10, Bool.true_eq_false, cut_1, cut_nn, v_enum, v_app, v_setAt,
  List.getElem?_cons_zero, List.getElem?_cons_succ, List.set_cons_zero, List.set_cons_succ, List.length_cons, List.length_nil, List.map_cons, List.map_nil, envOf, List.cons_append, List.nil_append, List.replicate, wipeE, restE, keepS,
  decide_eq_true_eq, true_and, and_true, if_true, if_false, Bool.false_eq_true, Nat.reduceAdd, Nat.reduceSub, Nat.zero_add, Nat.sub_zero, Bool.not_true, Bool.not_false, Bool.not_eq_true', decide_eq_false_iff_not])
local macro_rules | `(tactic| walk_at "en") => `(tactic| simp only [ok_ok, ok_bind, ok_pure, ok_opt, ok_var, ok_op, ok_opO, ok_un, ok_cmp, ok_B, ok_ite, ok_chain, ok_and, ok_or, ok_not, ok_ifE, ok_tru, ok_andV, ok_orV, ok_notV, ok_nil, ok_cons, ok_tup, ok_lst, ok_fz, ok_isi, ok_call, ok_callO, ok_noP, ok_part, ok_sl, ok_slAt, ok_ixO, ok_lenO, ok_move, ok_seq, ok_nx, ok_if, ok_ret, ok_retO, ok_drop, ok_store, ok_set, ok_setO, ok_asg, ok_dat, ok_own, ok_par2, ok_par3, ok_meth, ok_setIx, ok_extend, ok_frz, ok_cmpO, ok_rep, ok_listRg, ok_F, ok_FO, ok_FC, ok_FS, ok_items, ok_signs, ok_range1, ok_range2, ok_range3, ok_zip, ok_enum, ok_for, ok_comp,
  okO_some, okO_none, okF_ok, okC_ok, slD_dat, slL_own, slL_cel, ixP_own, ixP_cel, ixP_scr, isL_own, isL_cel, isL_scr, lenP_own, lenP_cel, lenP_scr, seqP_nx, seqP_rt, seqP_ro, seqP_ct, seqP_bk, wrS_un, wrS_dat, wrS_own, wrS_scr, okO_gN, okO_gTp, okO_gCons, okO_gNil, chgP_own, chgP_cel, okO_chg, ownB_own, ownB_cel, celP_own, celP_cel, scrP_scr, putSl_eq,
  v_addII, v_addIB, v_addTT, v_addLL, v_addSS, v_catLL, v_sub, v_mul, v_mod, v_div, v_pow, v_neg, v_cmp, v_eqII, v_neII, v_eqSS, v_neSS, v_isNone_n, v_isNone_b, v_isNone_i, v_isNone_s, v_isNone_l, v_isNone_t, v_notNone_n, v_notNone_b, v_notNone_i, v_notNone_s, v_notNone_l, v_notNone_t, v_isBl, v_in, v_notIn, v_inS, v_notInS, v_ixL, v_ixT, v_ixS, v_slL, v_slT, v_revL, v_revT, v_lenL, v_lenT, v_lenS, v_max2, v_min2, v_intB, v_intI, v_tupL, v_tupT, v_listL, v_listT, v_truB, v_truI, v_truN, v_blB, v_int, v_itL, v_itT, v_sig, v_rng1, v_rng2, v_lrg, v_zipL, v_zipT, v_zipTT, ok_lenSet, ok_listZip, sizeLine_eq, Nat.reduceLeDiff, Int.reduceLT, Int.reduceLE, atI0, atI1, atI2, atI3, atI4, atI5, atI6, atI_c, ixN0, ixN1, ixN2, okO_celAt, v_notBlT, v_notBlF, v_notBlG, v_notBlH, Int.reduceEq, Int.reduceNe, Int.cast_ofNat_Int, not_true_eq_false, not_false_eq_true, pow9, pow18, natAbs10, Bool.true_eq_false, cut_1, cut_nn, v_enum, v_app, v_setAt,
  List.getElem?_cons_zero, List.getElem?_cons_succ, List.set_cons_zero, List.set_cons_succ, List.length_cons, List.length_nil, List.map_cons, List.map_nil, envOf, List.cons_append, List.nil_append, List.replicate, wipeE, restE, keepS,
  decide_eq_true_eq, true_and, and_true, if_true, if_false, Bool.false_eq_true, Nat.reduceAdd, Nat.reduceSub, Nat.zero_add, Nat.sub_zero, Bool.not_true, Bool.not_false, Bool.not_eq_true', decide_eq_false_iff_not,
  ok_par2N, ok_nApp, ok_nSet, ok_nIx, ok_frzN, nstB_nst, nstP_nst, onlyN_s, onlyN_z, noN_un, noN_dat, noN_own, noN_cel, noN_scr, allN_cons, allN_nil, Bool.and_true, Bool.true_and, Int.reduceNeg, ok_zipM, v_zipM])
local macro_rules | `(tactic| walk_at "rn") => `(tactic| simp only [ok_ok, ok_bind, ok_pure, ok_opt, ok_var, ok_op, ok_opO, ok_un, ok_cmp, ok_B, ok_ite, ok_chain, ok_and, ok_or, ok_not, ok_ifE, ok_tru, ok_andV, ok_orV, ok_notV, ok_nil, ok_cons, ok_tup, ok_lst, ok_fz, ok_isi, ok_call, ok_callO, ok_noP, ok_part, ok_sl, ok_slAt, ok_ixO, ok_lenO, ok_move, ok_seq, ok_nx, ok_if, ok_ret, ok_retO, ok_drop, ok_store, ok_set, ok_setO, ok_asg, ok_dat, ok_own, ok_par2, ok_par3, ok_meth, ok_setIx, ok_extend, ok_frz, ok_cmpO, ok_rep, ok_listRg, ok_F, ok_FO, ok_FC, ok_FS, ok_items, ok_signs, ok_range1, ok_range2, ok_range3, ok_zip, ok_enum, ok_for, ok_comp,
  okO_some, okO_none, okF_ok, okC_ok, slD_dat, slL_own, slL_cel, ixP_own, ixP_cel, ixP_scr, isL_own, isL_cel, isL_scr, lenP_own, lenP_cel, lenP_scr, seqP_nx, seqP_rt, seqP_ro, seqP_ct, seqP_bk, wrS_un, wrS_dat, wrS_own, wrS_scr, okO_gN, okO_gTp, okO_gCons, okO_gNil, chgP_own, chgP_cel, okO_chg, ownB_own, ownB_cel, celP_own, celP_cel, scrP_scr, putSl_eq,
  v_addII, v_addIB, v_addTT, v_addLL, v_addSS, v_catLL, v_sub, v_mul, v_mod, v_div, v_pow, v_neg, v_cmp, v_eqII, v_neII, v_eqSS, v_neSS, v_isNone_n, v_isNone_b, v_isNone_i, v_isNone_s, v_isNone_l, v_isNone_t, v_notNone_n, v_notNone_b, v_notNone_i, v_notNone_s, v_notNone_l, v_notNone_t, v_isBl, v_in, v_notIn, v_inS, v_notInS, v_ixL, v_ixT, v_ixS, v_slL, v_slT, v_revL, v_revT, v_lenL, v_lenT, v_lenS, v_max2, v_min2, v_intB, v_intI, v_tupL, v_tupT, v_listL, v_listT, v_truB, v_truI, v_truN, v_blB, v_int, v_itL, v_itT, v_sig, v_rng1, v_rng2, v_lrg, v_zipL, v_zipT, v_zipTT, ok_lenSet, ok_listZip, sizeLine_eq, Nat.reduceLeDiff, Int.reduceLT, Int.reduceLE, atI0, atI1, atI2, atI3, atI4, atI5, atI6, atI_c, ixN0, ixN1, ixN2, okO_celAt, v_notBlT, v_notBlF, v_notBlG, v_notBlH, Int.reduceEq, Int.reduceNe, Int.cast_ofNat_Int, not_true_eq_false, not_false_eq_true, pow9, pow18, natAbs10, Bool.true_eq_false, cut_1, cut_nn, v_enum, v_app, v_setAt,
  List.getElem?_cons_zero, List.getElem?_cons_succ, List.set_cons_zero, List.set_cons_succ, List.length_cons, List.length_nil, List.map_cons, List.map_nil, envOf, List.cons_append, List.nil_append, List.replicate, wipeE, restE, keepS,
  decide_eq_true_eq, true_and, and_true, if_true, if_false, Bool.false_eq_true, Nat.reduceAdd, Nat.reduceSub, Nat.zero_add, Nat.sub_zero, Bool.not_true, Bool.not_false, Bool.not_eq_true', decide_eq_false_iff_not,
  ok_par2N, ok_nApp, ok_nSet, ok_nIx, ok_frzN, nstB_nst, nstP_nst, onlyN_s, onlyN_z, noN_un, noN_dat, noN_own, noN_cel, noN_scr, allN_cons, allN_nil, Bool.and_true, Bool.true_and, Int.reduceNeg, ok_zipM, v_zipM, shEarly, shEnd, shBegin, shLate, neEE, neEE2, neBL, neBL2, eq_self, if_neg_f, decide_true, decide_false, Bool.and_false, Bool.false_and])
/-! ## standings -/
abbrev Pt := Act × Int × Int
def prD (p : Int × Int) : D := .tuple [.int p.1, .int p.2]
def acts (T : List Pt) : List Act := T.map (·.1)
def moms (T : List Pt) : List (Int × Int) := T.map (·.2)
def stD (S : List (Int × Int)) : D := .tuple (S.map prD)
theorem zip_pt (T : List Pt) : zipD ((acts T).map actD) ((moms T).map prD) = T.map fun t => .tuple [actD t.1, prD t.2] := by
  rw [zipD_map]
  unfold acts moms
  rw [List.zip_map', List.map_map]
  rfl
/-- a standing, from a moment on -/
def Sd : Int → List Pt → Prop
  | _, [] => True
  | r, t :: T => (t.1.b - t.1.ea ≤ t.2.1 ∧ t.2.1 ≤ t.1.b ∧ t.1.e ≤ t.2.2 ∧ t.2.2 ≤ t.1.e + t.1.la ∧ r ≤ t.2.1) ∧ Sd (t.2.2 + t.1.ch) T
theorem Sd.mono {r r' : Int} (h : r' ≤ r) : ∀ {T : List Pt}, Sd r T → Sd r' T
  | [], _ => trivial
  | _ :: _, s => ⟨⟨s.1.1, s.1.2.1, s.1.2.2.1, s.1.2.2.2.1, by have := s.1.2.2.2.2; omega⟩, s.2⟩
def fg (t : Pt) : Int := max 0 (t.1.w - (t.2.2 - t.2.1))
theorem law_int_ok (d : D) (lo hi : Int) : f__law_is_int [d, .int lo, .int hi] = .ok (.bool (isW d lo hi)) := by
  refine okF_eq ?_
  unfold f__law_is_int runF m__law_is_int
  rw [okF_ret]
  walk_at "ev"
  cases d <;> simp only [isiB_int, isiB_bool, isW]
  all_goals (walk_at "ev"; try rfl)
  split <;> simp [*]
theorem w_int {d : D} {lo hi : Int} {P : D → Prop} : okF (f__law_is_int [d, .int lo, .int hi]) P = P (.bool (isW d lo hi)) := by rw [law_int_ok]; rfl
theorem isW_in {i lo hi : Int} (h : lo ≤ i ∧ i ≤ hi) : isW (.int i) lo hi = true := by simp [isW, h]
theorem law_standing_good {T : List Pt} (hs : Sd (-1000000000) T) : f__law_are_standing [evD (acts T), stD (moms T)] = .ok (.bool true) := by
  refine okF_eq ?_
  unfold f__law_are_standing runF m__law_are_standing evD stD
  rw [okF_ret]
  walk_at "ev"
  rw [show isiB "tuple" (PyData.tuple ((moms T).map prD)) = true from rfl]
  walk_at "ev"
  rw [if_neg (fun h => h (by simp [acts, moms]))]
  rw [zip_pt]
  refine forA (fun R e => ∃ r s3 s4, e = [.dat (.tuple ((acts T).map actD)), .dat (.tuple ((moms T).map prD)), .dat (.int r), s3, s4] ∧ wrS (some s3) = true ∧ wrS (some s4) = true ∧ Sd r R) T ⟨_, _, _, rfl, rfl, rfl, hs⟩ ?_ ?_
  · rintro t R e ⟨r, s3, s4, rfl, h3, h4, ⟨g1, g2, g3, g4, g5⟩, g6⟩
    simp only [actD, prD]
    walk_at "ev"
    simp only [h3, h4, isiB_tup]
    walk_at "ev"
    rw [w_int, isW_in ⟨g1, g2⟩]
    walk_at "ev"
    rw [w_int, isW_in ⟨g3, g4⟩]
    walk_at "ev"
    rw [if_neg (by omega)]
    exact ⟨_, _, _, rfl, rfl, rfl, g6⟩
  · rintro e ⟨r, s3, s4, rfl, h3, h4, g⟩
    walk_at "ev"
theorem law_forgone_ok {T : List Pt} (hl : T.length ≤ sizeLine) : f__law_forgone [evD (acts T), stD (moms T)] = .ok (.list (T.map fun t => .int (fg t))) := by
  refine okF_eq ?_
  unfold f__law_forgone runF m__law_forgone evD stD
  rw [okF_ret]
  walk_at "ev"
  rw [zip_pt]
  refine compA1 T _ (fun t => .int (fg t)) hl rfl (fun t ht => ?_) ?_
  · simp only [actD, prD]
    walk_at "ev"
    rfl
  · walk_at "ev"
theorem law_whole_good {T : List Pt} (hl : T.length ≤ sizeLine) (hs : Sd (-1000000000) T) : f__law_is_whole [evD (acts T), stD (moms T)] = .ok (.bool (decide ((T.map fg).sum = 0))) := by
  refine okF_eq ?_
  unfold f__law_is_whole runF m__law_is_whole
  rw [okF_ret]
  walk_at "ev"
  rw [law_standing_good hs]
  walk_at "ev"
  rw [law_forgone_ok hl]
  walk_at "ev"
  rw [v_summ]
  walk_at "ev"
theorem sd_pairs : ∀ {r : Int} {T : List Pt}, Sd r T → ((pairsUp T).all fun p => decide (p.1.2.2 + p.1.1.ch ≤ p.2.2.1)) = true
  | r, [], _ => rfl
  | r, [a], _ => rfl
  | r, a :: b :: T, h => by
    simp only [pairsUp, List.all_cons, Bool.and_eq_true, decide_eq_true_eq]
    exact ⟨h.2.1.2.2.2.2, sd_pairs h.2⟩
/-! the program's -/
theorem stands_good {T : List Pt} (hl : T.length ≤ sizeLine) (hs : Sd (-1000000000) T) : f_stands [evD (acts T), stD (moms T)] = .ok (.bool true) := by
  refine okF_eq ?_
  unfold f_stands runF m_stands evD stD
  rw [okF_ret]
  walk_at "ev"
  rw [show isiB "tuple" (PyData.tuple ((moms T).map prD)) = true from rfl]
  walk_at "ev"
  rw [if_neg (fun h => h (by simp [acts, moms]))]
  rw [zip_pt]
  refine forA (fun R e => ∃ s3 s4 s5 s6 s7 s8 s9 s10 r, e = [.dat (.tuple ((acts T).map actD)), .dat (.tuple ((moms T).map prD)), .un, s3, s4, s5, s6, s7, s8, s9, s10, .un, .un] ∧ wrS (some s3) = true ∧ wrS (some s4) = true ∧ wrS (some s5) = true ∧ wrS (some s6) = true ∧ wrS (some s7) = true ∧ wrS (some s8) = true ∧ wrS (some s9) = true ∧ wrS (some s10) = true ∧ Sd r R) T ⟨_, _, _, _, _, _, _, _, _, rfl, rfl, rfl, rfl, rfl, rfl, rfl, rfl, rfl, hs⟩ ?_ ?_
  · rintro t R e ⟨s3, s4, s5, s6, s7, s8, s9, s10, r, rfl, h3, h4, h5, h6, h7, h8, h9, h10, ⟨g1, g2, g3, g4, g5⟩, g6⟩
    simp only [actD, prD]
    walk_at "ev"
    simp only [h3, h4, h5, h6, h7, h8, h9, h10, isiB_tup]
    walk_at "ev"
    rw [w_whole, isW_in ⟨g1, g2⟩]
    walk_at "ev"
    rw [w_whole, isW_in ⟨g3, g4⟩]
    walk_at "ev"
    exact ⟨_, _, _, _, _, _, _, _, _, rfl, rfl, rfl, rfl, rfl, rfl, rfl, rfl, rfl, g6⟩
  · rintro e ⟨s3, s4, s5, s6, s7, s8, s9, s10, r, rfl, h3, h4, h5, h6, h7, h8, h9, h10, g⟩
    walk_at "ev"
    rw [zip_pt, zipD_tail (fun t : Pt => PyData.tuple [actD t.1, prD t.2])]
    refine compA1 (pairsUp T) _ (fun p => .bool (decide (p.1.2.2 + p.1.1.ch ≤ p.2.2.1))) (Nat.le_trans (pairsUp_len T) hl) rfl (fun p hp => ?_) ?_
    · simp only [actD, prD]
      walk_at "ev"
    · rw [v_allm, sd_pairs hs]
theorem is_standing_good {T : List Pt} (hE : EvOk (acts T)) (hs : Sd (-1000000000) T) : f_is_standing [evD (acts T), stD (moms T)] = .ok (.bool true) := by
  have hl : T.length ≤ sizeLine := by have := hE.hi; rw [sizeLine_eq]; simp only [acts, List.length_map] at this; omega
  refine okF_eq ?_
  unfold f_is_standing runF m_is_standing
  rw [okF_ret]
  walk_at "ev"
  rw [need_evening_good hE]
  walk_at "ev"
  rw [stands_good hl hs]
  walk_at "ev"
theorem forgoes_good {T : List Pt} (hE : EvOk (acts T)) (hs : Sd (-1000000000) T) : f_forgoes [evD (acts T), stD (moms T)] = .ok (.list (T.map fun t => .int (fg t))) := by
  have hl : T.length ≤ sizeLine := by have := hE.hi; rw [sizeLine_eq]; simp only [acts, List.length_map] at this; omega
  refine okF_eq ?_
  unfold f_forgoes runF m_forgoes
  rw [okF_ret]
  walk_at "ev"
  rw [need_evening_good hE]
  walk_at "ev"
  rw [stands_good hl hs]
  walk_at "ev"
  unfold evD stD
  walk_at "ev"
  rw [zip_pt]
  refine compA1 T _ (fun t => .int (fg t)) hl rfl (fun t ht => ?_) ?_
  · simp only [actD, prD]
    walk_at "ev"
    rfl
  · walk_at "ev"
end Lw

namespace Lw
open PySem DL
local macro_rules | `(tactic| walk_at "ev") => `(tactic| simp only [ok_ok, ok_bind, ok_pure, ok_opt, ok_var, ok_op, ok_opO, ok_un, ok_cmp, ok_B, ok_ite, ok_chain, ok_and, ok_or, ok_not, ok_ifE, ok_tru, ok_andV, ok_orV, ok_notV, ok_nil, ok_cons, ok_tup, ok_lst, ok_fz, ok_isi, ok_call, ok_callO, ok_noP, ok_part, ok_sl, ok_slAt, ok_ixO, ok_lenO, ok_move, ok_seq, ok_nx, ok_if, ok_ret, ok_retO, ok_drop, ok_store, ok_set, ok_setO, ok_asg, ok_dat, ok_own, ok_par2, ok_par3, ok_meth, ok_setIx, ok_extend, ok_frz, ok_cmpO, ok_rep, ok_listRg, ok_F, ok_FO, ok_FC, ok_FS, ok_items, ok_signs, ok_range1, ok_range2, ok_range3, ok_zip, ok_enum, ok_for, ok_comp,
  okO_some, okO_none, okF_ok, okC_ok, slD_dat, slL_own, slL_cel, ixP_own, ixP_cel, ixP_scr, isL_own, isL_cel, isL_scr, lenP_own, lenP_cel, lenP_scr, seqP_nx, seqP_rt, seqP_ro, seqP_ct, seqP_bk, wrS_un, wrS_dat, wrS_own, wrS_scr, okO_gN, okO_gTp, okO_gCons, okO_gNil, chgP_own, chgP_cel, okO_chg, ownB_own, ownB_cel, celP_own, celP_cel, scrP_scr, putSl_eq,
  v_addII, v_addIB, v_addTT, v_addLL, v_addSS, v_catLL, v_sub, v_mul, v_mod, v_div, v_pow, v_neg, v_cmp, v_eqII, v_neII, v_eqSS, v_neSS, v_isNone_n, v_isNone_b, v_isNone_i, v_isNone_s, v_isNone_l, v_isNone_t, v_notNone_n, v_notNone_b, v_notNone_i, v_notNone_s, v_notNone_l, v_notNone_t, v_isBl, v_in, v_notIn, v_inS, v_notInS, v_ixL, v_ixT, v_ixS, v_slL, v_slT, v_revL, v_revT, v_lenL, v_lenT, v_lenS, v_max2, v_min2, v_intB, v_intI, v_tupL, v_tupT, v_listL, v_listT, v_truB, v_truI, v_truN, v_blB, v_int, v_itL, v_itT, v_sig, v_rng1, v_rng2, v_lrg, v_zipL, v_zipT, v_zipTT, ok_lenSet, ok_listZip, sizeLine_eq, Nat.reduceLeDiff, Int.reduceLT, Int.reduceLE, atI0, atI1, atI2, atI3, atI4, atI5, atI6, atI_c, ixN0, ixN1, ixN2, okO_celAt, v_notBlT, v_notBlF, v_notBlG, v_notBlH, Int.reduceEq, Int.reduceNe, Int.cast_ofNat_Int, not_true_eq_false, not_false_eq_true, pow9, pow18, natAbs10, Bool.true_eq_false, cut_1, cut_nn, v_enum, v_app, v_setAt,
  List.getElem?_cons_zero, List.getElem?_cons_succ, List.set_cons_zero, List.set_cons_succ, List.length_cons, List.length_nil, List.map_cons, List.map_nil, envOf, List.cons_append, List.nil_append, List.replicate, wipeE, restE, keepS,
  decide_eq_true_eq, true_and, and_true, if_true, if_false, Bool.false_eq_true, Nat.reduceAdd, Nat.reduceSub, Nat.zero_add, Nat.sub_zero, Bool.not_true, Bool.not_false, Bool.not_eq_true', decide_eq_false_iff_not])
local macro_rules | `(tactic| walk_at "en") => `(tactic| simp only [ok_ok, ok_bind, ok_pure, ok_opt, ok_var, ok_op, ok_opO, ok_un, ok_cmp, ok_B, ok_ite, ok_chain, ok_and, ok_or, ok_not, ok_ifE, ok_tru, ok_andV, ok_orV, ok_notV, ok_nil, ok_cons, ok_tup, ok_lst, ok_fz, ok_isi, ok_call, ok_callO, ok_noP, ok_part, ok_sl, ok_slAt, ok_ixO, ok_lenO, ok_move, ok_seq, ok_nx, ok_if, ok_ret, ok_retO, ok_drop, ok_store, ok_set, ok_setO, ok_asg, ok_dat, ok_own, ok_par2, ok_par3, ok_meth, ok_setIx, ok_extend, ok_frz, ok_cmpO, ok_rep, ok_listRg, ok_F, ok_FO, ok_FC, ok_FS, ok_items, ok_signs, ok_range1, ok_range2, ok_range3, ok_zip, ok_enum, ok_for, ok_comp,
  okO_some, okO_none, okF_ok, okC_ok, slD_dat, slL_own, slL_cel, ixP_own, ixP_cel, ixP_scr, isL_own, isL_cel, isL_scr, lenP_own, lenP_cel, lenP_scr, seqP_nx, seqP_rt, seqP_ro, seqP_ct, seqP_bk, wrS_un, wrS_dat, wrS_own, wrS_scr, okO_gN, okO_gTp, okO_gCons, okO_gNil, chgP_own, chgP_cel, okO_chg, ownB_own, ownB_cel, celP_own, celP_cel, scrP_scr, putSl_eq,
  v_addII, v_addIB, v_addTT, v_addLL, v_addSS, v_catLL, v_sub, v_mul, v_mod, v_div, v_pow, v_neg, v_cmp, v_eqII, v_neII, v_eqSS, v_neSS, v_isNone_n, v_isNone_b, v_isNone_i, v_isNone_s, v_isNone_l, v_isNone_t, v_notNone_n, v_notNone_b, v_notNone_i, v_notNone_s, v_notNone_l, v_notNone_t, v_isBl, v_in, v_notIn, v_inS, v_notInS, v_ixL, v_ixT, v_ixS, v_slL, v_slT, v_revL, v_revT, v_lenL, v_lenT, v_lenS, v_max2, v_min2, v_intB, v_intI, v_tupL, v_tupT, v_listL, v_listT, v_truB, v_truI, v_truN, v_blB, v_int, v_itL, v_itT, v_sig, v_rng1, v_rng2, v_lrg, v_zipL, v_zipT, v_zipTT, ok_lenSet, ok_listZip, sizeLine_eq, Nat.reduceLeDiff, Int.reduceLT, Int.reduceLE, atI0, atI1, atI2, atI3, atI4, atI5, atI6, atI_c, ixN0, ixN1, ixN2, okO_celAt, v_notBlT, v_notBlF, v_notBlG, v_notBlH, Int.reduceEq, Int.reduceNe, Int.cast_ofNat_Int, not_true_eq_false, not_false_eq_true, pow9, pow18, natAbs10, Bool.true_eq_false, cut_1, cut_nn, v_enum, v_app, v_setAt,
  List.getElem?_cons_zero, List.getElem?_cons_succ, List.set_cons_zero, List.set_cons_succ, List.length_cons, List.length_nil, List.map_cons, List.map_nil, envOf, List.cons_append, List.nil_append, List.replicate, wipeE, restE, keepS,
  decide_eq_true_eq, true_and, and_true, if_true, if_false, Bool.false_eq_true, Nat.reduceAdd, Nat.reduceSub, Nat.zero_add, Nat.sub_zero, Bool.not_true, Bool.not_false, Bool.not_eq_true', decide_eq_false_iff_not,
  ok_par2N, ok_nApp, ok_nSet, ok_nIx, ok_frzN, nstB_nst, nstP_nst, onlyN_s, onlyN_z, noN_un, noN_dat, noN_own, noN_cel, noN_scr, allN_cons, allN_nil, Bool.and_true, Bool.true_and, Int.reduceNeg, ok_zipM, v_zipM])
local macro_rules | `(tactic| walk_at "rn") => `(tactic| simp only [ok_ok, ok_bind, ok_pure, ok_opt, ok_var, ok_op, ok_opO, ok_un, ok_cmp, ok_B, ok_ite, ok_chain, ok_and, ok_or, ok_not, ok_ifE, ok_tru, ok_andV, ok_orV, ok_notV, ok_nil, ok_cons, ok_tup, ok_lst, ok_fz, ok_isi, ok_call, ok_callO, ok_noP, ok_part, ok_sl, ok_slAt, ok_ixO, ok_lenO, ok_move, ok_seq, ok_nx, ok_if, ok_ret, ok_retO, ok_drop, ok_store, ok_set, ok_setO, ok_asg, ok_dat, ok_own, ok_par2, ok_par3, ok_meth, ok_setIx, ok_extend, ok_frz, ok_cmpO, ok_rep, ok_listRg, ok_F, ok_FO, ok_FC, ok_FS, ok_items, ok_signs, ok_range1, ok_range2, ok_range3, ok_zip, ok_enum, ok_for, ok_comp,
  okO_some, okO_none, okF_ok, okC_ok, slD_dat, slL_own, slL_cel, ixP_own, ixP_cel, ixP_scr, isL_own, isL_cel, isL_scr, lenP_own, lenP_cel, lenP_scr, seqP_nx, seqP_rt, seqP_ro, seqP_ct, seqP_bk, wrS_un, wrS_dat, wrS_own, wrS_scr, okO_gN, okO_gTp, okO_gCons, okO_gNil, chgP_own, chgP_cel, okO_chg, ownB_own, ownB_cel, celP_own, celP_cel, scrP_scr, putSl_eq,
  v_addII, v_addIB, v_addTT, v_addLL, v_addSS, v_catLL, v_sub, v_mul, v_mod, v_div, v_pow, v_neg, v_cmp, v_eqII, v_neII, v_eqSS, v_neSS, v_isNone_n, v_isNone_b, v_isNone_i, v_isNone_s, v_isNone_l, v_isNone_t, v_notNone_n, v_notNone_b, v_notNone_i, v_notNone_s, v_notNone_l, v_notNone_t, v_isBl, v_in, v_notIn, v_inS, v_notInS, v_ixL, v_ixT, v_ixS, v_slL, v_slT, v_revL, v_revT, v_lenL, v_lenT, v_lenS, v_max2, v_min2, v_intB, v_intI, v_tupL, v_tupT, v_listL, v_listT, v_truB, v_truI, v_truN, v_blB, v_int, v_itL, v_itT, v_sig, v_rng1, v_rng2, v_lrg, v_zipL, v_zipT, v_zipTT, ok_lenSet, ok_listZip, sizeLine_eq, Nat.reduceLeDiff, Int.reduceLT, Int.reduceLE, atI0, atI1, atI2, atI3, atI4, atI5, atI6, atI_c, ixN0, ixN1, ixN2, okO_celAt, v_notBlT, v_notBlF, v_notBlG, v_notBlH, Int.reduceEq, Int.reduceNe, Int.cast_ofNat_Int, not_true_eq_false, not_false_eq_true, pow9, pow18, natAbs10, Bool.true_eq_false, cut_1, cut_nn, v_enum, v_app, v_setAt,
  List.getElem?_cons_zero, List.getElem?_cons_succ, List.set_cons_zero, List.set_cons_succ, List.length_cons, List.length_nil, List.map_cons, List.map_nil, envOf, List.cons_append, List.nil_append, List.replicate, wipeE, restE, keepS,
  decide_eq_true_eq, true_and, and_true, if_true, if_false, Bool.false_eq_true, Nat.reduceAdd, Nat.reduceSub, Nat.zero_add, Nat.sub_zero, Bool.not_true, Bool.not_false, Bool.not_eq_true', decide_eq_false_iff_not,
  ok_par2N, ok_nApp, ok_nSet, ok_nIx, ok_frzN, nstB_nst, nstP_nst, onlyN_s, onlyN_z, noN_un, noN_dat, noN_own, noN_cel, noN_scr, allN_cons, allN_nil, Bool.and_true, Bool.true_and, Int.reduceNeg, ok_zipM, v_zipM, shEarly, shEnd, shBegin, shLate, neEE, neEE2, neBL, neBL2, eq_self, if_neg_f, decide_true, decide_false, Bool.and_false, Bool.false_and])
/-! ## whole standings -/
def fstW : Int → List Act → Option (List Pt)
  | _, [] => some []
  | r, a :: E =>
    if a.b < max (a.b - a.ea) r ∨ a.e + a.la < max a.e (max (a.b - a.ea) r + a.w) then none
    else (fstW (max a.e (max (a.b - a.ea) r + a.w) + a.ch) E).map ((a, max (a.b - a.ea) r, max a.e (max (a.b - a.ea) r + a.w)) :: ·)
/-- the acts from behind -/
def lstW : Int → List Act → Option (List Pt)
  | _, [] => some []
  | n, a :: E =>
    if min (a.e + a.la) (n - a.ch) < a.e ∨ min a.b (min (a.e + a.la) (n - a.ch) - a.w) < a.b - a.ea then none
    else (lstW (min a.b (min (a.e + a.la) (n - a.ch) - a.w)) E).map ((a, min a.b (min (a.e + a.la) (n - a.ch) - a.w), min (a.e + a.la) (n - a.ch)) :: ·)
def optD (o : Option (List Pt)) : D := match o with
  | some T => stD (moms T)
  | none => .none
theorem first_whole_ok {E : List Act} (hl : E.length < 16777216) (hb : ∀ a ∈ E, -1000000000 ≤ a.b - a.ea) : f_first_whole [evD E] = .ok (optD (fstW (-1000000000) E)) := by
  refine okF_eq ?_
  unfold f_first_whole runF m_first_whole evD
  rw [okF_ret]
  walk_at "ev"
  refine forA (fun R e => ∃ (F : List Pt) (r : Int) (fr : D) (s3 s4 s5 s6 s7 s8 s9 s10 s11 : Sl), e = [.dat (.tuple (E.map actD)), .own ((moms F).map prD), .dat fr, s3, s4, s5, s6, s7, s8, s9, s10, s11] ∧ (wrS (some s3) = true ∧ wrS (some s4) = true ∧ wrS (some s5) = true ∧ wrS (some s6) = true ∧ wrS (some s7) = true ∧ wrS (some s8) = true ∧ wrS (some s9) = true ∧ wrS (some s10) = true ∧ wrS (some s11) = true) ∧
    (fr = .none ∧ r = -1000000000 ∨ fr = .int r) ∧ fstW (-1000000000) E = (fstW r R).map (F ++ ·) ∧ F.length + R.length = E.length ∧ ∀ a ∈ R, -1000000000 ≤ a.b - a.ea) E ?_ ?_ ?_
  · exact ⟨[], _, _, _, _, _, _, _, _, _, _, _, rfl, ⟨rfl, rfl, rfl, rfl, rfl, rfl, rfl, rfl, rfl⟩, .inl ⟨rfl, rfl⟩, by simp, by simp, hb⟩
  · rintro a R e ⟨F, r, fr, s3, s4, s5, s6, s7, s8, s9, s10, s11, rfl, ⟨h3, h4, h5, h6, h7, h8, h9, h10, h11⟩, hfr, hf, hn, hR⟩
    have ha := hR a (.head _)
    have hR' : ∀ a ∈ R, -1000000000 ≤ a.b - a.ea := fun x hx => hR x (.tail _ hx)
    have hF : F.length < 16777216 := by simp at hn; omega
    simp only [actD]
    walk_at "ev"
    simp only [h3, h4, h5, h6, h7, h8, h9, h10, h11]
    walk_at "ev"
    have wrap : ∀ (s t : Int), s = max (a.b - a.ea) r → t = max a.e (s + a.w) → fstW (-1000000000) E = if a.b < s ∨ a.e + a.la < t then none else (fstW (t + a.ch) R).map ((F ++ [(a, s, t)]) ++ ·) := by
      intro s t hs ht
      subst hs ht
      rw [hf]
      simp only [fstW]
      split
      · rfl
      · rw [Option.map_map]; congr 1; funext x; simp
    have tail : ∀ (s t : Int), s = max (a.b - a.ea) r → t = max a.e (s + a.w) → if a.b < s then PyData.none = optD (fstW (-1000000000) E) else if a.e + a.la < t then PyData.none = optD (fstW (-1000000000) E) else (List.map prD (moms F)).length < 16777216 ∧
            ∃ (F_1 : List Pt) (r : Int) (fr : D) (s3 s4 s5 s6 s7 s8 s9 s10 s11 : Sl), [Sl.dat (PyData.tuple (List.map actD E)), Sl.own (List.map prD (moms F) ++ [PyData.tuple [PyData.int s, PyData.int t]]), Sl.dat (PyData.int (t + a.ch)), Sl.dat (PyData.str a.n), Sl.dat (PyData.int a.b), Sl.dat (PyData.int a.e), Sl.dat (PyData.int a.w), Sl.dat (PyData.int a.ea), Sl.dat (PyData.int a.la), Sl.dat (PyData.int a.ch), Sl.dat (PyData.int s), Sl.dat (PyData.int t)] =
                  [Sl.dat (PyData.tuple (List.map actD E)), Sl.own (List.map prD (moms F_1)), Sl.dat fr, s3, s4, s5, s6, s7, s8, s9, s10, s11] ∧ (wrS (some s3) = true ∧ wrS (some s4) = true ∧ wrS (some s5) = true ∧ wrS (some s6) = true ∧ wrS (some s7) = true ∧ wrS (some s8) = true ∧ wrS (some s9) = true ∧ wrS (some s10) = true ∧ wrS (some s11) = true) ∧
                  (fr = PyData.none ∧ r = -1000000000 ∨ fr = PyData.int r) ∧ fstW (-1000000000) E = Option.map (fun x => F_1 ++ x) (fstW r R) ∧ F_1.length + R.length = E.length ∧ ∀ (a : Act), a ∈ R → -1000000000 ≤ a.b - a.ea := by
      intro s t hs ht
      have w := wrap s t hs ht
      by_cases c1 : a.b < s
      · rw [if_pos c1, w, if_pos (.inl c1)]; rfl
      · rw [if_neg c1]
        by_cases c2 : a.e + a.la < t
        · rw [if_pos c2, w, if_pos (.inr c2)]; rfl
        · rw [if_neg c2]
          rw [if_neg (not_or.mpr ⟨c1, c2⟩)] at w
          have em : (moms (F ++ [(a, s, t)])).map prD = (moms F).map prD ++ [PyData.tuple [PyData.int s, PyData.int t]] := by simp [moms, prD]
          rw [← em]
          exact ⟨by simp [moms]; exact hF, F ++ [(a, s, t)], t + a.ch, .int (t + a.ch), _, _, _, _, _, _, _, _, _, rfl, ⟨rfl, rfl, rfl, rfl, rfl, rfl, rfl, rfl, rfl⟩, .inr rfl, w, by simp at hn ⊢; omega, hR'⟩
    rcases hfr with ⟨rfl, rfl⟩ | rfl
    · rw [show okO (dIsNone PyData.none PyData.none) = fun R => R true from rfl]
      walk_at "ev"
      exact tail _ _ (by omega) rfl
    · walk_at "ev"
      exact tail _ _ rfl rfl
  · rintro e ⟨F, r, fr, s3, s4, s5, s6, s7, s8, s9, s10, s11, rfl, ⟨h3, h4, h5, h6, h7, h8, h9, h10, h11⟩, hfr, hf, hn, hR⟩
    walk_at "ev"
    rw [hf]
    simp [fstW, optD, stD]

theorem last_whole_ok {E : List Act} (hl : E.length < 16777216) (hb : ∀ a ∈ E, a.e + a.la ≤ 1000000000 - a.ch) : f_last_whole [evD E] = .ok (optD ((lstW 1000000000 E.reverse).map List.reverse)) := by
  refine okF_eq ?_
  unfold f_last_whole runF m_last_whole evD
  rw [okF_ret]
  walk_at "ev"
  rw [← List.map_reverse]
  have hb' : ∀ a ∈ E.reverse, a.e + a.la ≤ 1000000000 - a.ch := fun a ha => hb a (List.mem_reverse.mp ha)
  have hl' : E.reverse.length < 16777216 := by rw [List.length_reverse]; exact hl
  generalize PyData.tuple (E.map actD) = e0
  generalize E.reverse = B at hb' hl'
  refine forA (fun R e => ∃ (F : List Pt) (r : Int) (fr : D) (s3 s4 s5 s6 s7 s8 s9 s10 s11 : Sl), e = [.dat e0, .own ((moms F).map prD), .dat fr, s3, s4, s5, s6, s7, s8, s9, s10, s11] ∧ (wrS (some s3) = true ∧ wrS (some s4) = true ∧ wrS (some s5) = true ∧ wrS (some s6) = true ∧ wrS (some s7) = true ∧ wrS (some s8) = true ∧ wrS (some s9) = true ∧ wrS (some s10) = true ∧ wrS (some s11) = true) ∧
    (fr = .none ∧ r = 1000000000 ∨ fr = .int r) ∧ lstW 1000000000 B = (lstW r R).map (F ++ ·) ∧ F.length + R.length = B.length ∧ ∀ a ∈ R, a.e + a.la ≤ 1000000000 - a.ch) B ?_ ?_ ?_
  · exact ⟨[], _, _, _, _, _, _, _, _, _, _, _, rfl, ⟨rfl, rfl, rfl, rfl, rfl, rfl, rfl, rfl, rfl⟩, .inl ⟨rfl, rfl⟩, by simp, by simp, hb'⟩
  · rintro a R e ⟨F, r, fr, s3, s4, s5, s6, s7, s8, s9, s10, s11, rfl, ⟨h3, h4, h5, h6, h7, h8, h9, h10, h11⟩, hfr, hf, hn, hR⟩
    have ha := hR a (.head _)
    have hR' : ∀ a ∈ R, a.e + a.la ≤ 1000000000 - a.ch := fun x hx => hR x (.tail _ hx)
    have hF : F.length < 16777216 := by simp at hn; omega
    simp only [actD]
    walk_at "ev"
    simp only [h3, h4, h5, h6, h7, h8, h9, h10, h11]
    walk_at "ev"
    have wrap : ∀ (t s : Int), t = min (a.e + a.la) (r - a.ch) → s = min a.b (t - a.w) → lstW 1000000000 B = if t < a.e ∨ s < a.b - a.ea then none else (lstW s R).map ((F ++ [(a, s, t)]) ++ ·) := by
      intro t s ht hs
      subst hs ht
      rw [hf]
      simp only [lstW]
      split
      · rfl
      · rw [Option.map_map]; congr 1; funext x; simp
    have tail : ∀ (t s : Int), t = min (a.e + a.la) (r - a.ch) → s = min a.b (t - a.w) → if t < a.e then PyData.none = optD ((lstW 1000000000 B).map List.reverse) else if s < a.b - a.ea then PyData.none = optD ((lstW 1000000000 B).map List.reverse) else (List.map prD (moms F)).length < 16777216 ∧
            ∃ (F_1 : List Pt) (r : Int) (fr : D) (s3 s4 s5 s6 s7 s8 s9 s10 s11 : Sl), [Sl.dat e0, Sl.own (List.map prD (moms F) ++ [PyData.tuple [PyData.int s, PyData.int t]]), Sl.dat (PyData.int s), Sl.dat (PyData.str a.n), Sl.dat (PyData.int a.b), Sl.dat (PyData.int a.e), Sl.dat (PyData.int a.w), Sl.dat (PyData.int a.ea), Sl.dat (PyData.int a.la), Sl.dat (PyData.int a.ch), Sl.dat (PyData.int t), Sl.dat (PyData.int s)] =
                  [Sl.dat e0, Sl.own (List.map prD (moms F_1)), Sl.dat fr, s3, s4, s5, s6, s7, s8, s9, s10, s11] ∧ (wrS (some s3) = true ∧ wrS (some s4) = true ∧ wrS (some s5) = true ∧ wrS (some s6) = true ∧ wrS (some s7) = true ∧ wrS (some s8) = true ∧ wrS (some s9) = true ∧ wrS (some s10) = true ∧ wrS (some s11) = true) ∧
                  (fr = PyData.none ∧ r = 1000000000 ∨ fr = PyData.int r) ∧ lstW 1000000000 B = Option.map (fun x => F_1 ++ x) (lstW r R) ∧ F_1.length + R.length = B.length ∧ ∀ (a : Act), a ∈ R → a.e + a.la ≤ 1000000000 - a.ch := by
      intro t s ht hs
      have w := wrap t s ht hs
      by_cases c1 : t < a.e
      · rw [if_pos c1, w, if_pos (.inl c1)]; rfl
      · rw [if_neg c1]
        by_cases c2 : s < a.b - a.ea
        · rw [if_pos c2, w, if_pos (.inr c2)]; rfl
        · rw [if_neg c2]
          rw [if_neg (not_or.mpr ⟨c1, c2⟩)] at w
          have em : (moms (F ++ [(a, s, t)])).map prD = (moms F).map prD ++ [PyData.tuple [PyData.int s, PyData.int t]] := by simp [moms, prD]
          rw [← em]
          exact ⟨by simp [moms]; exact hF, F ++ [(a, s, t)], s, .int s, _, _, _, _, _, _, _, _, _, rfl, ⟨rfl, rfl, rfl, rfl, rfl, rfl, rfl, rfl, rfl⟩, .inr rfl, w, by simp at hn ⊢; omega, hR'⟩
    rcases hfr with ⟨rfl, rfl⟩ | rfl
    · rw [show okO (dIsNone PyData.none PyData.none) = fun R => R true from rfl]
      walk_at "ev"
      exact tail _ _ (by omega) rfl
    · walk_at "ev"
      exact tail _ _ rfl rfl
  · rintro e ⟨F, r, fr, s3, s4, s5, s6, s7, s8, s9, s10, s11, rfl, ⟨h3, h4, h5, h6, h7, h8, h9, h10, h11⟩, hfr, hf, hn, hR⟩
    walk_at "ev"
    rw [hf]
    simp [lstW, optD, stD, moms]
end Lw

namespace Lw
open PySem DL
local macro_rules | `(tactic| walk_at "ev") => `(tactic| simp only [ok_ok, ok_bind, ok_pure, ok_opt, ok_var, ok_op, ok_opO, ok_un, ok_cmp, ok_B, ok_ite, ok_chain, ok_and, ok_or, ok_not, ok_ifE, ok_tru, ok_andV, ok_orV, ok_notV, ok_nil, ok_cons, ok_tup, ok_lst, ok_fz, ok_isi, ok_call, ok_callO, ok_noP, ok_part, ok_sl, ok_slAt, ok_ixO, ok_lenO, ok_move, ok_seq, ok_nx, ok_if, ok_ret, ok_retO, ok_drop, ok_store, ok_set, ok_setO, ok_asg, ok_dat, ok_own, ok_par2, ok_par3, ok_meth, ok_setIx, ok_extend, ok_frz, ok_cmpO, ok_rep, ok_listRg, ok_F, ok_FO, ok_FC, ok_FS, ok_items, ok_signs, ok_range1, ok_range2, ok_range3, ok_zip, ok_enum, ok_for, ok_comp,
  okO_some, okO_none, okF_ok, okC_ok, slD_dat, slL_own, slL_cel, ixP_own, ixP_cel, ixP_scr, isL_own, isL_cel, isL_scr, lenP_own, lenP_cel, lenP_scr, seqP_nx, seqP_rt, seqP_ro, seqP_ct, seqP_bk, wrS_un, wrS_dat, wrS_own, wrS_scr, okO_gN, okO_gTp, okO_gCons, okO_gNil, chgP_own, chgP_cel, okO_chg, ownB_own, ownB_cel, celP_own, celP_cel, scrP_scr, putSl_eq,
  v_addII, v_addIB, v_addTT, v_addLL, v_addSS, v_catLL, v_sub, v_mul, v_mod, v_div, v_pow, v_neg, v_cmp, v_eqII, v_neII, v_eqSS, v_neSS, v_isNone_n, v_isNone_b, v_isNone_i, v_isNone_s, v_isNone_l, v_isNone_t, v_notNone_n, v_notNone_b, v_notNone_i, v_notNone_s, v_notNone_l, v_notNone_t, v_isBl, v_in, v_notIn, v_inS, v_notInS, v_ixL, v_ixT, v_ixS, v_slL, v_slT, v_revL, v_revT, v_lenL, v_lenT, v_lenS, v_max2, v_min2, v_intB, v_intI, v_tupL, v_tupT, v_listL, v_listT, v_truB, v_truI, v_truN, v_blB, v_int, v_itL, v_itT, v_sig, v_rng1, v_rng2, v_lrg, v_zipL, v_zipT, v_zipTT, ok_lenSet, ok_listZip, sizeLine_eq, Nat.reduceLeDiff, Int.reduceLT, Int.reduceLE, atI0, atI1, atI2, atI3, atI4, atI5, atI6, atI_c, ixN0, ixN1, ixN2, okO_celAt, v_notBlT, v_notBlF, v_notBlG, v_notBlH, Int.reduceEq, Int.reduceNe, Int.cast_ofNat_Int, not_true_eq_false, not_false_eq_true, pow9, pow18, natAbs10, Bool.true_eq_false, cut_1, cut_nn, v_enum, v_app, v_setAt,
  List.getElem?_cons_zero, List.getElem?_cons_succ, List.set_cons_zero, List.set_cons_succ, List.length_cons, List.length_nil, List.map_cons, List.map_nil, envOf, List.cons_append, List.nil_append, List.replicate, wipeE, restE, keepS,
  decide_eq_true_eq, true_and, and_true, if_true, if_false, Bool.false_eq_true, Nat.reduceAdd, Nat.reduceSub, Nat.zero_add, Nat.sub_zero, Bool.not_true, Bool.not_false, Bool.not_eq_true', decide_eq_false_iff_not])
local macro_rules | `(tactic| walk_at "en") => `(tactic| simp only [ok_ok, ok_bind, ok_pure, ok_opt, ok_var, ok_op, ok_opO, ok_un, ok_cmp, ok_B, ok_ite, ok_chain, ok_and, ok_or, ok_not, ok_ifE, ok_tru, ok_andV, ok_orV, ok_notV, ok_nil, ok_cons, ok_tup, ok_lst, ok_fz, ok_isi, ok_call, ok_callO, ok_noP, ok_part, ok_sl, ok_slAt, ok_ixO, ok_lenO, ok_move, ok_seq, ok_nx, ok_if, ok_ret, ok_retO, ok_drop, ok_store, ok_set, ok_setO, ok_asg, ok_dat, ok_own, ok_par2, ok_par3, ok_meth, ok_setIx, ok_extend, ok_frz, ok_cmpO, ok_rep, ok_listRg, ok_F, ok_FO, ok_FC, ok_FS, ok_items, ok_signs, ok_range1, ok_range2, ok_range3, ok_zip, ok_enum, ok_for, ok_comp,
  okO_some, okO_none, okF_ok, okC_ok, slD_dat, slL_own, slL_cel, ixP_own, ixP_cel, ixP_scr, isL_own, isL_cel, isL_scr, lenP_own, lenP_cel, lenP_scr, seqP_nx, seqP_rt, seqP_ro, seqP_ct, seqP_bk, wrS_un, wrS_dat, wrS_own, wrS_scr, okO_gN, okO_gTp, okO_gCons, okO_gNil, chgP_own, chgP_cel, okO_chg, ownB_own, ownB_cel, celP_own, celP_cel, scrP_scr, putSl_eq,
  v_addII, v_addIB, v_addTT, v_addLL, v_addSS, v_catLL, v_sub, v_mul, v_mod, v_div, v_pow, v_neg, v_cmp, v_eqII, v_neII, v_eqSS, v_neSS, v_isNone_n, v_isNone_b, v_isNone_i, v_isNone_s, v_isNone_l, v_isNone_t, v_notNone_n, v_notNone_b, v_notNone_i, v_notNone_s, v_notNone_l, v_notNone_t, v_isBl, v_in, v_notIn, v_inS, v_notInS, v_ixL, v_ixT, v_ixS, v_slL, v_slT, v_revL, v_revT, v_lenL, v_lenT, v_lenS, v_max2, v_min2, v_intB, v_intI, v_tupL, v_tupT, v_listL, v_listT, v_truB, v_truI, v_truN, v_blB, v_int, v_itL, v_itT, v_sig, v_rng1, v_rng2, v_lrg, v_zipL, v_zipT, v_zipTT, ok_lenSet, ok_listZip, sizeLine_eq, Nat.reduceLeDiff, Int.reduceLT, Int.reduceLE, atI0, atI1, atI2, atI3, atI4, atI5, atI6, atI_c, ixN0, ixN1, ixN2, okO_celAt, v_notBlT, v_notBlF, v_notBlG, v_notBlH, Int.reduceEq, Int.reduceNe, Int.cast_ofNat_Int, not_true_eq_false, not_false_eq_true, pow9, pow18, natAbs10, Bool.true_eq_false, cut_1, cut_nn, v_enum, v_app, v_setAt,
  List.getElem?_cons_zero, List.getElem?_cons_succ, List.set_cons_zero, List.set_cons_succ, List.length_cons, List.length_nil, List.map_cons, List.map_nil, envOf, List.cons_append, List.nil_append, List.replicate, wipeE, restE, keepS,
  decide_eq_true_eq, true_and, and_true, if_true, if_false, Bool.false_eq_true, Nat.reduceAdd, Nat.reduceSub, Nat.zero_add, Nat.sub_zero, Bool.not_true, Bool.not_false, Bool.not_eq_true', decide_eq_false_iff_not,
  ok_par2N, ok_nApp, ok_nSet, ok_nIx, ok_frzN, nstB_nst, nstP_nst, onlyN_s, onlyN_z, noN_un, noN_dat, noN_own, noN_cel, noN_scr, allN_cons, allN_nil, Bool.and_true, Bool.true_and, Int.reduceNeg, ok_zipM, v_zipM])
local macro_rules | `(tactic| walk_at "rn") => `(tactic| simp only [ok_ok, ok_bind, ok_pure, ok_opt, ok_var, ok_op, ok_opO, ok_un, ok_cmp, ok_B, ok_ite, ok_chain, ok_and, ok_or, ok_not, ok_ifE, ok_tru, ok_andV, ok_orV, ok_notV, ok_nil, ok_cons, ok_tup, ok_lst, ok_fz, ok_isi, ok_call, ok_callO, ok_noP, ok_part, ok_sl, ok_slAt, ok_ixO, ok_lenO, ok_move, ok_seq, ok_nx, ok_if, ok_ret, ok_retO, ok_drop, ok_store, ok_set, ok_setO, ok_asg, ok_dat, ok_own, ok_par2, ok_par3, ok_meth, ok_setIx, ok_extend, ok_frz, ok_cmpO, ok_rep, ok_listRg, ok_F, ok_FO, ok_FC, ok_FS, ok_items, ok_signs, ok_range1, ok_range2, ok_range3, ok_zip, ok_enum, ok_for, ok_comp,
  okO_some, okO_none, okF_ok, okC_ok, slD_dat, slL_own, slL_cel, ixP_own, ixP_cel, ixP_scr, isL_own, isL_cel, isL_scr, lenP_own, lenP_cel, lenP_scr, seqP_nx, seqP_rt, seqP_ro, seqP_ct, seqP_bk, wrS_un, wrS_dat, wrS_own, wrS_scr, okO_gN, okO_gTp, okO_gCons, okO_gNil, chgP_own, chgP_cel, okO_chg, ownB_own, ownB_cel, celP_own, celP_cel, scrP_scr, putSl_eq,
  v_addII, v_addIB, v_addTT, v_addLL, v_addSS, v_catLL, v_sub, v_mul, v_mod, v_div, v_pow, v_neg, v_cmp, v_eqII, v_neII, v_eqSS, v_neSS, v_isNone_n, v_isNone_b, v_isNone_i, v_isNone_s, v_isNone_l, v_isNone_t, v_notNone_n, v_notNone_b, v_notNone_i, v_notNone_s, v_notNone_l, v_notNone_t, v_isBl, v_in, v_notIn, v_inS, v_notInS, v_ixL, v_ixT, v_ixS, v_slL, v_slT, v_revL, v_revT, v_lenL, v_lenT, v_lenS, v_max2, v_min2, v_intB, v_intI, v_tupL, v_tupT, v_listL, v_listT, v_truB, v_truI, v_truN, v_blB, v_int, v_itL, v_itT, v_sig, v_rng1, v_rng2, v_lrg, v_zipL, v_zipT, v_zipTT, ok_lenSet, ok_listZip, sizeLine_eq, Nat.reduceLeDiff, Int.reduceLT, Int.reduceLE, atI0, atI1, atI2, atI3, atI4, atI5, atI6, atI_c, ixN0, ixN1, ixN2, okO_celAt, v_notBlT, v_notBlF, v_notBlG, v_notBlH, Int.reduceEq, Int.reduceNe, Int.cast_ofNat_Int, not_true_eq_false, not_false_eq_true, pow9, pow18, natAbs10, Bool.true_eq_false, cut_1, cut_nn, v_enum, v_app, v_setAt,
  List.getElem?_cons_zero, List.getElem?_cons_succ, List.set_cons_zero, List.set_cons_succ, List.length_cons, List.length_nil, List.map_cons, List.map_nil, envOf, List.cons_append, List.nil_append, List.replicate, wipeE, restE, keepS,
  decide_eq_true_eq, true_and, and_true, if_true, if_false, Bool.false_eq_true, Nat.reduceAdd, Nat.reduceSub, Nat.zero_add, Nat.sub_zero, Bool.not_true, Bool.not_false, Bool.not_eq_true', decide_eq_false_iff_not,
  ok_par2N, ok_nApp, ok_nSet, ok_nIx, ok_frzN, nstB_nst, nstP_nst, onlyN_s, onlyN_z, noN_un, noN_dat, noN_own, noN_cel, noN_scr, allN_cons, allN_nil, Bool.and_true, Bool.true_and, Int.reduceNeg, ok_zipM, v_zipM, shEarly, shEnd, shBegin, shLate, neEE, neEE2, neBL, neBL2, eq_self, if_neg_f, decide_true, decide_false, Bool.and_false, Bool.false_and])
/-! ## whole standings, plainly -/
def Wh (T : List Pt) : Prop := ∀ t ∈ T, t.1.w ≤ t.2.2 - t.2.1
def LeT : List Pt → List Pt → Prop
  | [], [] => True
  | t :: T, t' :: T' => t.2.1 ≤ t'.2.1 ∧ t.2.2 ≤ t'.2.2 ∧ LeT T T'
  | _, _ => False
theorem fst_some : ∀ {E : List Act} {r : Int} {T : List Pt}, fstW r E = some T → (∀ a ∈ E, a.b < a.e ∧ 0 ≤ a.ch) → acts T = E ∧ Sd r T ∧ Wh T
  | [], r, T, h, _ => by cases h; exact ⟨rfl, trivial, by simp [Wh]⟩
  | a :: E, r, T, h, hg => by
    simp only [fstW] at h
    by_cases c : a.b < max (a.b - a.ea) r ∨ a.e + a.la < max a.e (max (a.b - a.ea) r + a.w)
    · rw [if_pos c] at h; cases h
    · rw [if_neg c] at h
      obtain ⟨U, hU, rfl⟩ := Option.map_eq_some_iff.mp h
      obtain ⟨h1, h2, h3⟩ := fst_some hU fun x hx => hg x (.tail _ hx)
      rw [not_or] at c
      refine ⟨by rw [← h1]; rfl, ⟨⟨by dsimp only; omega, by dsimp only; omega, by dsimp only; omega, by dsimp only; omega, by dsimp only; omega⟩, h2⟩, fun t ht => ?_⟩
      rcases List.mem_cons.mp ht with rfl | ht
      · dsimp only; omega
      · exact h3 t ht
theorem fst_least : ∀ {T' : List Pt} {r r' : Int}, Sd r' T' → r ≤ r' → Wh T' → ∃ T, fstW r (acts T') = some T ∧ LeT T T'
  | [], r, r', _, _, _ => ⟨[], rfl, trivial⟩
  | t :: T', r, r', ⟨⟨g1, g2, g3, g4, g5⟩, g6⟩, hr, hw => by
    have w0 := hw t (.head _)
    obtain ⟨T, h1, h2⟩ := fst_least (r := max t.1.e (max (t.1.b - t.1.ea) r + t.1.w) + t.1.ch) g6 (by omega) fun x hx => hw x (.tail _ hx)
    refine ⟨(t.1, max (t.1.b - t.1.ea) r, max t.1.e (max (t.1.b - t.1.ea) r + t.1.w)) :: T, ?_, ?_, ?_, h2⟩
    · show fstW r (t.1 :: acts T') = _
      simp only [fstW]
      rw [if_neg (not_or.mpr ⟨by omega, by omega⟩), h1]
      rfl
    · dsimp only; omega
    · dsimp only; omega
/-- a standing, from behind -/
def Sr : Int → List Pt → Prop
  | _, [] => True
  | n, t :: T => (t.1.b - t.1.ea ≤ t.2.1 ∧ t.2.1 ≤ t.1.b ∧ t.1.e ≤ t.2.2 ∧ t.2.2 ≤ t.1.e + t.1.la ∧ t.2.2 + t.1.ch ≤ n) ∧ Sr t.2.1 T
theorem lst_some : ∀ {E : List Act} {r : Int} {T : List Pt}, lstW r E = some T → (∀ a ∈ E, a.b < a.e ∧ 0 ≤ a.ch) → acts T = E ∧ Sr r T ∧ Wh T
  | [], r, T, h, _ => by cases h; exact ⟨rfl, trivial, by simp [Wh]⟩
  | a :: E, r, T, h, hg => by
    simp only [lstW] at h
    by_cases c : min (a.e + a.la) (r - a.ch) < a.e ∨ min a.b (min (a.e + a.la) (r - a.ch) - a.w) < a.b - a.ea
    · rw [if_pos c] at h; cases h
    · rw [if_neg c] at h
      obtain ⟨U, hU, rfl⟩ := Option.map_eq_some_iff.mp h
      obtain ⟨h1, h2, h3⟩ := lst_some hU fun x hx => hg x (.tail _ hx)
      rw [not_or] at c
      refine ⟨by rw [← h1]; rfl, ⟨⟨by dsimp only; omega, by dsimp only; omega, by dsimp only; omega, by dsimp only; omega, by dsimp only; omega⟩, h2⟩, fun t ht => ?_⟩
      rcases List.mem_cons.mp ht with rfl | ht
      · dsimp only; omega
      · exact h3 t ht
theorem lst_most : ∀ {T' : List Pt} {r r' : Int}, Sr r' T' → r' ≤ r → Wh T' → ∃ T, lstW r (acts T') = some T ∧ LeT T' T
  | [], r, r', _, _, _ => ⟨[], rfl, trivial⟩
  | t :: T', r, r', ⟨⟨g1, g2, g3, g4, g5⟩, g6⟩, hr, hw => by
    have w0 := hw t (.head _)
    obtain ⟨T, h1, h2⟩ := lst_most (r := min t.1.b (min (t.1.e + t.1.la) (r - t.1.ch) - t.1.w)) g6 (by omega) fun x hx => hw x (.tail _ hx)
    refine ⟨(t.1, min t.1.b (min (t.1.e + t.1.la) (r - t.1.ch) - t.1.w), min (t.1.e + t.1.la) (r - t.1.ch)) :: T, ?_, ?_, ?_, h2⟩
    · show lstW r (t.1 :: acts T') = _
      simp only [lstW]
      rw [if_neg (not_or.mpr ⟨by omega, by omega⟩), h1]
      rfl
    · dsimp only; omega
    · dsimp only; omega
def Bd (t : Pt) : Prop := t.1.b - t.1.ea ≤ t.2.1 ∧ t.2.1 ≤ t.1.b ∧ t.1.e ≤ t.2.2 ∧ t.2.2 ≤ t.1.e + t.1.la
def Rl (t t' : Pt) : Prop := t.2.2 + t.1.ch ≤ t'.2.1
theorem sd_iff : ∀ {T : List Pt} {r : Int}, (∀ t ∈ T, t.1.b < t.1.e ∧ 0 ≤ t.1.ch) → (Sd r T ↔ (∀ t ∈ T, Bd t ∧ r ≤ t.2.1) ∧ T.Pairwise Rl)
  | [], r, _ => by simp [Sd]
  | t :: T, r, hg => by
    have ih := sd_iff (T := T) (r := t.2.2 + t.1.ch) fun x hx => hg x (.tail _ hx)
    have g0 := hg t (.head _)
    simp only [Sd, ih, List.pairwise_cons, List.mem_cons, forall_eq_or_imp]
    constructor
    · rintro ⟨⟨h1, h2, h3, h4, h5⟩, h6, h7⟩
      exact ⟨⟨⟨⟨h1, h2, h3, h4⟩, h5⟩, fun x hx => ⟨(h6 x hx).1, by have := (h6 x hx).2; omega⟩⟩, fun x hx => (h6 x hx).2, h7⟩
    · rintro ⟨⟨⟨⟨h1, h2, h3, h4⟩, h5⟩, h6⟩, h7, h8⟩
      exact ⟨⟨h1, h2, h3, h4, h5⟩, fun x hx => ⟨(h6 x hx).1, h7 x hx⟩, h8⟩
theorem sr_iff : ∀ {T : List Pt} {r : Int}, (∀ t ∈ T, t.1.b < t.1.e ∧ 0 ≤ t.1.ch) → (Sr r T ↔ (∀ t ∈ T, Bd t ∧ t.2.2 + t.1.ch ≤ r) ∧ T.Pairwise fun a b => Rl b a)
  | [], r, _ => by simp [Sr]
  | t :: T, r, hg => by
    have ih := sr_iff (T := T) (r := t.2.1) fun x hx => hg x (.tail _ hx)
    have g0 := hg t (.head _)
    simp only [Sr, ih, List.pairwise_cons, List.mem_cons, forall_eq_or_imp]
    constructor
    · rintro ⟨⟨h1, h2, h3, h4, h5⟩, h6, h7⟩
      exact ⟨⟨⟨⟨h1, h2, h3, h4⟩, h5⟩, fun x hx => ⟨(h6 x hx).1, by have := (h6 x hx).2; omega⟩⟩, fun x hx => (h6 x hx).2, h7⟩
    · rintro ⟨⟨⟨⟨h1, h2, h3, h4⟩, h5⟩, h6⟩, h7, h8⟩
      exact ⟨⟨h1, h2, h3, h4, h5⟩, fun x hx => ⟨(h6 x hx).1, h7 x hx⟩, h8⟩
/-- a standing of an evening -/
structure St (E : List Act) (T : List Pt) : Prop where
  ac : acts T = E
  bd : ∀ t ∈ T, Bd t
  rl : T.Pairwise Rl
/-- acts that are no worse than those of an evening -/
structure EvLo (E : List Act) : Prop where
  g : ∀ a ∈ E, a.b < a.e ∧ 0 ≤ a.ch
  lo : ∀ a ∈ E, -1000000000 ≤ a.b - a.ea
  hi : ∀ a ∈ E, a.e + a.la ≤ 1000000000 - a.ch
theorem EvOk.low {E : List Act} (h : EvOk E) : EvLo E :=
  ⟨fun a ha => by obtain ⟨_, h1, h2, h3, h4, h5⟩ := h.act a ha; omega, fun a ha => by obtain ⟨_, h1, h2, h3, h4, h5⟩ := h.act a ha; omega, fun a ha => by obtain ⟨_, h1, h2, h3, h4, h5⟩ := h.act a ha; omega⟩
theorem ga_of {E : List Act} {T : List Pt} (h : EvLo E) (e : acts T = E) : ∀ t ∈ T, t.1.b < t.1.e ∧ 0 ≤ t.1.ch := fun t ht => h.g t.1 (by rw [← e]; exact List.mem_map_of_mem ht (f := (·.1)))
theorem st_sd {E : List Act} {T : List Pt} (h : EvLo E) : St E T ↔ acts T = E ∧ Sd (-1000000000) T := by
  constructor
  · intro s
    refine ⟨s.ac, (sd_iff (ga_of h s.ac)).mpr ⟨fun t ht => ⟨s.bd t ht, ?_⟩, s.rl⟩⟩
    have h1 := h.lo t.1 (by rw [← s.ac]; exact List.mem_map_of_mem ht (f := (·.1)))
    have h2 := (s.bd t ht).1
    omega
  · rintro ⟨e, s⟩
    have := (sd_iff (ga_of h e)).mp s
    exact ⟨e, fun t ht => (this.1 t ht).1, this.2⟩
theorem st_sr {E : List Act} {T : List Pt} (h : EvLo E) : St E T ↔ acts T.reverse = E.reverse ∧ Sr 1000000000 T.reverse := by
  have e1 : acts T.reverse = E.reverse ↔ acts T = E := by
    unfold acts
    rw [List.map_reverse, List.reverse_inj]
  rw [e1]
  constructor
  · intro s
    refine ⟨s.ac, (sr_iff fun t ht => ga_of h s.ac t (List.mem_reverse.mp ht)).mpr ⟨fun t ht => ?_, List.pairwise_reverse.mpr s.rl⟩⟩
    have ht := List.mem_reverse.mp ht
    have h1 := h.hi t.1 (by rw [← s.ac]; exact List.mem_map_of_mem ht (f := (·.1)))
    have h2 := (s.bd t ht).2.2.2
    exact ⟨s.bd t ht, by omega⟩
  · rintro ⟨e, s⟩
    have := (sr_iff fun t ht => ga_of h e t (List.mem_reverse.mp ht)).mp s
    exact ⟨e, fun t ht => (this.1 t (List.mem_reverse.mpr ht)).1, List.pairwise_reverse.mp this.2⟩
def firstW (E : List Act) : Option (List Pt) := fstW (-1000000000) E
def lastW (E : List Act) : Option (List Pt) := (lstW 1000000000 E.reverse).map List.reverse
theorem LeT.iff : ∀ {T T' : List Pt}, LeT T T' ↔ T.length = T'.length ∧ ∀ (i : Nat) (t t' : Pt), T[i]? = some t → T'[i]? = some t' → t.2.1 ≤ t'.2.1 ∧ t.2.2 ≤ t'.2.2
  | [], [] => by simp [LeT]
  | [], _ :: _ => by simp [LeT]
  | _ :: _, [] => by simp [LeT]
  | a :: T, b :: T' => by
    have ih := LeT.iff (T := T) (T' := T')
    simp only [LeT, ih, List.length_cons]
    constructor
    · rintro ⟨h1, h2, h3, h4⟩
      refine ⟨by omega, fun i t t' e e' => ?_⟩
      cases i with
      | zero => simp at e e'; subst e e'; exact ⟨h1, h2⟩
      | succ i => exact h4 i t t' (by simpa using e) (by simpa using e')
    · rintro ⟨h1, h2⟩
      have := h2 0 a b rfl rfl
      exact ⟨this.1, this.2, by omega, fun i t t' e e' => h2 (i + 1) t t' (by simpa using e) (by simpa using e')⟩
theorem LeT.rev {T T' : List Pt} (h : LeT T T') : LeT T.reverse T'.reverse := by
  obtain ⟨h1, h2⟩ := LeT.iff.mp h
  refine LeT.iff.mpr ⟨by simp [h1], fun i t t' e e' => ?_⟩
  have lt : i < T.length := by simpa using (List.getElem?_eq_some_iff.mp e).1
  rw [List.getElem?_reverse lt] at e
  rw [List.getElem?_reverse (by omega), ← h1] at e'
  exact h2 _ t t' e e'
theorem first_some {E : List Act} {T : List Pt} (h : EvLo E) (e : firstW E = some T) : St E T ∧ Wh T ∧ ∀ T', St E T' → Wh T' → LeT T T' := by
  obtain ⟨h1, h2, h3⟩ := fst_some e h.g
  refine ⟨(st_sd h).mpr ⟨h1, h2⟩, h3, fun T' s w => ?_⟩
  obtain ⟨e', s'⟩ := (st_sd h).mp s
  obtain ⟨U, hU, le⟩ := fst_least s' (Int.le_refl _) w
  rw [e', show fstW (-1000000000) E = some T from e] at hU
  cases hU
  exact le
theorem first_none {E : List Act} (h : EvLo E) (e : firstW E = none) {T' : List Pt} (s : St E T') (w : Wh T') : False := by
  obtain ⟨e', s'⟩ := (st_sd h).mp s
  obtain ⟨U, hU, le⟩ := fst_least s' (Int.le_refl _) w
  rw [e', show fstW (-1000000000) E = none from e] at hU
  cases hU
theorem last_some {E : List Act} {T : List Pt} (h : EvLo E) (e : lastW E = some T) : St E T ∧ Wh T ∧ ∀ T', St E T' → Wh T' → LeT T' T := by
  obtain ⟨U, hU, rfl⟩ := Option.map_eq_some_iff.mp e
  obtain ⟨h1, h2, h3⟩ := lst_some hU fun a ha => h.g a (List.mem_reverse.mp ha)
  refine ⟨(st_sr h).mpr ⟨by rw [List.reverse_reverse]; exact h1, by rw [List.reverse_reverse]; exact h2⟩, fun t ht => h3 t (List.mem_reverse.mp ht), fun T' s w => ?_⟩
  obtain ⟨e', s'⟩ := (st_sr h).mp s
  obtain ⟨V, hV, le⟩ := lst_most s' (Int.le_refl _) fun t ht => w t (List.mem_reverse.mp ht)
  rw [e', hU] at hV
  cases hV
  have := le.rev
  rwa [List.reverse_reverse] at this
theorem last_none {E : List Act} (h : EvLo E) (e : lastW E = none) {T' : List Pt} (s : St E T') (w : Wh T') : False := by
  have hU := Option.map_eq_none_iff.mp e
  obtain ⟨e', s'⟩ := (st_sr h).mp s
  obtain ⟨V, hV, le⟩ := lst_most s' (Int.le_refl _) fun t ht => w t (List.mem_reverse.mp ht)
  rw [e', hU] at hV
  cases hV
end Lw

namespace Lw
open PySem DL
local macro_rules | `(tactic| walk_at "ev") => `(tactic| simp only [ok_ok, ok_bind, ok_pure, ok_opt, ok_var, ok_op, ok_opO, ok_un, ok_cmp, ok_B, ok_ite, ok_chain, ok_and, ok_or, ok_not, ok_ifE, ok_tru, ok_andV, ok_orV, ok_notV, ok_nil, ok_cons, ok_tup, ok_lst, ok_fz, ok_isi, ok_call, ok_callO, ok_noP, ok_part, ok_sl, ok_slAt, ok_ixO, ok_lenO, ok_move, ok_seq, ok_nx, ok_if, ok_ret, ok_retO, ok_drop, ok_store, ok_set, ok_setO, ok_asg, ok_dat, ok_own, ok_par2, ok_par3, ok_meth, ok_setIx, ok_extend, ok_frz, ok_cmpO, ok_rep, ok_listRg, ok_F, ok_FO, ok_FC, ok_FS, ok_items, ok_signs, ok_range1, ok_range2, ok_range3, ok_zip, ok_enum, ok_for, ok_comp,
  okO_some, okO_none, okF_ok, okC_ok, slD_dat, slL_own, slL_cel, ixP_own, ixP_cel, ixP_scr, isL_own, isL_cel, isL_scr, lenP_own, lenP_cel, lenP_scr, seqP_nx, seqP_rt, seqP_ro, seqP_ct, seqP_bk, wrS_un, wrS_dat, wrS_own, wrS_scr, okO_gN, okO_gTp, okO_gCons, okO_gNil, chgP_own, chgP_cel, okO_chg, ownB_own, ownB_cel, celP_own, celP_cel, scrP_scr, putSl_eq,
  v_addII, v_addIB, v_addTT, v_addLL, v_addSS, v_catLL, v_sub, v_mul, v_mod, v_div, v_pow, v_neg, v_cmp, v_eqII, v_neII, v_eqSS, v_neSS, v_isNone_n, v_isNone_b, v_isNone_i, v_isNone_s, v_isNone_l, v_isNone_t, v_notNone_n, v_notNone_b, v_notNone_i, v_notNone_s, v_notNone_l, v_notNone_t, v_isBl, v_in, v_notIn, v_inS, v_notInS, v_ixL, v_ixT, v_ixS, v_slL, v_slT, v_revL, v_revT, v_lenL, v_lenT, v_lenS, v_max2, v_min2, v_intB, v_intI, v_tupL, v_tupT, v_listL, v_listT, v_truB, v_truI, v_truN, v_blB, v_int, v_itL, v_itT, v_sig, v_rng1, v_rng2, v_lrg, v_zipL, v_zipT, v_zipTT, ok_lenSet, ok_listZip, sizeLine_eq, Nat.reduceLeDiff, Int.reduceLT, Int.reduceLE, atI0, atI1, atI2, atI3, atI4, atI5, atI6, atI_c, ixN0, ixN1, ixN2, okO_celAt, v_notBlT, v_notBlF, v_notBlG, v_notBlH, Int.reduceEq, Int.reduceNe, Int.cast_ofNat_Int, not_true_eq_false, not_false_eq_true, pow9, pow18, natAbs10, Bool.true_eq_false, cut_1, cut_nn, v_enum, v_app, v_setAt,
  List.getElem?_cons_zero, List.getElem?_cons_succ, List.set_cons_zero, List.set_cons_succ, List.length_cons, List.length_nil, List.map_cons, List.map_nil, envOf, List.cons_append, List.nil_append, List.replicate, wipeE, restE, keepS,
  decide_eq_true_eq, true_and, and_true, if_true, if_false, Bool.false_eq_true, Nat.reduceAdd, Nat.reduceSub, Nat.zero_add, Nat.sub_zero, Bool.not_true, Bool.not_false, Bool.not_eq_true', decide_eq_false_iff_not])
local macro_rules | `(tactic| walk_at "en") => `(tactic| simp only [ok_ok, ok_bind, ok_pure, ok_opt, ok_var, ok_op, ok_opO, ok_un, ok_cmp, ok_B, ok_ite, ok_chain, ok_and, ok_or, ok_not, ok_ifE, ok_tru, ok_andV, ok_orV, ok_notV, ok_nil, ok_cons, ok_tup, ok_lst, ok_fz, ok_isi, ok_call, ok_callO, ok_noP, ok_part, ok_sl, ok_slAt, ok_ixO, ok_lenO, ok_move, ok_seq, ok_nx, ok_if, ok_ret, ok_retO, ok_drop, ok_store, ok_set, ok_setO, ok_asg, ok_dat, ok_own, ok_par2, ok_par3, ok_meth, ok_setIx, ok_extend, ok_frz, ok_cmpO, ok_rep, ok_listRg, ok_F, ok_FO, ok_FC, ok_FS, ok_items, ok_signs, ok_range1, ok_range2, ok_range3, ok_zip, ok_enum, ok_for, ok_comp,
  okO_some, okO_none, okF_ok, okC_ok, slD_dat, slL_own, slL_cel, ixP_own, ixP_cel, ixP_scr, isL_own, isL_cel, isL_scr, lenP_own, lenP_cel, lenP_scr, seqP_nx, seqP_rt, seqP_ro, seqP_ct, seqP_bk, wrS_un, wrS_dat, wrS_own, wrS_scr, okO_gN, okO_gTp, okO_gCons, okO_gNil, chgP_own, chgP_cel, okO_chg, ownB_own, ownB_cel, celP_own, celP_cel, scrP_scr, putSl_eq,
  v_addII, v_addIB, v_addTT, v_addLL, v_addSS, v_catLL, v_sub, v_mul, v_mod, v_div, v_pow, v_neg, v_cmp, v_eqII, v_neII, v_eqSS, v_neSS, v_isNone_n, v_isNone_b, v_isNone_i, v_isNone_s, v_isNone_l, v_isNone_t, v_notNone_n, v_notNone_b, v_notNone_i, v_notNone_s, v_notNone_l, v_notNone_t, v_isBl, v_in, v_notIn, v_inS, v_notInS, v_ixL, v_ixT, v_ixS, v_slL, v_slT, v_revL, v_revT, v_lenL, v_lenT, v_lenS, v_max2, v_min2, v_intB, v_intI, v_tupL, v_tupT, v_listL, v_listT, v_truB, v_truI, v_truN, v_blB, v_int, v_itL, v_itT, v_sig, v_rng1, v_rng2, v_lrg, v_zipL, v_zipT, v_zipTT, ok_lenSet, ok_listZip, sizeLine_eq, Nat.reduceLeDiff, Int.reduceLT, Int.reduceLE, atI0, atI1, atI2, atI3, atI4, atI5, atI6, atI_c, ixN0, ixN1, ixN2, okO_celAt, v_notBlT, v_notBlF, v_notBlG, v_notBlH, Int.reduceEq, Int.reduceNe, Int.cast_ofNat_Int, not_true_eq_false, not_false_eq_true, pow9, pow18, natAbs10, Bool.true_eq_false, cut_1, cut_nn, v_enum, v_app, v_setAt,
  List.getElem?_cons_zero, List.getElem?_cons_succ, List.set_cons_zero, List.set_cons_succ, List.length_cons, List.length_nil, List.map_cons, List.map_nil, envOf, List.cons_append, List.nil_append, List.replicate, wipeE, restE, keepS,
  decide_eq_true_eq, true_and, and_true, if_true, if_false, Bool.false_eq_true, Nat.reduceAdd, Nat.reduceSub, Nat.zero_add, Nat.sub_zero, Bool.not_true, Bool.not_false, Bool.not_eq_true', decide_eq_false_iff_not,
  ok_par2N, ok_nApp, ok_nSet, ok_nIx, ok_frzN, nstB_nst, nstP_nst, onlyN_s, onlyN_z, noN_un, noN_dat, noN_own, noN_cel, noN_scr, allN_cons, allN_nil, Bool.and_true, Bool.true_and, Int.reduceNeg, ok_zipM, v_zipM])
local macro_rules | `(tactic| walk_at "rn") => `(tactic| simp only [ok_ok, ok_bind, ok_pure, ok_opt, ok_var, ok_op, ok_opO, ok_un, ok_cmp, ok_B, ok_ite, ok_chain, ok_and, ok_or, ok_not, ok_ifE, ok_tru, ok_andV, ok_orV, ok_notV, ok_nil, ok_cons, ok_tup, ok_lst, ok_fz, ok_isi, ok_call, ok_callO, ok_noP, ok_part, ok_sl, ok_slAt, ok_ixO, ok_lenO, ok_move, ok_seq, ok_nx, ok_if, ok_ret, ok_retO, ok_drop, ok_store, ok_set, ok_setO, ok_asg, ok_dat, ok_own, ok_par2, ok_par3, ok_meth, ok_setIx, ok_extend, ok_frz, ok_cmpO, ok_rep, ok_listRg, ok_F, ok_FO, ok_FC, ok_FS, ok_items, ok_signs, ok_range1, ok_range2, ok_range3, ok_zip, ok_enum, ok_for, ok_comp,
  okO_some, okO_none, okF_ok, okC_ok, slD_dat, slL_own, slL_cel, ixP_own, ixP_cel, ixP_scr, isL_own, isL_cel, isL_scr, lenP_own, lenP_cel, lenP_scr, seqP_nx, seqP_rt, seqP_ro, seqP_ct, seqP_bk, wrS_un, wrS_dat, wrS_own, wrS_scr, okO_gN, okO_gTp, okO_gCons, okO_gNil, chgP_own, chgP_cel, okO_chg, ownB_own, ownB_cel, celP_own, celP_cel, scrP_scr, putSl_eq,
  v_addII, v_addIB, v_addTT, v_addLL, v_addSS, v_catLL, v_sub, v_mul, v_mod, v_div, v_pow, v_neg, v_cmp, v_eqII, v_neII, v_eqSS, v_neSS, v_isNone_n, v_isNone_b, v_isNone_i, v_isNone_s, v_isNone_l, v_isNone_t, v_notNone_n, v_notNone_b, v_notNone_i, v_notNone_s, v_notNone_l, v_notNone_t, v_isBl, v_in, v_notIn, v_inS, v_notInS, v_ixL, v_ixT, v_ixS, v_slL, v_slT, v_revL, v_revT, v_lenL, v_lenT, v_lenS, v_max2, v_min2, v_intB, v_intI, v_tupL, v_tupT, v_listL, v_listT, v_truB, v_truI, v_truN, v_blB, v_int, v_itL, v_itT, v_sig, v_rng1, v_rng2, v_lrg, v_zipL, v_zipT, v_zipTT, ok_lenSet, ok_listZip, sizeLine_eq, Nat.reduceLeDiff, Int.reduceLT, Int.reduceLE, atI0, atI1, atI2, atI3, atI4, atI5, atI6, atI_c, ixN0, ixN1, ixN2, okO_celAt, v_notBlT, v_notBlF, v_notBlG, v_notBlH, Int.reduceEq, Int.reduceNe, Int.cast_ofNat_Int, not_true_eq_false, not_false_eq_true, pow9, pow18, natAbs10, Bool.true_eq_false, cut_1, cut_nn, v_enum, v_app, v_setAt,
  List.getElem?_cons_zero, List.getElem?_cons_succ, List.set_cons_zero, List.set_cons_succ, List.length_cons, List.length_nil, List.map_cons, List.map_nil, envOf, List.cons_append, List.nil_append, List.replicate, wipeE, restE, keepS,
  decide_eq_true_eq, true_and, and_true, if_true, if_false, Bool.false_eq_true, Nat.reduceAdd, Nat.reduceSub, Nat.zero_add, Nat.sub_zero, Bool.not_true, Bool.not_false, Bool.not_eq_true', decide_eq_false_iff_not,
  ok_par2N, ok_nApp, ok_nSet, ok_nIx, ok_frzN, nstB_nst, nstP_nst, onlyN_s, onlyN_z, noN_un, noN_dat, noN_own, noN_cel, noN_scr, allN_cons, allN_nil, Bool.and_true, Bool.true_and, Int.reduceNeg, ok_zipM, v_zipM, shEarly, shEnd, shBegin, shLate, neEE, neEE2, neBL, neBL2, eq_self, if_neg_f, decide_true, decide_false, Bool.and_false, Bool.false_and])
/-! ## whole standings, told -/
theorem earliest_good {E : List Act} (h : EvOk E) : f_earliest [evD E] = .ok (optD (firstW E)) := by
  refine okF_eq ?_
  unfold f_earliest runF m_earliest
  rw [okF_ret]
  walk_at "ev"
  rw [need_evening_good h]
  walk_at "ev"
  rw [first_whole_ok (by have := h.hi; omega) h.low.lo]
  walk_at "ev"
  rfl
theorem latest_good {E : List Act} (h : EvOk E) : f_latest [evD E] = .ok (optD (lastW E)) := by
  refine okF_eq ?_
  unfold f_latest runF m_latest
  rw [okF_ret]
  walk_at "ev"
  rw [need_evening_good h]
  walk_at "ev"
  rw [last_whole_ok (by have := h.hi; omega) h.low.hi]
  walk_at "ev"
  rfl
theorem set_take {α : Type} {xs : List α} {i : Nat} (h : i < xs.length) (x : α) : xs.take i ++ [x] ++ xs.drop (i + 1) = xs.set i x := by
  rw [List.set_eq_take_append_cons_drop, if_pos h, List.append_assoc]; rfl
theorem law_with_ok {xs ys : List D} {i k : Nat} {v : D} (hx : xs[i]? = some (.tuple ys)) (hk : k < ys.length) (hxl : xs.length ≤ 1000) (hyl : ys.length ≤ 1000) :
    f__law_with [.tuple xs, .int i, .int k, v] = .ok (.tuple (xs.set i (.tuple (ys.set k v)))) := by
  have hi := (List.getElem?_eq_some_iff.mp hx).1
  refine okF_eq ?_
  unfold f__law_with runF m__law_with
  rw [okF_ret]
  walk_at "ev"
  rw [hx]
  walk_at "ev"
  simp only [cut_hi _ (Int.natCast_nonneg _), Int.toNat_natCast]
  try walk_at "ev"
  simp only [cut_lo _ (show (0 : Int) ≤ (k : Int) + 1 by omega), cut_lo _ (show (0 : Int) ≤ (i : Int) + 1 by omega), show ((k : Int) + 1).toNat = k + 1 by omega, show ((i : Int) + 1).toNat = i + 1 by omega]
  rw [set_take hk, set_take hi]
  simp only [List.length_append, List.length_take, List.length_drop, List.length_cons, List.length_nil]
  exact ⟨by omega, by omega, by omega, by omega, trivial⟩
def setA (a : Act) (k : Nat) (v : Int) : Act := match k with
  | 3 => { a with w := v }
  | 4 => { a with ea := v }
  | 5 => { a with la := v }
  | _ => { a with ch := v }
theorem law_with_act {E : List Act} {i k : Nat} {a : Act} {v : Int} (ha : E[i]? = some a) (hk : 3 ≤ k ∧ k ≤ 6) (hl : E.length ≤ 1000) : f__law_with [evD E, .int i, .int k, .int v] = .ok (evD (E.set i (setA a k v))) := by
  have hx : (E.map actD)[i]? = some (.tuple [.str a.n, .int a.b, .int a.e, .int a.w, .int a.ea, .int a.la, .int a.ch]) := by rw [List.getElem?_map, ha]; rfl
  unfold evD
  rw [law_with_ok hx (by simp; omega) (by rw [List.length_map]; exact hl) (by simp)]
  congr 2
  rw [List.map_set]
  congr 1
  obtain ⟨h1, h2⟩ := hk
  have : k = 3 ∨ k = 4 ∨ k = 5 ∨ k = 6 := by omega
  rcases this with rfl | rfl | rfl | rfl <;> rfl
theorem st_set {E : List Act} {T : List Pt} {i : Nat} {t : Pt} {a' : Act} (s : St E T) (ht : T[i]? = some t) (hch : a'.ch = t.1.ch) (hb : Bd (a', t.2)) : St (E.set i a') (T.set i (a', t.2)) := by
  refine ⟨?_, fun u hu => ?_, ?_⟩
  · unfold acts; rw [List.map_set, ← s.ac]; rfl
  · rcases List.mem_or_eq_of_mem_set hu with h | h
    · exact s.bd u h
    · rw [h]; exact hb
  · have hp := List.pairwise_iff_getElem.mp s.rl
    have key : ∀ (j : Nat) (hj : j < (T.set i (a', t.2)).length), (T.set i (a', t.2))[j].2 = (T[j]'(by simpa using hj)).2 ∧ (T.set i (a', t.2))[j].1.ch = (T[j]'(by simpa using hj)).1.ch := fun j hj => by
      rw [List.getElem_set]
      split
      · rename_i e
        subst e
        have := (List.getElem?_eq_some_iff.mp ht).2
        rw [this]
        exact ⟨rfl, hch⟩
      · exact ⟨rfl, rfl⟩
    refine List.pairwise_iff_getElem.mpr fun j l hj hl hjl => ?_
    have h0 := hp j l (by simpa using hj) (by simpa using hl) hjl
    unfold Rl at h0 ⊢
    rw [(key j hj).1, (key j hj).2, (key l hl).1]
    exact h0
/-- narrower rooms -/
structure Nr (a a' : Act) : Prop where
  n : a'.n = a.n
  b : a'.b = a.b
  e : a'.e = a.e
  w : a'.w = a.w
  ch : a'.ch = a.ch
  ea : 0 ≤ a'.ea ∧ a'.ea ≤ a.ea
  la : 0 ≤ a'.la ∧ a'.la ≤ a.la
structure Nar (E E' : List Act) : Prop where
  l : E'.length = E.length
  a : ∀ (i : Nat) (x y : Act), E[i]? = some x → E'[i]? = some y → Nr x y
theorem nar_refl {E : List Act} (h : EvOk E) : Nar E E := ⟨rfl, fun i x y h1 h2 => by
  rw [h1] at h2; cases h2
  have := h.act x (List.mem_of_getElem? h1)
  exact ⟨rfl, rfl, rfl, rfl, rfl, ⟨this.ea.1, Int.le_refl _⟩, this.la.1, Int.le_refl _⟩⟩
theorem nar_cons {a a' : Act} {E E' : List Act} (h : Nar (a :: E) (a' :: E')) : Nr a a' ∧ Nar E E' :=
  ⟨h.a 0 a a' rfl rfl, by have := h.l; simpa using this, fun i x y h1 h2 => h.a (i + 1) x y (by simpa using h1) (by simpa using h2)⟩
theorem nar_fol : ∀ {E E' : List Act} {r : Int}, Nar E E' → Fol r E → Fol r E'
  | [], [], _, _, _ => trivial
  | [], _ :: _, _, h, _ => by have := h.l; simp at this
  | _ :: _, [], _, h, _ => by have := h.l; simp at this
  | a :: E, a' :: E', r, h, f => by
    obtain ⟨h1, h2⟩ := nar_cons h
    exact ⟨by rw [h1.b]; exact f.1, by rw [h1.e, h1.ch]; exact nar_fol h2 f.2⟩
theorem nar_names {E E' : List Act} (h : Nar E E') : E'.map Act.n = E.map Act.n := by
  refine List.ext_getElem? fun i => ?_
  rw [List.getElem?_map, List.getElem?_map]
  by_cases hi : i < E.length
  · have hi' : i < E'.length := by rw [h.l]; exact hi
    rw [List.getElem?_eq_getElem hi, List.getElem?_eq_getElem hi']
    exact congrArg some (h.a i _ _ (List.getElem?_eq_getElem hi) (List.getElem?_eq_getElem hi')).n
  · rw [List.getElem?_eq_none (by rw [h.l]; omega), List.getElem?_eq_none (by omega)]
theorem nar_ok {E E' : List Act} (hE : EvOk E) (h : Nar E E') : EvOk E' := by
  refine ⟨by rw [h.l]; exact hE.lo, by rw [h.l]; exact hE.hi, fun a' ha' => ?_, by rw [nar_names h]; exact hE.nd, nar_fol h hE.fol⟩
  obtain ⟨i, hi⟩ := List.mem_iff_getElem?.mp ha'
  have lt : i < E.length := by rw [← h.l]; exact (List.getElem?_eq_some_iff.mp hi).1
  have n := h.a i E[i] a' (List.getElem?_eq_getElem lt) hi
  have ok := hE.act E[i] (List.getElem_mem lt)
  refine ⟨by rw [n.n]; exact ok.n, by rw [n.b, n.e]; exact ok.b, by rw [n.b, n.e, n.w]; exact ok.w, ⟨n.ea.1, Int.le_trans n.ea.2 ok.ea.2⟩, ⟨n.la.1, Int.le_trans n.la.2 ok.la.2⟩, by rw [n.ch]; exact ok.ch⟩
theorem nar_sd : ∀ {T' : List Pt} {E : List Act} {r : Int}, Nar E (acts T') → Sd r T' → ∃ T, acts T = E ∧ moms T = moms T' ∧ Sd r T ∧ (Wh T' → Wh T)
  | [], [], _, _, _ => ⟨[], rfl, rfl, trivial, fun _ => by simp [Wh]⟩
  | [], _ :: _, _, h, _ => by have := h.l; simp [acts] at this
  | _ :: _, [], _, h, _ => by have := h.l; simp [acts] at this
  | t :: T', a :: E, r, h, s => by
    obtain ⟨h1, h2⟩ := nar_cons (a' := t.1) (E' := acts T') h
    obtain ⟨⟨g1, g2, g3, g4, g5⟩, g6⟩ := s
    obtain ⟨T, e1, e2, e3, e4⟩ := nar_sd h2 g6
    refine ⟨(a, t.2) :: T, by show a :: acts T = _; rw [e1], by show t.2 :: moms T = _; rw [e2]; rfl, ⟨⟨?_, ?_, ?_, ?_, g5⟩, ?_⟩, fun w x hx => ?_⟩
    · have := h1.b; have := h1.ea; dsimp only; omega
    · have := h1.b; dsimp only; omega
    · have := h1.e; dsimp only; omega
    · have := h1.e; have := h1.la; dsimp only; omega
    · show Sd (t.2.2 + a.ch) T
      rw [← h1.ch]; exact e3
    · rcases List.mem_cons.mp hx with rfl | hx
      · have := w t (.head _); have := h1.w; dsimp only; omega
      · exact e4 (fun y hy => w y (.tail _ hy)) x hx
theorem nar_set {E E' : List Act} {i : Nat} {a a' : Act} (n : Nar E E') (ha : E'[i]? = some a) (h : Nr a a') : Nar E (E'.set i a') := by
  refine ⟨by rw [List.length_set]; exact n.l, fun j x y hx hy => ?_⟩
  rw [List.getElem?_set] at hy
  by_cases e : i = j
  · subst e
    rw [if_pos rfl] at hy
    have lt := (List.getElem?_eq_some_iff.mp ha).1
    rw [if_pos lt] at hy
    cases hy
    have n0 := n.a i x a hx ha
    exact ⟨h.n.trans n0.n, h.b.trans n0.b, h.e.trans n0.e, h.w.trans n0.w, h.ch.trans n0.ch, ⟨h.ea.1, Int.le_trans h.ea.2 n0.ea.2⟩, h.la.1, Int.le_trans h.la.2 n0.la.2⟩
  · rw [if_neg e] at hy
    exact n.a j x y hx hy
theorem wh_set {T : List Pt} {i : Nat} {t : Pt} {a' : Act} (w : Wh T) (ht : T[i]? = some t) (hw : a'.w = t.1.w) : Wh (T.set i (a', t.2)) := fun u hu => by
  rcases List.mem_or_eq_of_mem_set hu with h | h
  · exact w u h
  · rw [h]
    have := w t (List.mem_of_getElem? ht)
    dsimp only; omega
theorem pt_at {E : List Act} {T : List Pt} {i : Nat} {a : Act} (e : acts T = E) (ha : E[i]? = some a) : ∃ t, T[i]? = some t ∧ t.1 = a := by
  rw [← e] at ha
  unfold acts at ha
  rw [List.getElem?_map] at ha
  obtain ⟨t, h1, h2⟩ := Option.map_eq_some_iff.mp ha
  exact ⟨t, h1, h2⟩
theorem mom_at {T : List Pt} {i : Nat} {t : Pt} (h : T[i]? = some t) : ((moms T).map prD)[i]? = some (.tuple [.int t.2.1, .int t.2.2]) := by
  unfold moms
  rw [List.getElem?_map, List.getElem?_map, h]
  rfl
theorem act_at {E : List Act} {i : Nat} {a : Act} (h : E[i]? = some a) : (E.map actD)[i]? = some (.tuple [.str a.n, .int a.b, .int a.e, .int a.w, .int a.ea, .int a.la, .int a.ch]) := by
  rw [List.getElem?_map, h]
  rfl
end Lw

namespace Lw
open PySem DL
local macro_rules | `(tactic| walk_at "ev") => `(tactic| simp only [ok_ok, ok_bind, ok_pure, ok_opt, ok_var, ok_op, ok_opO, ok_un, ok_cmp, ok_B, ok_ite, ok_chain, ok_and, ok_or, ok_not, ok_ifE, ok_tru, ok_andV, ok_orV, ok_notV, ok_nil, ok_cons, ok_tup, ok_lst, ok_fz, ok_isi, ok_call, ok_callO, ok_noP, ok_part, ok_sl, ok_slAt, ok_ixO, ok_lenO, ok_move, ok_seq, ok_nx, ok_if, ok_ret, ok_retO, ok_drop, ok_store, ok_set, ok_setO, ok_asg, ok_dat, ok_own, ok_par2, ok_par3, ok_meth, ok_setIx, ok_extend, ok_frz, ok_cmpO, ok_rep, ok_listRg, ok_F, ok_FO, ok_FC, ok_FS, ok_items, ok_signs, ok_range1, ok_range2, ok_range3, ok_zip, ok_enum, ok_for, ok_comp,
  okO_some, okO_none, okF_ok, okC_ok, slD_dat, slL_own, slL_cel, ixP_own, ixP_cel, ixP_scr, isL_own, isL_cel, isL_scr, lenP_own, lenP_cel, lenP_scr, seqP_nx, seqP_rt, seqP_ro, seqP_ct, seqP_bk, wrS_un, wrS_dat, wrS_own, wrS_scr, okO_gN, okO_gTp, okO_gCons, okO_gNil, chgP_own, chgP_cel, okO_chg, ownB_own, ownB_cel, celP_own, celP_cel, scrP_scr, putSl_eq,
  v_addII, v_addIB, v_addTT, v_addLL, v_addSS, v_catLL, v_sub, v_mul, v_mod, v_div, v_pow, v_neg, v_cmp, v_eqII, v_neII, v_eqSS, v_neSS, v_isNone_n, v_isNone_b, v_isNone_i, v_isNone_s, v_isNone_l, v_isNone_t, v_notNone_n, v_notNone_b, v_notNone_i, v_notNone_s, v_notNone_l, v_notNone_t, v_isBl, v_in, v_notIn, v_inS, v_notInS, v_ixL, v_ixT, v_ixS, v_slL, v_slT, v_revL, v_revT, v_lenL, v_lenT, v_lenS, v_max2, v_min2, v_intB, v_intI, v_tupL, v_tupT, v_listL, v_listT, v_truB, v_truI, v_truN, v_blB, v_int, v_itL, v_itT, v_sig, v_rng1, v_rng2, v_lrg, v_zipL, v_zipT, v_zipTT, ok_lenSet, ok_listZip, sizeLine_eq, Nat.reduceLeDiff, Int.reduceLT, Int.reduceLE, atI0, atI1, atI2, atI3, atI4, atI5, atI6, atI_c, ixN0, ixN1, ixN2, okO_celAt, v_notBlT, v_notBlF, v_notBlG, v_notBlH, Int.reduceEq, Int.reduceNe, Int.cast_ofNat_Int, not_true_eq_false, not_false_eq_true, pow9, pow18, natAbs10, Bool.true_eq_false, cut_1, cut_nn, v_enum, v_app, v_setAt,
  List.getElem?_cons_zero, List.getElem?_cons_succ, List.set_cons_zero, List.set_cons_succ, List.length_cons, List.length_nil, List.map_cons, List.map_nil, envOf, List.cons_append, List.nil_append, List.replicate, wipeE, restE, keepS,
  decide_eq_true_eq, true_and, and_true, if_true, if_false, Bool.false_eq_true, Nat.reduceAdd, Nat.reduceSub, Nat.zero_add, Nat.sub_zero, Bool.not_true, Bool.not_false, Bool.not_eq_true', decide_eq_false_iff_not])
local macro_rules | `(tactic| walk_at "en") => `(tactic| simp only [ok_ok, ok_bind, ok_pure, ok_opt, ok_var, ok_op, ok_opO, ok_un, ok_cmp, ok_B, ok_ite, ok_chain, ok_and, ok_or, ok_not, ok_ifE, ok_tru, ok_andV, ok_orV, ok_notV, ok_nil, ok_cons, ok_tup, ok_lst, ok_fz, ok_isi, ok_call, ok_callO, ok_noP, ok_part, ok_sl, ok_slAt, ok_ixO, ok_lenO, ok_move, ok_seq, ok_nx, ok_if, ok_ret, ok_retO, ok_drop, ok_store, ok_set, ok_setO, ok_asg, ok_dat, ok_own, ok_par2, ok_par3, ok_meth, ok_setIx, ok_extend, ok_frz, ok_cmpO, ok_rep, ok_listRg, ok_F, ok_FO, ok_FC, ok_FS, ok_items, ok_signs, ok_range1, ok_range2, ok_range3, ok_zip, ok_enum, ok_for, ok_comp,
  okO_some, okO_none, okF_ok, okC_ok, slD_dat, slL_own, slL_cel, ixP_own, ixP_cel, ixP_scr, isL_own, isL_cel, isL_scr, lenP_own, lenP_cel, lenP_scr, seqP_nx, seqP_rt, seqP_ro, seqP_ct, seqP_bk, wrS_un, wrS_dat, wrS_own, wrS_scr, okO_gN, okO_gTp, okO_gCons, okO_gNil, chgP_own, chgP_cel, okO_chg, ownB_own, ownB_cel, celP_own, celP_cel, scrP_scr, putSl_eq,
  v_addII, v_addIB, v_addTT, v_addLL, v_addSS, v_catLL, v_sub, v_mul, v_mod, v_div, v_pow, v_neg, v_cmp, v_eqII, v_neII, v_eqSS, v_neSS, v_isNone_n, v_isNone_b, v_isNone_i, v_isNone_s, v_isNone_l, v_isNone_t, v_notNone_n, v_notNone_b, v_notNone_i, v_notNone_s, v_notNone_l, v_notNone_t, v_isBl, v_in, v_notIn, v_inS, v_notInS, v_ixL, v_ixT, v_ixS, v_slL, v_slT, v_revL, v_revT, v_lenL, v_lenT, v_lenS, v_max2, v_min2, v_intB, v_intI, v_tupL, v_tupT, v_listL, v_listT, v_truB, v_truI, v_truN, v_blB, v_int, v_itL, v_itT, v_sig, v_rng1, v_rng2, v_lrg, v_zipL, v_zipT, v_zipTT, ok_lenSet, ok_listZip, sizeLine_eq, Nat.reduceLeDiff, Int.reduceLT, Int.reduceLE, atI0, atI1, atI2, atI3, atI4, atI5, atI6, atI_c, ixN0, ixN1, ixN2, okO_celAt, v_notBlT, v_notBlF, v_notBlG, v_notBlH, Int.reduceEq, Int.reduceNe, Int.cast_ofNat_Int, not_true_eq_false, not_false_eq_true, pow9, pow18, natAbs10, Bool.true_eq_false, cut_1, cut_nn, v_enum, v_app, v_setAt,
  List.getElem?_cons_zero, List.getElem?_cons_succ, List.set_cons_zero, List.set_cons_succ, List.length_cons, List.length_nil, List.map_cons, List.map_nil, envOf, List.cons_append, List.nil_append, List.replicate, wipeE, restE, keepS,
  decide_eq_true_eq, true_and, and_true, if_true, if_false, Bool.false_eq_true, Nat.reduceAdd, Nat.reduceSub, Nat.zero_add, Nat.sub_zero, Bool.not_true, Bool.not_false, Bool.not_eq_true', decide_eq_false_iff_not,
  ok_par2N, ok_nApp, ok_nSet, ok_nIx, ok_frzN, nstB_nst, nstP_nst, onlyN_s, onlyN_z, noN_un, noN_dat, noN_own, noN_cel, noN_scr, allN_cons, allN_nil, Bool.and_true, Bool.true_and, Int.reduceNeg, ok_zipM, v_zipM])
local macro_rules | `(tactic| walk_at "rn") => `(tactic| simp only [ok_ok, ok_bind, ok_pure, ok_opt, ok_var, ok_op, ok_opO, ok_un, ok_cmp, ok_B, ok_ite, ok_chain, ok_and, ok_or, ok_not, ok_ifE, ok_tru, ok_andV, ok_orV, ok_notV, ok_nil, ok_cons, ok_tup, ok_lst, ok_fz, ok_isi, ok_call, ok_callO, ok_noP, ok_part, ok_sl, ok_slAt, ok_ixO, ok_lenO, ok_move, ok_seq, ok_nx, ok_if, ok_ret, ok_retO, ok_drop, ok_store, ok_set, ok_setO, ok_asg, ok_dat, ok_own, ok_par2, ok_par3, ok_meth, ok_setIx, ok_extend, ok_frz, ok_cmpO, ok_rep, ok_listRg, ok_F, ok_FO, ok_FC, ok_FS, ok_items, ok_signs, ok_range1, ok_range2, ok_range3, ok_zip, ok_enum, ok_for, ok_comp,
  okO_some, okO_none, okF_ok, okC_ok, slD_dat, slL_own, slL_cel, ixP_own, ixP_cel, ixP_scr, isL_own, isL_cel, isL_scr, lenP_own, lenP_cel, lenP_scr, seqP_nx, seqP_rt, seqP_ro, seqP_ct, seqP_bk, wrS_un, wrS_dat, wrS_own, wrS_scr, okO_gN, okO_gTp, okO_gCons, okO_gNil, chgP_own, chgP_cel, okO_chg, ownB_own, ownB_cel, celP_own, celP_cel, scrP_scr, putSl_eq,
  v_addII, v_addIB, v_addTT, v_addLL, v_addSS, v_catLL, v_sub, v_mul, v_mod, v_div, v_pow, v_neg, v_cmp, v_eqII, v_neII, v_eqSS, v_neSS, v_isNone_n, v_isNone_b, v_isNone_i, v_isNone_s, v_isNone_l, v_isNone_t, v_notNone_n, v_notNone_b, v_notNone_i, v_notNone_s, v_notNone_l, v_notNone_t, v_isBl, v_in, v_notIn, v_inS, v_notInS, v_ixL, v_ixT, v_ixS, v_slL, v_slT, v_revL, v_revT, v_lenL, v_lenT, v_lenS, v_max2, v_min2, v_intB, v_intI, v_tupL, v_tupT, v_listL, v_listT, v_truB, v_truI, v_truN, v_blB, v_int, v_itL, v_itT, v_sig, v_rng1, v_rng2, v_lrg, v_zipL, v_zipT, v_zipTT, ok_lenSet, ok_listZip, sizeLine_eq, Nat.reduceLeDiff, Int.reduceLT, Int.reduceLE, atI0, atI1, atI2, atI3, atI4, atI5, atI6, atI_c, ixN0, ixN1, ixN2, okO_celAt, v_notBlT, v_notBlF, v_notBlG, v_notBlH, Int.reduceEq, Int.reduceNe, Int.cast_ofNat_Int, not_true_eq_false, not_false_eq_true, pow9, pow18, natAbs10, Bool.true_eq_false, cut_1, cut_nn, v_enum, v_app, v_setAt,
  List.getElem?_cons_zero, List.getElem?_cons_succ, List.set_cons_zero, List.set_cons_succ, List.length_cons, List.length_nil, List.map_cons, List.map_nil, envOf, List.cons_append, List.nil_append, List.replicate, wipeE, restE, keepS,
  decide_eq_true_eq, true_and, and_true, if_true, if_false, Bool.false_eq_true, Nat.reduceAdd, Nat.reduceSub, Nat.zero_add, Nat.sub_zero, Bool.not_true, Bool.not_false, Bool.not_eq_true', decide_eq_false_iff_not,
  ok_par2N, ok_nApp, ok_nSet, ok_nIx, ok_frzN, nstB_nst, nstP_nst, onlyN_s, onlyN_z, noN_un, noN_dat, noN_own, noN_cel, noN_scr, allN_cons, allN_nil, Bool.and_true, Bool.true_and, Int.reduceNeg, ok_zipM, v_zipM, shEarly, shEnd, shBegin, shLate, neEE, neEE2, neBL, neBL2, eq_self, if_neg_f, decide_true, decide_false, Bool.and_false, Bool.false_and])
/-! ## the least forgone, greedily -/
def capA (a : Act) : List Act → Int
  | [] => a.e + a.la
  | a' :: _ => min (a.e + a.la) (a'.b - a.ch)
/-- the least that acts forgo, the stage free from r on -/
def Lo : Int → List Act → Int
  | _, [] => 0
  | r, a :: E => max 0 (max (a.b - a.ea) r + a.w - capA a E) + Lo (min (capA a E) (max a.e (max (a.b - a.ea) r + a.w)) + a.ch) E
/-- acts with room -/
structure AG (a : Act) : Prop where
  be : a.b < a.e
  w : a.e - a.b ≤ a.w
  ea : 0 ≤ a.ea
  la : 0 ≤ a.la
  ch : 0 ≤ a.ch
theorem lo_mono : ∀ {E : List Act} {r r' : Int}, r ≤ r' → Lo r E ≤ Lo r' E ∧ Lo r' E ≤ Lo r E + (r' - r)
  | [], r, r', h => by simp only [Lo]; omega
  | a :: E, r, r', h => by
    simp only [Lo]
    generalize capA a E = c
    have ih := lo_mono (E := E) (r := min c (max a.e (max (a.b - a.ea) r + a.w)) + a.ch) (r' := min c (max a.e (max (a.b - a.ea) r' + a.w)) + a.ch) (by omega)
    generalize Lo (min c (max a.e (max (a.b - a.ea) r + a.w)) + a.ch) E = x at ih ⊢
    generalize Lo (min c (max a.e (max (a.b - a.ea) r' + a.w)) + a.ch) E = y at ih ⊢
    omega
theorem lo_nonneg : ∀ {E : List Act} {r : Int}, 0 ≤ Lo r E
  | [], _ => Int.le_refl _
  | a :: E, r => by
    simp only [Lo]
    have := lo_nonneg (E := E) (r := min (capA a E) (max a.e (max (a.b - a.ea) r + a.w)) + a.ch)
    omega
def cost (T : List Pt) : Int := (T.map fg).sum
theorem cost_cons {t : Pt} {T : List Pt} : cost (t :: T) = fg t + cost T := by unfold cost; rw [List.map_cons, List.sum_cons]
theorem sd_cap {t : Pt} {T : List Pt} {r : Int} (h : Sd r (t :: T)) : t.2.2 ≤ capA t.1 (acts T) := by
  cases T with
  | nil => have := h.1; simp only [acts, List.map_nil, capA]; omega
  | cons t' T =>
    have h1 := h.1
    have h2 := h.2.1
    simp only [acts, List.map_cons, capA]; omega
/-- no standing forgoes less -/
theorem lo_le : ∀ {T : List Pt} {r : Int}, Sd r T → Lo r (acts T) ≤ cost T
  | [], r, _ => Int.le_refl _
  | t :: T, r, h => by
    have hc := sd_cap h
    obtain ⟨⟨g1, g2, g3, g4, g5⟩, g6⟩ := h
    have ih := lo_le g6
    rw [cost_cons]
    show Lo r (t.1 :: acts T) ≤ _
    simp only [Lo]
    generalize capA t.1 (acts T) = c at hc
    unfold fg
    have m1 := fun h => (lo_mono (E := acts T) (r := min c (max t.1.e (max (t.1.b - t.1.ea) r + t.1.w)) + t.1.ch) (r' := t.2.2 + t.1.ch) h).1
    have m2 := fun h => (lo_mono (E := acts T) (r := t.2.2 + t.1.ch) (r' := min c (max t.1.e (max (t.1.b - t.1.ea) r + t.1.w)) + t.1.ch) h).2
    generalize Lo (min c (max t.1.e (max (t.1.b - t.1.ea) r + t.1.w)) + t.1.ch) (acts T) = x at m1 m2 ⊢
    generalize Lo (t.2.2 + t.1.ch) (acts T) = y at m1 m2 ih
    omega
/-- one that forgoes just so much -/
def greedy : Int → List Act → List Pt
  | _, [] => []
  | r, a :: E => (a, max (a.b - a.ea) r, min (capA a E) (max a.e (max (a.b - a.ea) r + a.w))) :: greedy (min (capA a E) (max a.e (max (a.b - a.ea) r + a.w)) + a.ch) E
def headB : List Act → Int → Prop
  | [], _ => True
  | a :: _, r => r ≤ a.b
theorem capA_ge {a : Act} {E : List Act} (ha : AG a) (hf : Fol (a.e + a.ch) E) : a.e ≤ capA a E := by
  cases E with
  | nil => simp only [capA]; have := ha.la; omega
  | cons a' E => simp only [capA]; have := ha.la; have := hf.1; omega
theorem capA_le {a : Act} {E : List Act} : capA a E ≤ a.e + a.la := by
  cases E with
  | nil => exact Int.le_refl _
  | cons a' E => simp only [capA]; omega
theorem capA_head {a : Act} {E : List Act} {t : Int} (h : t ≤ capA a E) : headB E (t + a.ch) := by
  cases E with
  | nil => trivial
  | cons a' E => simp only [capA] at h; simp only [headB]; omega
theorem greedy_ok : ∀ {E : List Act} {r r0 : Int}, (∀ a ∈ E, AG a) → Fol r0 E → headB E r → acts (greedy r E) = E ∧ Sd r (greedy r E) ∧ cost (greedy r E) = Lo r E
  | [], _, _, _, _, _ => ⟨rfl, trivial, rfl⟩
  | a :: E, r, r0, h, hf, hr => by
    have ha := h a (.head _)
    have c1 := capA_ge ha hf.2
    have c2 := capA_le (a := a) (E := E)
    have hh : headB E (min (capA a E) (max a.e (max (a.b - a.ea) r + a.w)) + a.ch) := capA_head (by omega)
    obtain ⟨i1, i2, i3⟩ := greedy_ok (fun x hx => h x (.tail _ hx)) hf.2 hh
    have hr : r ≤ a.b := hr
    have := ha.ea
    refine ⟨?_, ⟨⟨by dsimp only; omega, by dsimp only; omega, by dsimp only; omega, by dsimp only; omega, by dsimp only; omega⟩, i2⟩, ?_⟩
    · show a :: acts _ = _; rw [i1]
    · show cost ((a, _, _) :: _) = _
      rw [cost_cons, i3]
      simp only [Lo, fg]
      have := ha.be; have := ha.w
      generalize Lo _ E = x
      omega
/-! ## runs -/
/-- a run from a start, with the acts behind: the best -/
def Ru : Int → List Act → Int
  | _, [] => 0
  | s, [a] => s + a.w - (a.e + a.la)
  | s, a :: a' :: E => max (s + a.w - (a.e + a.la) + Lo (a.e + a.ch) (a' :: E)) (max (s + a.w + a.ch - a'.b + Lo (a.e + a.ch) (a' :: E)) (Ru (s + a.w + a.ch) (a' :: E)))
theorem ru_lin : ∀ {a : Act} {E : List Act} {s : Int}, Ru s (a :: E) = s + Ru 0 (a :: E)
  | a, [], s => by simp only [Ru]; omega
  | a, a' :: E, s => by
    simp only [Ru]
    rw [ru_lin (s := s + a.w + a.ch), ru_lin (s := 0 + a.w + a.ch)]
    omega
theorem lo_ru : ∀ {a : Act} {E : List Act} {r : Int}, AG a → (∀ x ∈ E, AG x) → Fol (a.e + a.ch) E → Lo r (a :: E) = max (Lo (a.e + a.ch) E) (Ru (max (a.b - a.ea) r) (a :: E))
  | a, [], r, ha, _, _ => by simp only [Lo, Ru, capA]; omega
  | a, a' :: E, r, ha, hE, hf => by
    have ih := fun ρ => lo_ru (a := a') (E := E) (r := ρ) (hE a' (.head _)) (fun x hx => hE x (.tail _ hx)) hf.2
    rw [show Lo r (a :: a' :: E) = max 0 (max (a.b - a.ea) r + a.w - capA a (a' :: E)) + Lo (min (capA a (a' :: E)) (max a.e (max (a.b - a.ea) r + a.w)) + a.ch) (a' :: E) from rfl]
    simp only [Ru, capA]
    rw [ih, ih]
    rw [ru_lin (s := max (a'.b - a'.ea) _), ru_lin (s := max (a'.b - a'.ea) (a.e + a.ch)), ru_lin (s := max (a.b - a.ea) r + a.w + a.ch)]
    have h1 := hf.1
    have h2 := ha.la
    generalize Lo (a'.e + a'.ch) E = p
    generalize Ru 0 (a' :: E) = q
    generalize max (a.b - a.ea) r = s
    generalize a'.b - a'.ea = u
    generalize a'.b = b' at *
    omega
end Lw

namespace Lw
open PySem DL
local macro_rules | `(tactic| walk_at "ev") => `(tactic| simp only [ok_ok, ok_bind, ok_pure, ok_opt, ok_var, ok_op, ok_opO, ok_un, ok_cmp, ok_B, ok_ite, ok_chain, ok_and, ok_or, ok_not, ok_ifE, ok_tru, ok_andV, ok_orV, ok_notV, ok_nil, ok_cons, ok_tup, ok_lst, ok_fz, ok_isi, ok_call, ok_callO, ok_noP, ok_part, ok_sl, ok_slAt, ok_ixO, ok_lenO, ok_move, ok_seq, ok_nx, ok_if, ok_ret, ok_retO, ok_drop, ok_store, ok_set, ok_setO, ok_asg, ok_dat, ok_own, ok_par2, ok_par3, ok_meth, ok_setIx, ok_extend, ok_frz, ok_cmpO, ok_rep, ok_listRg, ok_F, ok_FO, ok_FC, ok_FS, ok_items, ok_signs, ok_range1, ok_range2, ok_range3, ok_zip, ok_enum, ok_for, ok_comp,
  okO_some, okO_none, okF_ok, okC_ok, slD_dat, slL_own, slL_cel, ixP_own, ixP_cel, ixP_scr, isL_own, isL_cel, isL_scr, lenP_own, lenP_cel, lenP_scr, seqP_nx, seqP_rt, seqP_ro, seqP_ct, seqP_bk, wrS_un, wrS_dat, wrS_own, wrS_scr, okO_gN, okO_gTp, okO_gCons, okO_gNil, chgP_own, chgP_cel, okO_chg, ownB_own, ownB_cel, celP_own, celP_cel, scrP_scr, putSl_eq,
  v_addII, v_addIB, v_addTT, v_addLL, v_addSS, v_catLL, v_sub, v_mul, v_mod, v_div, v_pow, v_neg, v_cmp, v_eqII, v_neII, v_eqSS, v_neSS, v_isNone_n, v_isNone_b, v_isNone_i, v_isNone_s, v_isNone_l, v_isNone_t, v_notNone_n, v_notNone_b, v_notNone_i, v_notNone_s, v_notNone_l, v_notNone_t, v_isBl, v_in, v_notIn, v_inS, v_notInS, v_ixL, v_ixT, v_ixS, v_slL, v_slT, v_revL, v_revT, v_lenL, v_lenT, v_lenS, v_max2, v_min2, v_intB, v_intI, v_tupL, v_tupT, v_listL, v_listT, v_truB, v_truI, v_truN, v_blB, v_int, v_itL, v_itT, v_sig, v_rng1, v_rng2, v_lrg, v_zipL, v_zipT, v_zipTT, ok_lenSet, ok_listZip, sizeLine_eq, Nat.reduceLeDiff, Int.reduceLT, Int.reduceLE, atI0, atI1, atI2, atI3, atI4, atI5, atI6, atI_c, ixN0, ixN1, ixN2, okO_celAt, v_notBlT, v_notBlF, v_notBlG, v_notBlH, Int.reduceEq, Int.reduceNe, Int.cast_ofNat_Int, not_true_eq_false, not_false_eq_true, pow9, pow18, natAbs10, Bool.true_eq_false, cut_1, cut_nn, v_enum, v_app, v_setAt,
  List.getElem?_cons_zero, List.getElem?_cons_succ, List.set_cons_zero, List.set_cons_succ, List.length_cons, List.length_nil, List.map_cons, List.map_nil, envOf, List.cons_append, List.nil_append, List.replicate, wipeE, restE, keepS,
  decide_eq_true_eq, true_and, and_true, if_true, if_false, Bool.false_eq_true, Nat.reduceAdd, Nat.reduceSub, Nat.zero_add, Nat.sub_zero, Bool.not_true, Bool.not_false, Bool.not_eq_true', decide_eq_false_iff_not])
local macro_rules | `(tactic| walk_at "en") => `(tactic| simp only [ok_ok, ok_bind, ok_pure, ok_opt, ok_var, ok_op, ok_opO, ok_un, ok_cmp, ok_B, ok_ite, ok_chain, ok_and, ok_or, ok_not, ok_ifE, ok_tru, ok_andV, ok_orV, ok_notV, ok_nil, ok_cons, ok_tup, ok_lst, ok_fz, ok_isi, ok_call, ok_callO, ok_noP, ok_part, ok_sl, ok_slAt, ok_ixO, ok_lenO, ok_move, ok_seq, ok_nx, ok_if, ok_ret, ok_retO, ok_drop, ok_store, ok_set, ok_setO, ok_asg, ok_dat, ok_own, ok_par2, ok_par3, ok_meth, ok_setIx, ok_extend, ok_frz, ok_cmpO, ok_rep, ok_listRg, ok_F, ok_FO, ok_FC, ok_FS, ok_items, ok_signs, ok_range1, ok_range2, ok_range3, ok_zip, ok_enum, ok_for, ok_comp,
  okO_some, okO_none, okF_ok, okC_ok, slD_dat, slL_own, slL_cel, ixP_own, ixP_cel, ixP_scr, isL_own, isL_cel, isL_scr, lenP_own, lenP_cel, lenP_scr, seqP_nx, seqP_rt, seqP_ro, seqP_ct, seqP_bk, wrS_un, wrS_dat, wrS_own, wrS_scr, okO_gN, okO_gTp, okO_gCons, okO_gNil, chgP_own, chgP_cel, okO_chg, ownB_own, ownB_cel, celP_own, celP_cel, scrP_scr, putSl_eq,
  v_addII, v_addIB, v_addTT, v_addLL, v_addSS, v_catLL, v_sub, v_mul, v_mod, v_div, v_pow, v_neg, v_cmp, v_eqII, v_neII, v_eqSS, v_neSS, v_isNone_n, v_isNone_b, v_isNone_i, v_isNone_s, v_isNone_l, v_isNone_t, v_notNone_n, v_notNone_b, v_notNone_i, v_notNone_s, v_notNone_l, v_notNone_t, v_isBl, v_in, v_notIn, v_inS, v_notInS, v_ixL, v_ixT, v_ixS, v_slL, v_slT, v_revL, v_revT, v_lenL, v_lenT, v_lenS, v_max2, v_min2, v_intB, v_intI, v_tupL, v_tupT, v_listL, v_listT, v_truB, v_truI, v_truN, v_blB, v_int, v_itL, v_itT, v_sig, v_rng1, v_rng2, v_lrg, v_zipL, v_zipT, v_zipTT, ok_lenSet, ok_listZip, sizeLine_eq, Nat.reduceLeDiff, Int.reduceLT, Int.reduceLE, atI0, atI1, atI2, atI3, atI4, atI5, atI6, atI_c, ixN0, ixN1, ixN2, okO_celAt, v_notBlT, v_notBlF, v_notBlG, v_notBlH, Int.reduceEq, Int.reduceNe, Int.cast_ofNat_Int, not_true_eq_false, not_false_eq_true, pow9, pow18, natAbs10, Bool.true_eq_false, cut_1, cut_nn, v_enum, v_app, v_setAt,
  List.getElem?_cons_zero, List.getElem?_cons_succ, List.set_cons_zero, List.set_cons_succ, List.length_cons, List.length_nil, List.map_cons, List.map_nil, envOf, List.cons_append, List.nil_append, List.replicate, wipeE, restE, keepS,
  decide_eq_true_eq, true_and, and_true, if_true, if_false, Bool.false_eq_true, Nat.reduceAdd, Nat.reduceSub, Nat.zero_add, Nat.sub_zero, Bool.not_true, Bool.not_false, Bool.not_eq_true', decide_eq_false_iff_not,
  ok_par2N, ok_nApp, ok_nSet, ok_nIx, ok_frzN, nstB_nst, nstP_nst, onlyN_s, onlyN_z, noN_un, noN_dat, noN_own, noN_cel, noN_scr, allN_cons, allN_nil, Bool.and_true, Bool.true_and, Int.reduceNeg, ok_zipM, v_zipM])
local macro_rules | `(tactic| walk_at "rn") => `(tactic| simp only [ok_ok, ok_bind, ok_pure, ok_opt, ok_var, ok_op, ok_opO, ok_un, ok_cmp, ok_B, ok_ite, ok_chain, ok_and, ok_or, ok_not, ok_ifE, ok_tru, ok_andV, ok_orV, ok_notV, ok_nil, ok_cons, ok_tup, ok_lst, ok_fz, ok_isi, ok_call, ok_callO, ok_noP, ok_part, ok_sl, ok_slAt, ok_ixO, ok_lenO, ok_move, ok_seq, ok_nx, ok_if, ok_ret, ok_retO, ok_drop, ok_store, ok_set, ok_setO, ok_asg, ok_dat, ok_own, ok_par2, ok_par3, ok_meth, ok_setIx, ok_extend, ok_frz, ok_cmpO, ok_rep, ok_listRg, ok_F, ok_FO, ok_FC, ok_FS, ok_items, ok_signs, ok_range1, ok_range2, ok_range3, ok_zip, ok_enum, ok_for, ok_comp,
  okO_some, okO_none, okF_ok, okC_ok, slD_dat, slL_own, slL_cel, ixP_own, ixP_cel, ixP_scr, isL_own, isL_cel, isL_scr, lenP_own, lenP_cel, lenP_scr, seqP_nx, seqP_rt, seqP_ro, seqP_ct, seqP_bk, wrS_un, wrS_dat, wrS_own, wrS_scr, okO_gN, okO_gTp, okO_gCons, okO_gNil, chgP_own, chgP_cel, okO_chg, ownB_own, ownB_cel, celP_own, celP_cel, scrP_scr, putSl_eq,
  v_addII, v_addIB, v_addTT, v_addLL, v_addSS, v_catLL, v_sub, v_mul, v_mod, v_div, v_pow, v_neg, v_cmp, v_eqII, v_neII, v_eqSS, v_neSS, v_isNone_n, v_isNone_b, v_isNone_i, v_isNone_s, v_isNone_l, v_isNone_t, v_notNone_n, v_notNone_b, v_notNone_i, v_notNone_s, v_notNone_l, v_notNone_t, v_isBl, v_in, v_notIn, v_inS, v_notInS, v_ixL, v_ixT, v_ixS, v_slL, v_slT, v_revL, v_revT, v_lenL, v_lenT, v_lenS, v_max2, v_min2, v_intB, v_intI, v_tupL, v_tupT, v_listL, v_listT, v_truB, v_truI, v_truN, v_blB, v_int, v_itL, v_itT, v_sig, v_rng1, v_rng2, v_lrg, v_zipL, v_zipT, v_zipTT, ok_lenSet, ok_listZip, sizeLine_eq, Nat.reduceLeDiff, Int.reduceLT, Int.reduceLE, atI0, atI1, atI2, atI3, atI4, atI5, atI6, atI_c, ixN0, ixN1, ixN2, okO_celAt, v_notBlT, v_notBlF, v_notBlG, v_notBlH, Int.reduceEq, Int.reduceNe, Int.cast_ofNat_Int, not_true_eq_false, not_false_eq_true, pow9, pow18, natAbs10, Bool.true_eq_false, cut_1, cut_nn, v_enum, v_app, v_setAt,
  List.getElem?_cons_zero, List.getElem?_cons_succ, List.set_cons_zero, List.set_cons_succ, List.length_cons, List.length_nil, List.map_cons, List.map_nil, envOf, List.cons_append, List.nil_append, List.replicate, wipeE, restE, keepS,
  decide_eq_true_eq, true_and, and_true, if_true, if_false, Bool.false_eq_true, Nat.reduceAdd, Nat.reduceSub, Nat.zero_add, Nat.sub_zero, Bool.not_true, Bool.not_false, Bool.not_eq_true', decide_eq_false_iff_not,
  ok_par2N, ok_nApp, ok_nSet, ok_nIx, ok_frzN, nstB_nst, nstP_nst, onlyN_s, onlyN_z, noN_un, noN_dat, noN_own, noN_cel, noN_scr, allN_cons, allN_nil, Bool.and_true, Bool.true_and, Int.reduceNeg, ok_zipM, v_zipM, shEarly, shEnd, shBegin, shLate, neEE, neEE2, neBL, neBL2, eq_self, if_neg_f, decide_true, decide_false, Bool.and_false, Bool.false_and])
/-! ## runs by their places -/
structure Run where
  f : Nat
  en : Bool
  l : Nat
  la : Bool
  deriving DecidableEq
def Run.here (r : Run) : Nat := r.f + r.en.toNat
def Run.there (r : Run) : Nat := r.l + r.la.toNat
/-- all runs of so many acts, in order -/
def allRuns (n : Nat) : List Run :=
  ((List.range n).flatMap fun f => [false, true].flatMap fun en => (List.range' f (n - f)).flatMap fun l => [false, true].map fun la => (⟨f, en, l, la⟩ : Run)).filter fun r => decide (r.here < r.there)
theorem mem_runs {n : Nat} {r : Run} : r ∈ allRuns n ↔ r.f ≤ r.l ∧ r.l < n ∧ r.here < r.there := by
  unfold allRuns
  simp only [List.mem_filter, List.mem_flatMap, List.mem_range, List.mem_range'_1, List.mem_map, decide_eq_true_eq]
  constructor
  · rintro ⟨⟨f, hf, en, -, l, hl, la, -, rfl⟩, h⟩
    exact ⟨hl.1, by dsimp only; omega, h⟩
  · rintro ⟨h1, h2, h3⟩
    exact ⟨⟨r.f, by omega, r.en, by cases r.en <;> simp, r.l, ⟨h1, by omega⟩, r.la, by cases r.la <;> simp, rfl⟩, h3⟩
instance : Inhabited Act := ⟨⟨"", 0, 0, 0, 0, 0, 0⟩⟩
def at0 (E : List Act) (i : Nat) : Act := E.getD i default
def sumW (E : List Act) (i j : Nat) : Int := (((E.drop i).take (j - i)).map Act.w).sum
def sumC (E : List Act) (i j : Nat) : Int := (((E.drop i).take (j - i)).map Act.ch).sum
/-- what a run lacks -/
def lackR (E : List Act) (r : Run) : Int :=
  sumW E r.here r.there + sumC E r.f r.l - ((if r.la = true then (at0 E r.l).e + (at0 E r.l).la else (at0 E r.l).b) - (if r.en = true then (at0 E r.f).e else (at0 E r.f).b - (at0 E r.f).ea))
theorem at0_cons {a : Act} {E : List Act} {i : Nat} : at0 (a :: E) (i + 1) = at0 E i := by simp [at0]
theorem at0_zero {a : Act} {E : List Act} : at0 (a :: E) 0 = a := rfl
theorem at0_drop {E : List Act} {i j : Nat} : at0 (E.drop i) j = at0 E (i + j) := by simp [at0, List.getD_eq_getElem?_getD]
theorem sumW_drop {E : List Act} {i j k : Nat} : sumW (E.drop k) i j = sumW E (k + i) (k + j) := by
  unfold sumW; rw [List.drop_drop, show k + j - (k + i) = j - i by omega]
theorem sumC_drop {E : List Act} {i j k : Nat} : sumC (E.drop k) i j = sumC E (k + i) (k + j) := by
  unfold sumC; rw [List.drop_drop, show k + j - (k + i) = j - i by omega]
theorem sumW_self {E : List Act} {i : Nat} : sumW E i i = 0 := by unfold sumW; simp
theorem sumC_self {E : List Act} {i : Nat} : sumC E i i = 0 := by unfold sumC; simp
theorem drop_at {E : List Act} {i : Nat} (h : i < E.length) : E.drop i = at0 E i :: E.drop (i + 1) := by
  rw [List.drop_eq_getElem_cons h]
  simp [at0, h]
theorem sumW_head {E : List Act} {i j : Nat} (h : i < j) (hl : i < E.length) : sumW E i j = (at0 E i).w + sumW E (i + 1) j := by
  unfold sumW
  rw [drop_at hl, show j - i = (j - (i + 1)) + 1 by omega, List.take_succ_cons, List.map_cons, List.sum_cons]
theorem sumC_head {E : List Act} {i j : Nat} (h : i < j) (hl : i < E.length) : sumC E i j = (at0 E i).ch + sumC E (i + 1) j := by
  unfold sumC
  rw [drop_at hl, show j - i = (j - (i + 1)) + 1 by omega, List.take_succ_cons, List.map_cons, List.sum_cons]
/-- where a run of the acts from here on begins -/
def Run.start (E : List Act) (r : Run) : Int := if r.en = true then (at0 E r.f).e + (at0 E r.f).ch else (at0 E r.f).b - (at0 E r.f).ea
def endOf (E : List Act) (l : Nat) (la : Bool) : Int := if la = true then (at0 E l).e + (at0 E l).la else (at0 E l).b
theorem lack_start {E : List Act} {r : Run} (h1 : r.f ≤ r.l) (h2 : r.l < E.length) (h3 : r.here < r.there) : lackR E r = r.start E + sumW E r.here r.there + sumC E r.here r.l - endOf E r.l r.la := by
  unfold lackR Run.start endOf
  cases he : r.en with
  | false =>
    have : r.here = r.f := by unfold Run.here; rw [he]; rfl
    rw [this]
    simp only [Bool.false_eq_true, if_false]
    omega
  | true =>
    have hh : r.here = r.f + 1 := by unfold Run.here; rw [he]; rfl
    have ht : r.there ≤ r.l + 1 := by unfold Run.there; cases r.la <;> simp
    have : r.f < r.l := by omega
    rw [hh, sumC_head this (by omega)]
    simp only [if_true]
    omega
/-- the least forgone from an act on, what is ahead as short as can be -/
def freeAt (E : List Act) : Nat → Int
  | 0 => -1000000000
  | i + 1 => (at0 E i).e + (at0 E i).ch
def val (E : List Act) (i : Nat) : Int := Lo (freeAt E i) (E.drop i)
/-- an evening's acts, roughly -/
structure EG (E : List Act) : Prop where
  g : ∀ a ∈ E, AG a
  fol : ∃ r, Fol r E
  lo : ∀ a ∈ E, -1000000000 ≤ a.b - a.ea
theorem fol_drop : ∀ {E : List Act} {r : Int} {i : Nat}, Fol r E → i < E.length → Fol ((at0 E i).e + (at0 E i).ch) (E.drop (i + 1))
  | a :: E, r, 0, h, _ => h.2
  | a :: E, r, i + 1, h, hi => by
    rw [at0_cons]
    exact fol_drop (E := E) (i := i) h.2 (by simpa using hi)
theorem at0_mem {E : List Act} {i : Nat} (h : i < E.length) : at0 E i ∈ E := by
  unfold at0; rw [List.getD_eq_getElem?_getD, List.getElem?_eq_getElem h]; exact List.getElem_mem h
theorem val_last {E : List Act} : val E E.length = 0 := by unfold val; rw [List.drop_length]; rfl
/-- the start of runs from the place on -/
def startAt (E : List Act) (i : Nat) : Int := max ((at0 E i).b - (at0 E i).ea) (freeAt E i)
theorem val_ru {E : List Act} (h : EG E) {i : Nat} (hi : i < E.length) : val E i = max (val E (i + 1)) (Ru (startAt E i) (E.drop i)) := by
  obtain ⟨r, hf⟩ := h.fol
  unfold val
  rw [drop_at hi, lo_ru (h.g _ (at0_mem hi)) (fun x hx => h.g x (List.mem_of_mem_drop hx)) (fol_drop hf hi)]
  rfl
theorem start_le {E : List Act} (h : EG E) {r : Run} (h1 : r.f ≤ r.l) (h2 : r.l < E.length) (h3 : r.here < r.there) : r.start E ≤ startAt E r.here := by
  unfold Run.start startAt
  cases he : r.en with
  | false =>
    have : r.here = r.f := by unfold Run.here; rw [he]; rfl
    rw [this]
    simp only [Bool.false_eq_true, if_false]
    omega
  | true =>
    have : r.here = r.f + 1 := by unfold Run.here; rw [he]; rfl
    rw [this]
    simp only [if_true, freeAt]
    omega
theorem start_ex {E : List Act} (h : EG E) {i : Nat} (hi : i < E.length) : startAt E i = (at0 E i).b - (at0 E i).ea ∨ ∃ j, i = j + 1 ∧ startAt E i = (at0 E j).e + (at0 E j).ch := by
  unfold startAt
  cases i with
  | zero =>
    have := h.lo _ (at0_mem hi)
    simp only [freeAt]; left; omega
  | succ j =>
    simp only [freeAt]
    by_cases c : (at0 E (j + 1)).b - (at0 E (j + 1)).ea ≥ (at0 E j).e + (at0 E j).ch
    · left; omega
    · right; exact ⟨j, rfl, by omega⟩
/-- the runs of Ru -/
theorem ru_ge {E : List Act} (h : EG E) (k : Nat) : ∀ {i l : Nat} {la : Bool} {s : Int}, l - i = k → i ≤ l → l < E.length → i < l + la.toNat →
    s + sumW E i (l + la.toNat) + sumC E i l - endOf E l la + val E (l + la.toNat) ≤ Ru s (E.drop i) := by
  induction k with
  | zero =>
    intro i l la s hk hil hl hr
    have : l = i := by omega
    subst this
    cases la with
    | false => simp at hr
    | true =>
      show s + sumW E l (l + 1) + sumC E l l - endOf E l true + val E (l + 1) ≤ _
      rw [sumW_head (by omega) hl, sumW_self, sumC_self]
      rw [drop_at hl]
      unfold val freeAt endOf
      simp only [if_true]
      cases hd : E.drop (l + 1) with
      | nil => simp only [Ru, Lo]; omega
      | cons a' E' => simp only [Ru]; omega
  | succ k ih =>
    intro i l la s hk hil hl hr
    have hi : i < E.length := by omega
    have hi1 : i + 1 < E.length := by omega
    rw [sumW_head hr hi, sumC_head (by omega) hi, drop_at hi, drop_at hi1]
    simp only [Ru]
    by_cases c : i + 1 < l + la.toNat
    · have := ih (i := i + 1) (l := l) (la := la) (s := s + (at0 E i).w + (at0 E i).ch) (by omega) (by omega) hl c
      rw [drop_at hi1] at this
      omega
    · have e1 : l = i + 1 := by omega
      subst e1
      cases la with
      | true => simp at c
      | false =>
        show s + ((at0 E i).w + sumW E (i + 1) (i + 1)) + ((at0 E i).ch + sumC E (i + 1) (i + 1)) - endOf E (i + 1) false + val E (i + 1) ≤ _
        rw [sumW_self, sumC_self]
        unfold val freeAt endOf
        simp only [Bool.false_eq_true, if_false]
        rw [drop_at hi1]
        omega
theorem ru_ex {E : List Act} (h : EG E) (k : Nat) : ∀ {i : Nat} {s : Int}, E.length - i = k + 1 → ∃ (l : Nat) (la : Bool), i ≤ l ∧ l < E.length ∧ i < l + la.toNat ∧
    Ru s (E.drop i) = s + sumW E i (l + la.toNat) + sumC E i l - endOf E l la + val E (l + la.toNat) := by
  induction k with
  | zero =>
    intro i s hk
    have hi : i < E.length := by omega
    refine ⟨i, true, Nat.le_refl _, hi, by simp, ?_⟩
    show _ = s + sumW E i (i + 1) + sumC E i i - endOf E i true + val E (i + 1)
    rw [sumW_head (by omega) hi, sumW_self, sumC_self, drop_at hi]
    have e : i + 1 = E.length := by omega
    rw [e, val_last, List.drop_length]
    simp only [Ru, endOf, if_true]; omega
  | succ k ih =>
    intro i s hk
    have hi : i < E.length := by omega
    have hi1 : i + 1 < E.length := by omega
    obtain ⟨l, la, a1, a2, a3, a4⟩ := ih (i := i + 1) (s := s + (at0 E i).w + (at0 E i).ch) (by omega)
    rw [drop_at hi, drop_at hi1]
    simp only [Ru]
    have hv : val E (i + 1) = Lo ((at0 E i).e + (at0 E i).ch) (at0 E (i + 1) :: E.drop (i + 1 + 1)) := by
      unfold val; rw [drop_at hi1]; rfl
    rw [← hv]
    rw [drop_at hi1] at a4
    by_cases c1 : max (s + (at0 E i).w + (at0 E i).ch - (at0 E (i + 1)).b + val E (i + 1)) (Ru (s + (at0 E i).w + (at0 E i).ch) (at0 E (i + 1) :: E.drop (i + 1 + 1))) ≤ s + (at0 E i).w - ((at0 E i).e + (at0 E i).la) + val E (i + 1)
    · refine ⟨i, true, Nat.le_refl _, hi, by simp, ?_⟩
      show _ = s + sumW E i (i + 1) + sumC E i i - endOf E i true + val E (i + 1)
      rw [sumW_head (by omega) hi, sumW_self, sumC_self]
      simp only [endOf, if_true]; omega
    · by_cases c2 : Ru (s + (at0 E i).w + (at0 E i).ch) (at0 E (i + 1) :: E.drop (i + 1 + 1)) ≤ s + (at0 E i).w + (at0 E i).ch - (at0 E (i + 1)).b + val E (i + 1)
      · refine ⟨i + 1, false, by omega, hi1, by simp, ?_⟩
        show _ = s + sumW E i (i + 1) + sumC E i (i + 1) - endOf E (i + 1) false + val E (i + 1)
        rw [sumW_head (by omega) hi, sumC_head (by omega) hi, sumW_self, sumC_self]
        simp only [endOf, Bool.false_eq_true, if_false]; omega
      · refine ⟨l, la, by omega, a2, by omega, ?_⟩
        rw [sumW_head (by omega) hi, sumC_head (by omega) hi]
        omega
/-! val is the longest way -/
theorem val_next {E : List Act} (h : EG E) {i : Nat} (hi : i < E.length) : val E (i + 1) ≤ val E i := by
  rw [val_ru h hi]; omega
theorem val_run {E : List Act} (h : EG E) {r : Run} (hr : r ∈ allRuns E.length) : lackR E r + val E r.there ≤ val E r.here := by
  obtain ⟨h1, h2, h3⟩ := mem_runs.mp hr
  have hle : r.here ≤ r.l := by have := h3; unfold Run.there at this; cases hla : r.la <;> rw [hla] at this <;> simp at this <;> omega
  have hi : r.here < E.length := by omega
  rw [val_ru h hi, lack_start h1 h2 h3]
  have a1 := start_le h h1 h2 h3
  have a2 := ru_ge h (r.l - r.here) (i := r.here) (l := r.l) (la := r.la) (s := startAt E r.here) rfl hle h2 h3
  have e : r.l + r.la.toNat = r.there := rfl
  rw [e] at a2
  omega
theorem val_ex {E : List Act} (h : EG E) {i : Nat} (hi : i < E.length) : val E i = val E (i + 1) ∨ ∃ r ∈ allRuns E.length, r.here = i ∧ val E i = lackR E r + val E r.there := by
  rw [val_ru h hi]
  by_cases c : Ru (startAt E i) (E.drop i) ≤ val E (i + 1)
  · left; omega
  · right
    obtain ⟨l, la, a1, a2, a3, a4⟩ := ru_ex h (E.length - i - 1) (i := i) (s := startAt E i) (by omega)
    rcases start_ex h hi with e | ⟨j, ej, e⟩
    · have q : (⟨i, false, l, la⟩ : Run) ∈ allRuns E.length := mem_runs.mpr ⟨a1, a2, a3⟩
      obtain ⟨h1, h2, h3⟩ := mem_runs.mp q
      refine ⟨_, q, rfl, ?_⟩
      rw [lack_start h1 h2 h3]
      simp only [Run.start, Run.here, Run.there, Bool.false_eq_true, if_false, Bool.toNat_false, Nat.add_zero]
      omega
    · subst ej
      have q : (⟨j, true, l, la⟩ : Run) ∈ allRuns E.length := mem_runs.mpr ⟨by dsimp only; omega, a2, a3⟩
      obtain ⟨h1, h2, h3⟩ := mem_runs.mp q
      refine ⟨_, q, rfl, ?_⟩
      rw [lack_start h1 h2 h3]
      simp only [Run.start, Run.here, Run.there, if_true, Bool.toNat_true]
      omega
end Lw

namespace Lw
open PySem DL
local macro_rules | `(tactic| walk_at "ev") => `(tactic| simp only [ok_ok, ok_bind, ok_pure, ok_opt, ok_var, ok_op, ok_opO, ok_un, ok_cmp, ok_B, ok_ite, ok_chain, ok_and, ok_or, ok_not, ok_ifE, ok_tru, ok_andV, ok_orV, ok_notV, ok_nil, ok_cons, ok_tup, ok_lst, ok_fz, ok_isi, ok_call, ok_callO, ok_noP, ok_part, ok_sl, ok_slAt, ok_ixO, ok_lenO, ok_move, ok_seq, ok_nx, ok_if, ok_ret, ok_retO, ok_drop, ok_store, ok_set, ok_setO, ok_asg, ok_dat, ok_own, ok_par2, ok_par3, ok_meth, ok_setIx, ok_extend, ok_frz, ok_cmpO, ok_rep, ok_listRg, ok_F, ok_FO, ok_FC, ok_FS, ok_items, ok_signs, ok_range1, ok_range2, ok_range3, ok_zip, ok_enum, ok_for, ok_comp,
  okO_some, okO_none, okF_ok, okC_ok, slD_dat, slL_own, slL_cel, ixP_own, ixP_cel, ixP_scr, isL_own, isL_cel, isL_scr, lenP_own, lenP_cel, lenP_scr, seqP_nx, seqP_rt, seqP_ro, seqP_ct, seqP_bk, wrS_un, wrS_dat, wrS_own, wrS_scr, okO_gN, okO_gTp, okO_gCons, okO_gNil, chgP_own, chgP_cel, okO_chg, ownB_own, ownB_cel, celP_own, celP_cel, scrP_scr, putSl_eq,
  v_addII, v_addIB, v_addTT, v_addLL, v_addSS, v_catLL, v_sub, v_mul, v_mod, v_div, v_pow, v_neg, v_cmp, v_eqII, v_neII, v_eqSS, v_neSS, v_isNone_n, v_isNone_b, v_isNone_i, v_isNone_s, v_isNone_l, v_isNone_t, v_notNone_n, v_notNone_b, v_notNone_i, v_notNone_s, v_notNone_l, v_notNone_t, v_isBl, v_in, v_notIn, v_inS, v_notInS, v_ixL, v_ixT, v_ixS, v_slL, v_slT, v_revL, v_revT, v_lenL, v_lenT, v_lenS, v_max2, v_min2, v_intB, v_intI, v_tupL, v_tupT, v_listL, v_listT, v_truB, v_truI, v_truN, v_blB, v_int, v_itL, v_itT, v_sig, v_rng1, v_rng2, v_lrg, v_zipL, v_zipT, v_zipTT, ok_lenSet, ok_listZip, sizeLine_eq, Nat.reduceLeDiff, Int.reduceLT, Int.reduceLE, atI0, atI1, atI2, atI3, atI4, atI5, atI6, atI_c, ixN0, ixN1, ixN2, okO_celAt, v_notBlT, v_notBlF, v_notBlG, v_notBlH, Int.reduceEq, Int.reduceNe, Int.cast_ofNat_Int, not_true_eq_false, not_false_eq_true, pow9, pow18, natAbs10, Bool.true_eq_false, cut_1, cut_nn, v_enum, v_app, v_setAt,
  List.getElem?_cons_zero, List.getElem?_cons_succ, List.set_cons_zero, List.set_cons_succ, List.length_cons, List.length_nil, List.map_cons, List.map_nil, envOf, List.cons_append, List.nil_append, List.replicate, wipeE, restE, keepS,
  decide_eq_true_eq, true_and, and_true, if_true, if_false, Bool.false_eq_true, Nat.reduceAdd, Nat.reduceSub, Nat.zero_add, Nat.sub_zero, Bool.not_true, Bool.not_false, Bool.not_eq_true', decide_eq_false_iff_not])
local macro_rules | `(tactic| walk_at "en") => `(tactic| simp only [ok_ok, ok_bind, ok_pure, ok_opt, ok_var, ok_op, ok_opO, ok_un, ok_cmp, ok_B, ok_ite, ok_chain, ok_and, ok_or, ok_not, ok_ifE, ok_tru, ok_andV, ok_orV, ok_notV, ok_nil, ok_cons, ok_tup, ok_lst, ok_fz, ok_isi, ok_call, ok_callO, ok_noP, ok_part, ok_sl, ok_slAt, ok_ixO, ok_lenO, ok_move, ok_seq, ok_nx, ok_if, ok_ret, ok_retO, ok_drop, ok_store, ok_set, ok_setO, ok_asg, ok_dat, ok_own, ok_par2, ok_par3, ok_meth, ok_setIx, ok_extend, ok_frz, ok_cmpO, ok_rep, ok_listRg, ok_F, ok_FO, ok_FC, ok_FS, ok_items, ok_signs, ok_range1, ok_range2, ok_range3, ok_zip, ok_enum, ok_for, ok_comp,
  okO_some, okO_none, okF_ok, okC_ok, slD_dat, slL_own, slL_cel, ixP_own, ixP_cel, ixP_scr, isL_own, isL_cel, isL_scr, lenP_own, lenP_cel, lenP_scr, seqP_nx, seqP_rt, seqP_ro, seqP_ct, seqP_bk, wrS_un, wrS_dat, wrS_own, wrS_scr, okO_gN, okO_gTp, okO_gCons, okO_gNil, chgP_own, chgP_cel, okO_chg, ownB_own, ownB_cel, celP_own, celP_cel, scrP_scr, putSl_eq,
  v_addII, v_addIB, v_addTT, v_addLL, v_addSS, v_catLL, v_sub, v_mul, v_mod, v_div, v_pow, v_neg, v_cmp, v_eqII, v_neII, v_eqSS, v_neSS, v_isNone_n, v_isNone_b, v_isNone_i, v_isNone_s, v_isNone_l, v_isNone_t, v_notNone_n, v_notNone_b, v_notNone_i, v_notNone_s, v_notNone_l, v_notNone_t, v_isBl, v_in, v_notIn, v_inS, v_notInS, v_ixL, v_ixT, v_ixS, v_slL, v_slT, v_revL, v_revT, v_lenL, v_lenT, v_lenS, v_max2, v_min2, v_intB, v_intI, v_tupL, v_tupT, v_listL, v_listT, v_truB, v_truI, v_truN, v_blB, v_int, v_itL, v_itT, v_sig, v_rng1, v_rng2, v_lrg, v_zipL, v_zipT, v_zipTT, ok_lenSet, ok_listZip, sizeLine_eq, Nat.reduceLeDiff, Int.reduceLT, Int.reduceLE, atI0, atI1, atI2, atI3, atI4, atI5, atI6, atI_c, ixN0, ixN1, ixN2, okO_celAt, v_notBlT, v_notBlF, v_notBlG, v_notBlH, Int.reduceEq, Int.reduceNe, Int.cast_ofNat_Int, not_true_eq_false, not_false_eq_true, pow9, pow18, natAbs10, Bool.true_eq_false, cut_1, cut_nn, v_enum, v_app, v_setAt,
  List.getElem?_cons_zero, List.getElem?_cons_succ, List.set_cons_zero, List.set_cons_succ, List.length_cons, List.length_nil, List.map_cons, List.map_nil, envOf, List.cons_append, List.nil_append, List.replicate, wipeE, restE, keepS,
  decide_eq_true_eq, true_and, and_true, if_true, if_false, Bool.false_eq_true, Nat.reduceAdd, Nat.reduceSub, Nat.zero_add, Nat.sub_zero, Bool.not_true, Bool.not_false, Bool.not_eq_true', decide_eq_false_iff_not,
  ok_par2N, ok_nApp, ok_nSet, ok_nIx, ok_frzN, nstB_nst, nstP_nst, onlyN_s, onlyN_z, noN_un, noN_dat, noN_own, noN_cel, noN_scr, allN_cons, allN_nil, Bool.and_true, Bool.true_and, Int.reduceNeg, ok_zipM, v_zipM])
local macro_rules | `(tactic| walk_at "rn") => `(tactic| simp only [ok_ok, ok_bind, ok_pure, ok_opt, ok_var, ok_op, ok_opO, ok_un, ok_cmp, ok_B, ok_ite, ok_chain, ok_and, ok_or, ok_not, ok_ifE, ok_tru, ok_andV, ok_orV, ok_notV, ok_nil, ok_cons, ok_tup, ok_lst, ok_fz, ok_isi, ok_call, ok_callO, ok_noP, ok_part, ok_sl, ok_slAt, ok_ixO, ok_lenO, ok_move, ok_seq, ok_nx, ok_if, ok_ret, ok_retO, ok_drop, ok_store, ok_set, ok_setO, ok_asg, ok_dat, ok_own, ok_par2, ok_par3, ok_meth, ok_setIx, ok_extend, ok_frz, ok_cmpO, ok_rep, ok_listRg, ok_F, ok_FO, ok_FC, ok_FS, ok_items, ok_signs, ok_range1, ok_range2, ok_range3, ok_zip, ok_enum, ok_for, ok_comp,
  okO_some, okO_none, okF_ok, okC_ok, slD_dat, slL_own, slL_cel, ixP_own, ixP_cel, ixP_scr, isL_own, isL_cel, isL_scr, lenP_own, lenP_cel, lenP_scr, seqP_nx, seqP_rt, seqP_ro, seqP_ct, seqP_bk, wrS_un, wrS_dat, wrS_own, wrS_scr, okO_gN, okO_gTp, okO_gCons, okO_gNil, chgP_own, chgP_cel, okO_chg, ownB_own, ownB_cel, celP_own, celP_cel, scrP_scr, putSl_eq,
  v_addII, v_addIB, v_addTT, v_addLL, v_addSS, v_catLL, v_sub, v_mul, v_mod, v_div, v_pow, v_neg, v_cmp, v_eqII, v_neII, v_eqSS, v_neSS, v_isNone_n, v_isNone_b, v_isNone_i, v_isNone_s, v_isNone_l, v_isNone_t, v_notNone_n, v_notNone_b, v_notNone_i, v_notNone_s, v_notNone_l, v_notNone_t, v_isBl, v_in, v_notIn, v_inS, v_notInS, v_ixL, v_ixT, v_ixS, v_slL, v_slT, v_revL, v_revT, v_lenL, v_lenT, v_lenS, v_max2, v_min2, v_intB, v_intI, v_tupL, v_tupT, v_listL, v_listT, v_truB, v_truI, v_truN, v_blB, v_int, v_itL, v_itT, v_sig, v_rng1, v_rng2, v_lrg, v_zipL, v_zipT, v_zipTT, ok_lenSet, ok_listZip, sizeLine_eq, Nat.reduceLeDiff, Int.reduceLT, Int.reduceLE, atI0, atI1, atI2, atI3, atI4, atI5, atI6, atI_c, ixN0, ixN1, ixN2, okO_celAt, v_notBlT, v_notBlF, v_notBlG, v_notBlH, Int.reduceEq, Int.reduceNe, Int.cast_ofNat_Int, not_true_eq_false, not_false_eq_true, pow9, pow18, natAbs10, Bool.true_eq_false, cut_1, cut_nn, v_enum, v_app, v_setAt,
  List.getElem?_cons_zero, List.getElem?_cons_succ, List.set_cons_zero, List.set_cons_succ, List.length_cons, List.length_nil, List.map_cons, List.map_nil, envOf, List.cons_append, List.nil_append, List.replicate, wipeE, restE, keepS,
  decide_eq_true_eq, true_and, and_true, if_true, if_false, Bool.false_eq_true, Nat.reduceAdd, Nat.reduceSub, Nat.zero_add, Nat.sub_zero, Bool.not_true, Bool.not_false, Bool.not_eq_true', decide_eq_false_iff_not,
  ok_par2N, ok_nApp, ok_nSet, ok_nIx, ok_frzN, nstB_nst, nstP_nst, onlyN_s, onlyN_z, noN_un, noN_dat, noN_own, noN_cel, noN_scr, allN_cons, allN_nil, Bool.and_true, Bool.true_and, Int.reduceNeg, ok_zipM, v_zipM, shEarly, shEnd, shBegin, shLate, neEE, neEE2, neBL, neBL2, eq_self, if_neg_f, decide_true, decide_false, Bool.and_false, Bool.false_and])
/-! ## ways: runs one behind the other -/
def Chain (n : Nat) : Nat → Nat → List Run → Prop
  | i, j, [] => i ≤ j
  | i, j, r :: rs => i ≤ r.here ∧ r ∈ allRuns n ∧ Chain n r.there j rs
def lackS (E : List Act) (rs : List Run) : Int := (rs.map (lackR E)).sum
theorem val_down {E : List Act} (h : EG E) : ∀ {k i : Nat}, i + k ≤ E.length → val E (i + k) ≤ val E i
  | 0, i, _ => Int.le_refl _
  | k + 1, i, hi => by
    have := val_down h (k := k) (i := i) (by omega)
    have := val_next h (i := i + k) (by omega)
    rw [show i + (k + 1) = i + k + 1 by omega]; omega
theorem val_le {E : List Act} (h : EG E) {i j : Nat} (hij : i ≤ j) (hj : j ≤ E.length) : val E j ≤ val E i := by
  have := val_down h (k := j - i) (i := i) (by omega)
  rwa [show i + (j - i) = j by omega] at this
theorem there_le {n : Nat} {r : Run} (h : r ∈ allRuns n) : r.there ≤ n := by
  obtain ⟨_, h2, _⟩ := mem_runs.mp h
  unfold Run.there
  cases r.la <;> simp <;> omega
theorem chain_le {n : Nat} : ∀ {rs : List Run} {i j : Nat}, Chain n i j rs → i ≤ j
  | [], i, j, h => h
  | r :: rs, i, j, h => by
    have := chain_le h.2.2
    have := (mem_runs.mp h.2.1).2.2
    have := h.1
    omega
theorem chain_val {E : List Act} (h : EG E) : ∀ {rs : List Run} {i j : Nat}, Chain E.length i j rs → j ≤ E.length → lackS E rs + val E j ≤ val E i
  | [], i, j, hc, hj => by
    have := val_le h hc hj
    simp only [lackS, List.map_nil, List.sum_nil]; omega
  | r :: rs, i, j, hc, hj => by
    have a1 := chain_val h hc.2.2 hj
    have a2 := val_run h hc.2.1
    have a3 := (mem_runs.mp hc.2.1).2.2
    have a4 := val_le h (i := i) (j := r.here) hc.1 (by have := there_le hc.2.1; omega)
    simp only [lackS, List.map_cons, List.sum_cons] at a1 ⊢
    omega
theorem chain_snoc {n : Nat} : ∀ {rs : List Run} {i j k : Nat} {r : Run}, Chain n i j rs → j ≤ r.here → r ∈ allRuns n → r.there ≤ k → Chain n i k (rs ++ [r])
  | [], i, j, k, r, h, h1, h2, h3 => ⟨Nat.le_trans h h1, h2, h3⟩
  | s :: rs, i, j, k, r, h, h1, h2, h3 => ⟨h.1, h.2.1, chain_snoc h.2.2 h1 h2 h3⟩
theorem chain_mono {n : Nat} : ∀ {rs : List Run} {i j k : Nat}, Chain n i j rs → j ≤ k → Chain n i k rs
  | [], i, j, k, h, h1 => Nat.le_trans h h1
  | s :: rs, i, j, k, h, h1 => ⟨h.1, h.2.1, chain_mono h.2.2 h1⟩
theorem lackS_snoc {E : List Act} {rs : List Run} {r : Run} : lackS E (rs ++ [r]) = lackS E rs + lackR E r := by
  unfold lackS; rw [List.map_append, List.sum_append]; simp
/-- a longest way is found by what is longest ahead -/
theorem ahead_val {E : List Act} (h : EG E) (v : Nat → Int) (h0 : v 0 = 0) (h1 : ∀ i, i < E.length → v i ≤ v (i + 1)) (h2 : ∀ r ∈ allRuns E.length, v r.here + lackR E r ≤ v r.there)
    (h3 : ∀ i, i ≤ E.length → v i + val E i ≤ val E 0) : v E.length = val E 0 := by
  suffices key : ∀ k i, E.length - i = k → i ≤ E.length → val E 0 ≤ v i + val E i → val E 0 ≤ v E.length by
    have a := key E.length 0 (by omega) (by omega) (by omega)
    have b := h3 E.length (Nat.le_refl _)
    rw [val_last] at b
    omega
  intro k
  induction k using Nat.strongRecOn with
  | _ k ih =>
    intro i hk hi hv
    by_cases e : i = E.length
    · subst e; rw [val_last] at hv; omega
    · have lt : i < E.length := by omega
      rcases val_ex h lt with q | ⟨r, hr, q1, q2⟩
      · have := h1 i lt
        exact ih (E.length - (i + 1)) (by omega) (i + 1) rfl (by omega) (by omega)
      · have := h2 r hr
        have a1 := (mem_runs.mp hr).2.2
        have a2 := there_le hr
        rw [q1] at this a1
        exact ih (E.length - r.there) (by omega) r.there rfl a2 (by omega)
/-- .. from behind -/
theorem behind_val {E : List Act} (h : EG E) (v : Nat → Int) (h0 : v E.length = 0) (h1 : ∀ i, i < E.length → v (i + 1) ≤ v i) (h2 : ∀ r ∈ allRuns E.length, lackR E r + v r.there ≤ v r.here)
    (h3 : ∀ i, i < E.length → v i = v (i + 1) ∨ ∃ r ∈ allRuns E.length, r.here = i ∧ v i = lackR E r + v r.there) : ∀ i, i ≤ E.length → v i = val E i := by
  suffices key : ∀ k i, E.length - i = k → i ≤ E.length → v i = val E i from fun i hi => key _ i rfl hi
  intro k
  induction k using Nat.strongRecOn with
  | _ k ih =>
    intro i hk hi
    by_cases e : i = E.length
    · subst e; rw [h0, val_last]
    · have lt : i < E.length := by omega
      have n1 := ih (E.length - (i + 1)) (by omega) (i + 1) rfl (by omega)
      have rr : ∀ r ∈ allRuns E.length, r.here = i → v r.there = val E r.there := fun r hr e => by
        have := (mem_runs.mp hr).2.2
        exact ih (E.length - r.there) (by omega) r.there rfl (there_le hr)
      refine Int.le_antisymm ?_ ?_
      · rcases h3 i lt with q | ⟨r, hr, q1, q2⟩
        · have := val_next h lt; omega
        · have := val_run h hr
          rw [rr r hr q1] at q2
          rw [q1] at this; omega
      · rcases val_ex h lt with q | ⟨r, hr, q1, q2⟩
        · have := h1 i lt; omega
        · have := h2 r hr
          rw [q1, rr r hr q1] at this; omega
/-- the least that is forgone is the most that runs apart lack -/
theorem val_zero {E : List Act} : val E 0 = Lo (-1000000000) E := rfl
theorem chain_cost {E : List Act} (h : EG E) {rs : List Run} (hc : Chain E.length 0 E.length rs) {T : List Pt} (hT : acts T = E) (hs : Sd (-1000000000) T) : lackS E rs ≤ cost T := by
  have a1 := chain_val h hc (Nat.le_refl _)
  rw [val_last, val_zero] at a1
  have a2 := lo_le hs
  rw [hT] at a2
  omega
end Lw

namespace Lw
open PySem DL
local macro_rules | `(tactic| walk_at "ev") => `(tactic| simp only [ok_ok, ok_bind, ok_pure, ok_opt, ok_var, ok_op, ok_opO, ok_un, ok_cmp, ok_B, ok_ite, ok_chain, ok_and, ok_or, ok_not, ok_ifE, ok_tru, ok_andV, ok_orV, ok_notV, ok_nil, ok_cons, ok_tup, ok_lst, ok_fz, ok_isi, ok_call, ok_callO, ok_noP, ok_part, ok_sl, ok_slAt, ok_ixO, ok_lenO, ok_move, ok_seq, ok_nx, ok_if, ok_ret, ok_retO, ok_drop, ok_store, ok_set, ok_setO, ok_asg, ok_dat, ok_own, ok_par2, ok_par3, ok_meth, ok_setIx, ok_extend, ok_frz, ok_cmpO, ok_rep, ok_listRg, ok_F, ok_FO, ok_FC, ok_FS, ok_items, ok_signs, ok_range1, ok_range2, ok_range3, ok_zip, ok_enum, ok_for, ok_comp,
  okO_some, okO_none, okF_ok, okC_ok, slD_dat, slL_own, slL_cel, ixP_own, ixP_cel, ixP_scr, isL_own, isL_cel, isL_scr, lenP_own, lenP_cel, lenP_scr, seqP_nx, seqP_rt, seqP_ro, seqP_ct, seqP_bk, wrS_un, wrS_dat, wrS_own, wrS_scr, okO_gN, okO_gTp, okO_gCons, okO_gNil, chgP_own, chgP_cel, okO_chg, ownB_own, ownB_cel, celP_own, celP_cel, scrP_scr, putSl_eq,
  v_addII, v_addIB, v_addTT, v_addLL, v_addSS, v_catLL, v_sub, v_mul, v_mod, v_div, v_pow, v_neg, v_cmp, v_eqII, v_neII, v_eqSS, v_neSS, v_isNone_n, v_isNone_b, v_isNone_i, v_isNone_s, v_isNone_l, v_isNone_t, v_notNone_n, v_notNone_b, v_notNone_i, v_notNone_s, v_notNone_l, v_notNone_t, v_isBl, v_in, v_notIn, v_inS, v_notInS, v_ixL, v_ixT, v_ixS, v_slL, v_slT, v_revL, v_revT, v_lenL, v_lenT, v_lenS, v_max2, v_min2, v_intB, v_intI, v_tupL, v_tupT, v_listL, v_listT, v_truB, v_truI, v_truN, v_blB, v_int, v_itL, v_itT, v_sig, v_rng1, v_rng2, v_lrg, v_zipL, v_zipT, v_zipTT, ok_lenSet, ok_listZip, sizeLine_eq, Nat.reduceLeDiff, Int.reduceLT, Int.reduceLE, atI0, atI1, atI2, atI3, atI4, atI5, atI6, atI_c, ixN0, ixN1, ixN2, okO_celAt, v_notBlT, v_notBlF, v_notBlG, v_notBlH, Int.reduceEq, Int.reduceNe, Int.cast_ofNat_Int, not_true_eq_false, not_false_eq_true, pow9, pow18, natAbs10, Bool.true_eq_false, cut_1, cut_nn, v_enum, v_app, v_setAt,
  List.getElem?_cons_zero, List.getElem?_cons_succ, List.set_cons_zero, List.set_cons_succ, List.length_cons, List.length_nil, List.map_cons, List.map_nil, envOf, List.cons_append, List.nil_append, List.replicate, wipeE, restE, keepS,
  decide_eq_true_eq, true_and, and_true, if_true, if_false, Bool.false_eq_true, Nat.reduceAdd, Nat.reduceSub, Nat.zero_add, Nat.sub_zero, Bool.not_true, Bool.not_false, Bool.not_eq_true', decide_eq_false_iff_not])
local macro_rules | `(tactic| walk_at "en") => `(tactic| simp only [ok_ok, ok_bind, ok_pure, ok_opt, ok_var, ok_op, ok_opO, ok_un, ok_cmp, ok_B, ok_ite, ok_chain, ok_and, ok_or, ok_not, ok_ifE, ok_tru, ok_andV, ok_orV, ok_notV, ok_nil, ok_cons, ok_tup, ok_lst, ok_fz, ok_isi, ok_call, ok_callO, ok_noP, ok_part, ok_sl, ok_slAt, ok_ixO, ok_lenO, ok_move, ok_seq, ok_nx, ok_if, ok_ret, ok_retO, ok_drop, ok_store, ok_set, ok_setO, ok_asg, ok_dat, ok_own, ok_par2, ok_par3, ok_meth, ok_setIx, ok_extend, ok_frz, ok_cmpO, ok_rep, ok_listRg, ok_F, ok_FO, ok_FC, ok_FS, ok_items, ok_signs, ok_range1, ok_range2, ok_range3, ok_zip, ok_enum, ok_for, ok_comp,
  okO_some, okO_none, okF_ok, okC_ok, slD_dat, slL_own, slL_cel, ixP_own, ixP_cel, ixP_scr, isL_own, isL_cel, isL_scr, lenP_own, lenP_cel, lenP_scr, seqP_nx, seqP_rt, seqP_ro, seqP_ct, seqP_bk, wrS_un, wrS_dat, wrS_own, wrS_scr, okO_gN, okO_gTp, okO_gCons, okO_gNil, chgP_own, chgP_cel, okO_chg, ownB_own, ownB_cel, celP_own, celP_cel, scrP_scr, putSl_eq,
  v_addII, v_addIB, v_addTT, v_addLL, v_addSS, v_catLL, v_sub, v_mul, v_mod, v_div, v_pow, v_neg, v_cmp, v_eqII, v_neII, v_eqSS, v_neSS, v_isNone_n, v_isNone_b, v_isNone_i, v_isNone_s, v_isNone_l, v_isNone_t, v_notNone_n, v_notNone_b, v_notNone_i, v_notNone_s, v_notNone_l, v_notNone_t, v_isBl, v_in, v_notIn, v_inS, v_notInS, v_ixL, v_ixT, v_ixS, v_slL, v_slT, v_revL, v_revT, v_lenL, v_lenT, v_lenS, v_max2, v_min2, v_intB, v_intI, v_tupL, v_tupT, v_listL, v_listT, v_truB, v_truI, v_truN, v_blB, v_int, v_itL, v_itT, v_sig, v_rng1, v_rng2, v_lrg, v_zipL, v_zipT, v_zipTT, ok_lenSet, ok_listZip, sizeLine_eq, Nat.reduceLeDiff, Int.reduceLT, Int.reduceLE, atI0, atI1, atI2, atI3, atI4, atI5, atI6, atI_c, ixN0, ixN1, ixN2, okO_celAt, v_notBlT, v_notBlF, v_notBlG, v_notBlH, Int.reduceEq, Int.reduceNe, Int.cast_ofNat_Int, not_true_eq_false, not_false_eq_true, pow9, pow18, natAbs10, Bool.true_eq_false, cut_1, cut_nn, v_enum, v_app, v_setAt,
  List.getElem?_cons_zero, List.getElem?_cons_succ, List.set_cons_zero, List.set_cons_succ, List.length_cons, List.length_nil, List.map_cons, List.map_nil, envOf, List.cons_append, List.nil_append, List.replicate, wipeE, restE, keepS,
  decide_eq_true_eq, true_and, and_true, if_true, if_false, Bool.false_eq_true, Nat.reduceAdd, Nat.reduceSub, Nat.zero_add, Nat.sub_zero, Bool.not_true, Bool.not_false, Bool.not_eq_true', decide_eq_false_iff_not,
  ok_par2N, ok_nApp, ok_nSet, ok_nIx, ok_frzN, nstB_nst, nstP_nst, onlyN_s, onlyN_z, noN_un, noN_dat, noN_own, noN_cel, noN_scr, allN_cons, allN_nil, Bool.and_true, Bool.true_and, Int.reduceNeg, ok_zipM, v_zipM])
local macro_rules | `(tactic| walk_at "rn") => `(tactic| simp only [ok_ok, ok_bind, ok_pure, ok_opt, ok_var, ok_op, ok_opO, ok_un, ok_cmp, ok_B, ok_ite, ok_chain, ok_and, ok_or, ok_not, ok_ifE, ok_tru, ok_andV, ok_orV, ok_notV, ok_nil, ok_cons, ok_tup, ok_lst, ok_fz, ok_isi, ok_call, ok_callO, ok_noP, ok_part, ok_sl, ok_slAt, ok_ixO, ok_lenO, ok_move, ok_seq, ok_nx, ok_if, ok_ret, ok_retO, ok_drop, ok_store, ok_set, ok_setO, ok_asg, ok_dat, ok_own, ok_par2, ok_par3, ok_meth, ok_setIx, ok_extend, ok_frz, ok_cmpO, ok_rep, ok_listRg, ok_F, ok_FO, ok_FC, ok_FS, ok_items, ok_signs, ok_range1, ok_range2, ok_range3, ok_zip, ok_enum, ok_for, ok_comp,
  okO_some, okO_none, okF_ok, okC_ok, slD_dat, slL_own, slL_cel, ixP_own, ixP_cel, ixP_scr, isL_own, isL_cel, isL_scr, lenP_own, lenP_cel, lenP_scr, seqP_nx, seqP_rt, seqP_ro, seqP_ct, seqP_bk, wrS_un, wrS_dat, wrS_own, wrS_scr, okO_gN, okO_gTp, okO_gCons, okO_gNil, chgP_own, chgP_cel, okO_chg, ownB_own, ownB_cel, celP_own, celP_cel, scrP_scr, putSl_eq,
  v_addII, v_addIB, v_addTT, v_addLL, v_addSS, v_catLL, v_sub, v_mul, v_mod, v_div, v_pow, v_neg, v_cmp, v_eqII, v_neII, v_eqSS, v_neSS, v_isNone_n, v_isNone_b, v_isNone_i, v_isNone_s, v_isNone_l, v_isNone_t, v_notNone_n, v_notNone_b, v_notNone_i, v_notNone_s, v_notNone_l, v_notNone_t, v_isBl, v_in, v_notIn, v_inS, v_notInS, v_ixL, v_ixT, v_ixS, v_slL, v_slT, v_revL, v_revT, v_lenL, v_lenT, v_lenS, v_max2, v_min2, v_intB, v_intI, v_tupL, v_tupT, v_listL, v_listT, v_truB, v_truI, v_truN, v_blB, v_int, v_itL, v_itT, v_sig, v_rng1, v_rng2, v_lrg, v_zipL, v_zipT, v_zipTT, ok_lenSet, ok_listZip, sizeLine_eq, Nat.reduceLeDiff, Int.reduceLT, Int.reduceLE, atI0, atI1, atI2, atI3, atI4, atI5, atI6, atI_c, ixN0, ixN1, ixN2, okO_celAt, v_notBlT, v_notBlF, v_notBlG, v_notBlH, Int.reduceEq, Int.reduceNe, Int.cast_ofNat_Int, not_true_eq_false, not_false_eq_true, pow9, pow18, natAbs10, Bool.true_eq_false, cut_1, cut_nn, v_enum, v_app, v_setAt,
  List.getElem?_cons_zero, List.getElem?_cons_succ, List.set_cons_zero, List.set_cons_succ, List.length_cons, List.length_nil, List.map_cons, List.map_nil, envOf, List.cons_append, List.nil_append, List.replicate, wipeE, restE, keepS,
  decide_eq_true_eq, true_and, and_true, if_true, if_false, Bool.false_eq_true, Nat.reduceAdd, Nat.reduceSub, Nat.zero_add, Nat.sub_zero, Bool.not_true, Bool.not_false, Bool.not_eq_true', decide_eq_false_iff_not,
  ok_par2N, ok_nApp, ok_nSet, ok_nIx, ok_frzN, nstB_nst, nstP_nst, onlyN_s, onlyN_z, noN_un, noN_dat, noN_own, noN_cel, noN_scr, allN_cons, allN_nil, Bool.and_true, Bool.true_and, Int.reduceNeg, ok_zipM, v_zipM, shEarly, shEnd, shBegin, shLate, neEE, neEE2, neBL, neBL2, eq_self, if_neg_f, decide_true, decide_false, Bool.and_false, Bool.false_and])
/-! ## a drawn standing -/
def rowL (t : Pt) : List D := [.int t.2.1, .int t.2.2]
/-- begins that have been drawn, the ends as late as may be -/
def Sb : Int → List Pt → Prop
  | _, [] => True
  | r, t :: F => (t.1.b - t.1.ea ≤ t.2.1 ∧ t.2.1 ≤ t.1.b ∧ r ≤ t.2.1) ∧ Sb (t.1.e + t.1.ch) F
theorem sb_snoc {t : Pt} : ∀ {r : Int} {F : List Pt}, Sb r F → (t.1.b - t.1.ea ≤ t.2.1 ∧ t.2.1 ≤ t.1.b ∧ endF r (acts F) ≤ t.2.1) → Sb r (F ++ [t])
  | r, [], _, h => ⟨h, trivial⟩
  | r, x :: F, h, g => ⟨h.1, sb_snoc h.2 g⟩
theorem sb_at : ∀ {r : Int} {F : List Pt} {i : Nat} {t u : Pt}, Sb r F → F[i]? = some t → F[i + 1]? = some u → t.1.e + t.1.ch ≤ u.2.1
  | r, [], i, t, u, _, h, _ => by simp at h
  | r, x :: F, 0, t, u, h, h1, h2 => by
    simp at h1 h2
    subst h1
    cases F with
    | nil => simp at h2
    | cons y F => simp at h2; subst h2; exact h.2.1.2.2
  | r, x :: F, i + 1, t, u, h, h1, h2 => sb_at (F := F) (i := i) h.2 (by simpa using h1) (by simpa using h2)
theorem sb_bd : ∀ {r : Int} {F : List Pt} {t : Pt}, Sb r F → t ∈ F → t.1.b - t.1.ea ≤ t.2.1 ∧ t.2.1 ≤ t.1.b
  | r, x :: F, t, h, ht => by
    rcases List.mem_cons.mp ht with rfl | ht
    · exact ⟨h.1.1, h.1.2.1⟩
    · exact sb_bd h.2 ht
theorem fol_head {r : Int} {a : Act} {F R : List Act} (h : Fol r (F ++ a :: R)) : endF r F ≤ a.b := by
  induction F generalizing r with
  | nil => exact h.1
  | cons x F ih => exact ih h.2
def needOf : List Pt → Int
  | [] => 1000000000
  | t :: _ => t.2.1
theorem intB {k : Bool} {P : D → Prop} : okO (dIntC [.bool k]) P = P (.int (if k then 1 else 0)) := rfl
theorem wrs_noN {x : Sl} {p : Prop} (h : noN x = true) (q : p) : p := q
theorem take0 (d x y : Int) (h : 0 ≤ x ∧ x < d) (z : Int) (hz : z = 0 ∨ z = 1) : 0 ≤ x * z ∧ x * z < d := by
  rcases hz with rfl | rfl <;> omega
theorem some_standing_ok {W : List D} {E : List Act} {P : D × List D → Prop} (hW : WOk W) (hE : EvOk E) (hP : ∀ T W', acts T = E → Sd (-1000000000) T → WOk W' → P (stD (moms T), W')) : okC (f__law_some_standing W [evD E]) P := by
  unfold f__law_some_standing runC m__law_some_standing evD
  rw [okC_ret]
  walk_at "en"
  have h8 := hE.hi
  refine forA (fun R e => ∃ (W' : List D) (F : List Pt) (r : Int) (s2 s4 s7 s8 : Sl), e = [.cel W', .dat (.tuple (E.map actD)), s2, .un, s4, .nst (F.map rowL), .dat (.int r), s7, s8, .un] ∧ (wrS (some s2) = true ∧ wrS (some s4) = true ∧ wrS (some s7) = true ∧ wrS (some s8) = true) ∧ (noN s2 = true ∧ noN s4 = true ∧ noN s7 = true ∧ noN s8 = true) ∧
    WOk W' ∧ acts F ++ R = E ∧ Sb (-1000000000) F ∧ r = endF (-1000000000) (acts F)) E ?_ ?_ ?_
  · exact ⟨W, [], _, _, _, _, _, rfl, ⟨rfl, rfl, rfl, rfl⟩, ⟨rfl, rfl, rfl, rfl⟩, hW, rfl, trivial, rfl⟩
  · rintro a R e ⟨W', F, r, s2, s4, s7, s8, rfl, ⟨h2, h4, h7, h8'⟩, ⟨n2, n4, n7, n8⟩, hW', hF, hS, hr⟩
    have ha := hE.act a (by rw [← hF]; simp)
    have hab := ha.b; have haea := ha.ea; have hach := ha.ch
    have hrb : endF (-1000000000) (acts F) ≤ a.b := by
      have hf : Fol (-1000000000) (acts F ++ a :: R) := by
        have := hE.fol
        rw [← hF] at this
        revert this
        cases acts F with
        | nil => exact fun h => ⟨by have := h.1; omega, h.2⟩
        | cons x F' => exact fun h => ⟨by have := h.1; omega, h.2⟩
      exact fol_head hf
    have hlen : F.length < 16777216 := by
      have : (acts F ++ a :: R).length ≤ 8 := by rw [hF]; exact h8
      simp [acts] at this; omega
    simp only [actD]
    walk_at "en"
    simp only [h2, h7, h8']
    walk_at "en"
    subst hr
    refine take_ok hW' (by omega) (by omega) fun u W1 u0 u1 hW1 => ?_
    walk_at "en"
    refine take_ok hW1 (by omega) (by omega) fun v W2 v0 v1 hW2 => ?_
    walk_at "en"
    simp only [n2, n4, n7, n8]
    walk_at "en"
    have hz : (if v = 0 then (1 : Int) else 0) = 0 ∨ (if v = 0 then (1 : Int) else 0) = 1 := by split <;> simp
    generalize (if v = 0 then (1 : Int) else 0) = z at hz
    have t0 := take0 _ u u ⟨u0, u1⟩ z hz
    refine ⟨.inl ⟨by omega, by omega⟩, by rw [List.length_map]; exact hlen, W2, F ++ [(a, max (a.b - a.ea) (endF (-1000000000) (acts F)) + u * z, a.e + a.la)], a.e + a.ch, _, _, _, _, by rw [List.map_append]; rfl, ⟨rfl, h4, rfl, h8'⟩, ⟨rfl, n4, rfl, n8⟩, hW2, ?_, ?_, ?_⟩
    · rw [← hF]; simp [acts]
    · exact sb_snoc hS ⟨by dsimp only; omega, by dsimp only; omega, by dsimp only; omega⟩
    · rw [show acts (F ++ [(a, max (a.b - a.ea) (endF (-1000000000) (acts F)) + u * z, a.e + a.la)]) = acts F ++ [a] by simp [acts], endF_snoc]
  · rintro e ⟨W', F, r, s2, s4, s7, s8, rfl, ⟨h2, h4, h7, h8'⟩, ⟨n2, n4, n7, n8⟩, hW', hF, hS, hr⟩
    rw [List.append_nil] at hF
    have hFl : F.length = E.length := by rw [← hF]; simp [acts]
    walk_at "en"
    rw [List.length_map]
    have hr3 : dRange3 [.int ((E.length : Int) - 1), .int (-1), .int (-1)] = some ((List.range E.length).map fun n => PyData.int ((E.length : Int) - 1 + (n : Nat) * (-1))) := by
      have r1 : rngOk ((E.length : Int) - 1) = true := rngOk_mk (by omega)
      have r2 : rngOk (-1) = true := by decide +kernel
      show (if (-1 : Int) = -1 ∧ rngOk ((E.length : Int) - 1) = true ∧ rngOk (-1) = true then some ((List.range ((E.length : Int) - 1 - -1).toNat).map fun n => PyData.int ((E.length : Int) - 1 + (n : Nat) * (-1))) else none) = _
      rw [if_pos ⟨rfl, r1, r2⟩, show ((E.length : Int) - 1 - -1).toNat = E.length by omega]
    rw [hr3, okO_some]
    refine forL_inv (fun i e => ∃ (W' : List D) (T : List Pt) (s2 s4 s6 s7 s8 : Sl), e = [.cel W', .dat (.tuple (E.map actD)), s2, .dat (.int (needOf T)), s4, .nst ((F.take (E.length - i) ++ T).map rowL), s6, s7, s8, .un] ∧ (wrS (some s2) = true ∧ wrS (some s4) = true ∧ wrS (some s7) = true ∧ wrS (some s8) = true) ∧ (noN s2 = true ∧ noN s4 = true ∧ noN s6 = true ∧ noN s7 = true ∧ noN s8 = true) ∧
      WOk W' ∧ T.length = i ∧ acts T = E.drop (E.length - i) ∧ (∀ r, (∀ t, T.head? = some t → r ≤ t.2.1) → Sd r T) ∧ ∀ t, T.head? = some t → ∃ t', F[E.length - i]? = some t' ∧ t'.2.1 = t.2.1) ?_ ?_ ?_
    · refine ⟨W', [], s2, s4, .dat (.int r), s7, s8, ?_, ⟨h2, h4, h7, h8'⟩, ⟨n2, n4, rfl, n7, n8⟩, hW', rfl, by simp [acts], fun _ _ => trivial, by simp⟩
      rw [Nat.sub_zero, List.append_nil, List.take_of_length_le (by omega)]; rfl
    · rintro i d e hd ⟨W1, T, s2, s4, s6, s7, s8, rfl, ⟨h2, h4, h7, h8'⟩, ⟨n2, n4, n6, n7, n8⟩, hW1, hT, hTa, hTs, hTh⟩
      rw [List.getElem?_map] at hd
      obtain ⟨k, hk, rfl⟩ := Option.map_eq_some_iff.mp hd
      have hi : i < E.length := by
        have := (List.getElem?_eq_some_iff.mp hk).1
        simpa using this
      have ek : k = i := by
        rw [List.getElem?_range hi] at hk
        exact (Option.some.inj hk).symm
      subst ek
      have eat : (E.length : Int) - 1 + (k : Nat) * (-1) = ((E.length - 1 - k : Nat) : Int) := by omega
      rw [eat]
      have lt : E.length - 1 - k < E.length := by omega
      generalize hat : E.length - 1 - k = at_ at lt
      have hEa : E[at_]? = some E[at_] := List.getElem?_eq_getElem lt
      generalize E[at_] = a at hEa
      have hFt : ∃ t, F[at_]? = some t ∧ t.1 = a := pt_at hF hEa
      obtain ⟨t, ht, hta⟩ := hFt
      have ha := hE.act a (List.mem_of_getElem? hEa)
      have hab := ha.b; have haea := ha.ea; have hala := ha.la; have hach := ha.ch
      have tb := sb_bd hS (List.mem_of_getElem? ht)
      rw [hta] at tb
      have hneed : a.e + a.ch ≤ needOf T := by
        cases hTT : T with
        | nil => simp only [needOf]; omega
        | cons t1 T' =>
          obtain ⟨t', h1, h2⟩ := hTh t1 (by rw [hTT]; rfl)
          have : E.length - k = at_ + 1 := by omega
          rw [this] at h1
          have := sb_at hS ht h1
          rw [hta] at this
          simp only [needOf]; omega
      walk_at "en"
      simp only [h2, h4, h7, h8']
      walk_at "en"
      rw [act_at hEa]
      walk_at "en"
      refine take_ok hW1 (by omega) (by omega) fun u W2 u0 u1 hW2 => ?_
      walk_at "en"
      refine take_ok hW2 (by omega) (by omega) fun v W3 v0 v1 hW3 => ?_
      walk_at "en"
      simp only [n2, n4, n6, n7, n8]
      walk_at "en"
      have hz : (if v = 0 then (1 : Int) else 0) = 0 ∨ (if v = 0 then (1 : Int) else 0) = 1 := by split <;> simp
      generalize (if v = 0 then (1 : Int) else 0) = z at hz
      have t0 := take0 _ u u ⟨u0, u1⟩ z hz
      have hlen : ((F.take (E.length - k) ++ T).map rowL).length = E.length := by
        rw [List.length_map, List.length_append, List.length_take, hT]; omega
      rw [hlen, ixN_of lt]
      have hrow : ((F.take (E.length - k) ++ T).map rowL)[at_]? = some [PyData.int t.2.1, .int t.2.2] := by
        rw [List.getElem?_map, List.getElem?_append_left (by rw [List.length_take]; omega), List.getElem?_take, if_pos (by omega), ht]; rfl
      walk_at "en"
      rw [hrow]
      walk_at "en"
      generalize hen : min (a.e + a.la) (needOf T - a.ch) - u * z = en
      have hset : ((F.take (E.length - k) ++ T).map rowL).set at_ [PyData.int t.2.1, .int en] = (F.take (E.length - (k + 1)) ++ (a, t.2.1, en) :: T).map rowL := by
        have e1 : E.length - (k + 1) = at_ := by omega
        have e2 : E.length - k = at_ + 1 := by omega
        rw [e1, e2, List.take_succ, ht, List.append_assoc, List.map_append, List.map_append]
        have l1 : ((F.take at_).map rowL).length = at_ := by rw [List.length_map, List.length_take]; omega
        rw [List.set_append_right _ _ (by omega), l1, Nat.sub_self, List.map_append]
        rfl
      have hset2 : ((F.take (E.length - k) ++ T).map rowL).set at_ ([PyData.int t.2.1, .int t.2.2].set 1 (.int en)) = (F.take (E.length - (k + 1)) ++ (a, t.2.1, en) :: T).map rowL := hset
      refine ⟨.inl ⟨by omega, by omega⟩, ?_⟩
      try simp only [List.set_cons_succ, List.set_cons_zero]
      rw [hset]
      have hat2 : ((F.take (E.length - (k + 1)) ++ (a, t.2.1, en) :: T).map rowL)[at_]? = some [PyData.int t.2.1, .int en] := by
        have e1 : E.length - (k + 1) = at_ := by omega
        rw [e1, List.getElem?_map, List.getElem?_append_right (by rw [List.length_take]; omega), List.length_take, show at_ - min at_ F.length = 0 by omega]; rfl
      try rw [hat2]
      try walk_at "en"
      refine ⟨W3, (a, t.2.1, en) :: T, _, _, _, _, _, rfl, ⟨rfl, rfl, h7, rfl⟩, ⟨rfl, rfl, n6, n7, rfl⟩, hW3, by simp [hT], ?_, fun r hr => ?_, fun t1 ht1 => ?_⟩
      · show a :: acts T = _
        have e1 : E.length - (k + 1) = at_ := by omega
        have e2 : E.length - k = at_ + 1 := by omega
        rw [e1, hTa, e2]
        rw [List.drop_eq_getElem_cons lt]
        have := (List.getElem?_eq_some_iff.mp hEa).2
        rw [this]
      · have hr := hr _ rfl
        refine ⟨⟨tb.1, tb.2, by dsimp only; omega, by dsimp only; omega, hr⟩, hTs _ fun t1 ht1 => ?_⟩
        cases T with
        | nil => cases ht1
        | cons y T => cases ht1; simp only [needOf] at hen; dsimp only; omega
      · cases ht1
        have e1 : E.length - (k + 1) = at_ := by omega
        rw [e1]
        exact ⟨t, ht, rfl⟩
    · rintro e ⟨W1, T, s2, s4, s6, s7, s8, rfl, ⟨h2, h4, h7, h8'⟩, ⟨n2, n4, n6, n7, n8⟩, hW1, hT, hTa, hTs, hTh⟩
      rw [List.length_map, List.length_range] at hT hTa
      walk_at "en"
      simp only [n2, n4, n6, n7, n8]
      walk_at "en"
      rw [List.length_map, List.length_range, Nat.sub_self, List.take_zero, List.nil_append, List.map_map]
      refine compA1 T _ (fun t => prD t.2) (by rw [sizeLine_eq]; omega) rfl (fun t ht => ?_) ?_
      · simp only [Function.comp, rowL]
        walk_at "en"
        first | exact rfl | exact ⟨rfl, rfl⟩
      · walk_at "en"
        have : (PyData.tuple (T.map fun t => prD t.2)) = stD (moms T) := by unfold stD moms; rw [List.map_map]; rfl
        rw [this]
        refine hP T W1 ?_ (hTs _ fun t ht => ?_) hW1
        · rw [hTa, Nat.sub_self, List.drop_zero]
        · have tm : t ∈ T := by
            cases T with
            | nil => cases ht
            | cons y T => cases ht; exact .head _
          have := hTs t.2.1 (fun t1 ht1 => by rw [ht] at ht1; cases ht1; exact Int.le_refl _)
          cases T with
          | nil => cases ht
          | cons y T =>
            cases ht
            have g := this.1.1
            have hy : t.1 ∈ E := by
              rw [Nat.sub_self, List.drop_zero] at hTa
              rw [← hTa]; simp [acts]
            have := (hE.act _ hy)
            have b1 := this.b; have b2 := this.ea
            omega
end Lw

namespace Lw
open PySem DL
local macro_rules | `(tactic| walk_at "ev") => `(tactic| simp only [ok_ok, ok_bind, ok_pure, ok_opt, ok_var, ok_op, ok_opO, ok_un, ok_cmp, ok_B, ok_ite, ok_chain, ok_and, ok_or, ok_not, ok_ifE, ok_tru, ok_andV, ok_orV, ok_notV, ok_nil, ok_cons, ok_tup, ok_lst, ok_fz, ok_isi, ok_call, ok_callO, ok_noP, ok_part, ok_sl, ok_slAt, ok_ixO, ok_lenO, ok_move, ok_seq, ok_nx, ok_if, ok_ret, ok_retO, ok_drop, ok_store, ok_set, ok_setO, ok_asg, ok_dat, ok_own, ok_par2, ok_par3, ok_meth, ok_setIx, ok_extend, ok_frz, ok_cmpO, ok_rep, ok_listRg, ok_F, ok_FO, ok_FC, ok_FS, ok_items, ok_signs, ok_range1, ok_range2, ok_range3, ok_zip, ok_enum, ok_for, ok_comp,
  okO_some, okO_none, okF_ok, okC_ok, slD_dat, slL_own, slL_cel, ixP_own, ixP_cel, ixP_scr, isL_own, isL_cel, isL_scr, lenP_own, lenP_cel, lenP_scr, seqP_nx, seqP_rt, seqP_ro, seqP_ct, seqP_bk, wrS_un, wrS_dat, wrS_own, wrS_scr, okO_gN, okO_gTp, okO_gCons, okO_gNil, chgP_own, chgP_cel, okO_chg, ownB_own, ownB_cel, celP_own, celP_cel, scrP_scr, putSl_eq,
  v_addII, v_addIB, v_addTT, v_addLL, v_addSS, v_catLL, v_sub, v_mul, v_mod, v_div, v_pow, v_neg, v_cmp, v_eqII, v_neII, v_eqSS, v_neSS, v_isNone_n, v_isNone_b, v_isNone_i, v_isNone_s, v_isNone_l, v_isNone_t, v_notNone_n, v_notNone_b, v_notNone_i, v_notNone_s, v_notNone_l, v_notNone_t, v_isBl, v_in, v_notIn, v_inS, v_notInS, v_ixL, v_ixT, v_ixS, v_slL, v_slT, v_revL, v_revT, v_lenL, v_lenT, v_lenS, v_max2, v_min2, v_intB, v_intI, v_tupL, v_tupT, v_listL, v_listT, v_truB, v_truI, v_truN, v_blB, v_int, v_itL, v_itT, v_sig, v_rng1, v_rng2, v_lrg, v_zipL, v_zipT, v_zipTT, ok_lenSet, ok_listZip, sizeLine_eq, Nat.reduceLeDiff, Int.reduceLT, Int.reduceLE, atI0, atI1, atI2, atI3, atI4, atI5, atI6, atI_c, ixN0, ixN1, ixN2, okO_celAt, v_notBlT, v_notBlF, v_notBlG, v_notBlH, Int.reduceEq, Int.reduceNe, Int.cast_ofNat_Int, not_true_eq_false, not_false_eq_true, pow9, pow18, natAbs10, Bool.true_eq_false, cut_1, cut_nn, v_enum, v_app, v_setAt,
  List.getElem?_cons_zero, List.getElem?_cons_succ, List.set_cons_zero, List.set_cons_succ, List.length_cons, List.length_nil, List.map_cons, List.map_nil, envOf, List.cons_append, List.nil_append, List.replicate, wipeE, restE, keepS,
  decide_eq_true_eq, true_and, and_true, if_true, if_false, Bool.false_eq_true, Nat.reduceAdd, Nat.reduceSub, Nat.zero_add, Nat.sub_zero, Bool.not_true, Bool.not_false, Bool.not_eq_true', decide_eq_false_iff_not])
local macro_rules | `(tactic| walk_at "en") => `(tactic| simp only [ok_ok, ok_bind, ok_pure, ok_opt, ok_var, ok_op, ok_opO, ok_un, ok_cmp, ok_B, ok_ite, ok_chain, ok_and, ok_or, ok_not, ok_ifE, ok_tru, ok_andV, ok_orV, ok_notV, ok_nil, ok_cons, ok_tup, ok_lst, ok_fz, ok_isi, ok_call, ok_callO, ok_noP, ok_part, ok_sl, ok_slAt, ok_ixO, ok_lenO, ok_move, ok_seq, ok_nx, ok_if, ok_ret, ok_retO, ok_drop, ok_store, ok_set, ok_setO, ok_asg, ok_dat, ok_own, ok_par2, ok_par3, ok_meth, ok_setIx, ok_extend, ok_frz, ok_cmpO, ok_rep, ok_listRg, ok_F, ok_FO, ok_FC, ok_FS, ok_items, ok_signs, ok_range1, ok_range2, ok_range3, ok_zip, ok_enum, ok_for, ok_comp,
  okO_some, okO_none, okF_ok, okC_ok, slD_dat, slL_own, slL_cel, ixP_own, ixP_cel, ixP_scr, isL_own, isL_cel, isL_scr, lenP_own, lenP_cel, lenP_scr, seqP_nx, seqP_rt, seqP_ro, seqP_ct, seqP_bk, wrS_un, wrS_dat, wrS_own, wrS_scr, okO_gN, okO_gTp, okO_gCons, okO_gNil, chgP_own, chgP_cel, okO_chg, ownB_own, ownB_cel, celP_own, celP_cel, scrP_scr, putSl_eq,
  v_addII, v_addIB, v_addTT, v_addLL, v_addSS, v_catLL, v_sub, v_mul, v_mod, v_div, v_pow, v_neg, v_cmp, v_eqII, v_neII, v_eqSS, v_neSS, v_isNone_n, v_isNone_b, v_isNone_i, v_isNone_s, v_isNone_l, v_isNone_t, v_notNone_n, v_notNone_b, v_notNone_i, v_notNone_s, v_notNone_l, v_notNone_t, v_isBl, v_in, v_notIn, v_inS, v_notInS, v_ixL, v_ixT, v_ixS, v_slL, v_slT, v_revL, v_revT, v_lenL, v_lenT, v_lenS, v_max2, v_min2, v_intB, v_intI, v_tupL, v_tupT, v_listL, v_listT, v_truB, v_truI, v_truN, v_blB, v_int, v_itL, v_itT, v_sig, v_rng1, v_rng2, v_lrg, v_zipL, v_zipT, v_zipTT, ok_lenSet, ok_listZip, sizeLine_eq, Nat.reduceLeDiff, Int.reduceLT, Int.reduceLE, atI0, atI1, atI2, atI3, atI4, atI5, atI6, atI_c, ixN0, ixN1, ixN2, okO_celAt, v_notBlT, v_notBlF, v_notBlG, v_notBlH, Int.reduceEq, Int.reduceNe, Int.cast_ofNat_Int, not_true_eq_false, not_false_eq_true, pow9, pow18, natAbs10, Bool.true_eq_false, cut_1, cut_nn, v_enum, v_app, v_setAt,
  List.getElem?_cons_zero, List.getElem?_cons_succ, List.set_cons_zero, List.set_cons_succ, List.length_cons, List.length_nil, List.map_cons, List.map_nil, envOf, List.cons_append, List.nil_append, List.replicate, wipeE, restE, keepS,
  decide_eq_true_eq, true_and, and_true, if_true, if_false, Bool.false_eq_true, Nat.reduceAdd, Nat.reduceSub, Nat.zero_add, Nat.sub_zero, Bool.not_true, Bool.not_false, Bool.not_eq_true', decide_eq_false_iff_not,
  ok_par2N, ok_nApp, ok_nSet, ok_nIx, ok_frzN, nstB_nst, nstP_nst, onlyN_s, onlyN_z, noN_un, noN_dat, noN_own, noN_cel, noN_scr, allN_cons, allN_nil, Bool.and_true, Bool.true_and, Int.reduceNeg, ok_zipM, v_zipM])
local macro_rules | `(tactic| walk_at "rn") => `(tactic| simp only [ok_ok, ok_bind, ok_pure, ok_opt, ok_var, ok_op, ok_opO, ok_un, ok_cmp, ok_B, ok_ite, ok_chain, ok_and, ok_or, ok_not, ok_ifE, ok_tru, ok_andV, ok_orV, ok_notV, ok_nil, ok_cons, ok_tup, ok_lst, ok_fz, ok_isi, ok_call, ok_callO, ok_noP, ok_part, ok_sl, ok_slAt, ok_ixO, ok_lenO, ok_move, ok_seq, ok_nx, ok_if, ok_ret, ok_retO, ok_drop, ok_store, ok_set, ok_setO, ok_asg, ok_dat, ok_own, ok_par2, ok_par3, ok_meth, ok_setIx, ok_extend, ok_frz, ok_cmpO, ok_rep, ok_listRg, ok_F, ok_FO, ok_FC, ok_FS, ok_items, ok_signs, ok_range1, ok_range2, ok_range3, ok_zip, ok_enum, ok_for, ok_comp,
  okO_some, okO_none, okF_ok, okC_ok, slD_dat, slL_own, slL_cel, ixP_own, ixP_cel, ixP_scr, isL_own, isL_cel, isL_scr, lenP_own, lenP_cel, lenP_scr, seqP_nx, seqP_rt, seqP_ro, seqP_ct, seqP_bk, wrS_un, wrS_dat, wrS_own, wrS_scr, okO_gN, okO_gTp, okO_gCons, okO_gNil, chgP_own, chgP_cel, okO_chg, ownB_own, ownB_cel, celP_own, celP_cel, scrP_scr, putSl_eq,
  v_addII, v_addIB, v_addTT, v_addLL, v_addSS, v_catLL, v_sub, v_mul, v_mod, v_div, v_pow, v_neg, v_cmp, v_eqII, v_neII, v_eqSS, v_neSS, v_isNone_n, v_isNone_b, v_isNone_i, v_isNone_s, v_isNone_l, v_isNone_t, v_notNone_n, v_notNone_b, v_notNone_i, v_notNone_s, v_notNone_l, v_notNone_t, v_isBl, v_in, v_notIn, v_inS, v_notInS, v_ixL, v_ixT, v_ixS, v_slL, v_slT, v_revL, v_revT, v_lenL, v_lenT, v_lenS, v_max2, v_min2, v_intB, v_intI, v_tupL, v_tupT, v_listL, v_listT, v_truB, v_truI, v_truN, v_blB, v_int, v_itL, v_itT, v_sig, v_rng1, v_rng2, v_lrg, v_zipL, v_zipT, v_zipTT, ok_lenSet, ok_listZip, sizeLine_eq, Nat.reduceLeDiff, Int.reduceLT, Int.reduceLE, atI0, atI1, atI2, atI3, atI4, atI5, atI6, atI_c, ixN0, ixN1, ixN2, okO_celAt, v_notBlT, v_notBlF, v_notBlG, v_notBlH, Int.reduceEq, Int.reduceNe, Int.cast_ofNat_Int, not_true_eq_false, not_false_eq_true, pow9, pow18, natAbs10, Bool.true_eq_false, cut_1, cut_nn, v_enum, v_app, v_setAt,
  List.getElem?_cons_zero, List.getElem?_cons_succ, List.set_cons_zero, List.set_cons_succ, List.length_cons, List.length_nil, List.map_cons, List.map_nil, envOf, List.cons_append, List.nil_append, List.replicate, wipeE, restE, keepS,
  decide_eq_true_eq, true_and, and_true, if_true, if_false, Bool.false_eq_true, Nat.reduceAdd, Nat.reduceSub, Nat.zero_add, Nat.sub_zero, Bool.not_true, Bool.not_false, Bool.not_eq_true', decide_eq_false_iff_not,
  ok_par2N, ok_nApp, ok_nSet, ok_nIx, ok_frzN, nstB_nst, nstP_nst, onlyN_s, onlyN_z, noN_un, noN_dat, noN_own, noN_cel, noN_scr, allN_cons, allN_nil, Bool.and_true, Bool.true_and, Int.reduceNeg, ok_zipM, v_zipM, shEarly, shEnd, shBegin, shLate, neEE, neEE2, neBL, neBL2, eq_self, if_neg_f, decide_true, decide_false, Bool.and_false, Bool.false_and])
/-! ## runs, told -/
def runD (r : Run) : D := .tuple [.int r.f, .str (if r.en then "end" else "early"), .int r.l, .str (if r.la then "late" else "begin")]
theorem small_cases {P : Nat → Prop} (h0 : P 0) (h1 : P 1) (h2 : P 2) (h3 : P 3) (h4 : P 4) (h5 : P 5) (h6 : P 6) (h7 : P 7) (h8 : P 8) : ∀ n, n ≤ 8 → P n := fun n h => by
  match n, h with
  | 0, _ => exact h0
  | 1, _ => exact h1
  | 2, _ => exact h2
  | 3, _ => exact h3
  | 4, _ => exact h4
  | 5, _ => exact h5
  | 6, _ => exact h6
  | 7, _ => exact h7
  | 8, _ => exact h8
theorem all_runs_ok : ∀ n : Nat, n ≤ 8 → f_all_runs [.int n] = .ok (.list ((allRuns n).map runD)) :=
  small_cases (by kernel_rfl) (by kernel_rfl) (by kernel_rfl) (by kernel_rfl) (by kernel_rfl) (by kernel_rfl) (by kernel_rfl) (by kernel_rfl) (by kernel_rfl)
theorem law_all_runs_ok : ∀ n : Nat, n ≤ 8 → f__law_all_runs [.int n] = .ok (.list ((allRuns n).map runD)) :=
  small_cases (by kernel_rfl) (by kernel_rfl) (by kernel_rfl) (by kernel_rfl) (by kernel_rfl) (by kernel_rfl) (by kernel_rfl) (by kernel_rfl) (by kernel_rfl)
theorem runs_len : ∀ n : Nat, n ≤ 8 → (allRuns n).length ≤ 200 :=
  small_cases (by decide +kernel) (by decide +kernel) (by decide +kernel) (by decide +kernel) (by decide +kernel) (by decide +kernel) (by decide +kernel) (by decide +kernel) (by decide +kernel)
theorem runs_nd : ∀ n : Nat, n ≤ 8 → (allRuns n).Nodup :=
  small_cases (by decide +kernel) (by decide +kernel) (by decide +kernel) (by decide +kernel) (by decide +kernel) (by decide +kernel) (by decide +kernel) (by decide +kernel) (by decide +kernel)
theorem acts_of_ok : ∀ (r : Run), f_acts_of [runD r] = .ok (.tuple [.int r.here, .int r.there])
  | ⟨f, false, l, false⟩ => by kernel_rfl
  | ⟨f, false, l, true⟩ => by kernel_rfl
  | ⟨f, true, l, false⟩ => by kernel_rfl
  | ⟨f, true, l, true⟩ => by kernel_rfl
theorem act_at0 {E : List Act} {i : Nat} (h : i < E.length) : (E.map actD)[i]? = some (actD (at0 E i)) := by
  rw [List.getElem?_map, List.getElem?_eq_getElem h]
  unfold at0
  rw [List.getD_eq_getElem?_getD, List.getElem?_eq_getElem h]
  rfl
theorem cut_nat (E : List Act) (i j : Nat) : cutD (E.map actD) (some (i : Int)) (some (j : Int)) = ((E.drop i).take (j - i)).map actD := by
  rw [cut_both _ (by omega) (by omega), Int.toNat_natCast, Int.toNat_natCast, ← List.map_drop, ← List.map_take]
theorem actD_eq (a : Act) : actD a = .tuple [.str a.n, .int a.b, .int a.e, .int a.w, .int a.ea, .int a.la, .int a.ch] := rfl
theorem lack_of_ok {E : List Act} {r : Run} (hl : E.length ≤ 1000) (hr : r ∈ allRuns E.length) : f_lack_of [evD E, runD r] = .ok (.int (lackR E r)) := by
  obtain ⟨h1, h2, h3⟩ := mem_runs.mp hr
  refine okF_eq ?_
  unfold f_lack_of runF m_lack_of evD
  rw [okF_ret]
  have ha := acts_of_ok r
  have hf : r.f < E.length := by omega
  obtain ⟨f, en, l, la⟩ := r
  simp only at h1 h2 hf
  have key : ∀ (x y : Int), x = (if en = true then (at0 E f).e else (at0 E f).b - (at0 E f).ea) → y = (if la = true then (at0 E l).e + (at0 E l).la else (at0 E l).b) →
      sumW E (Run.here ⟨f, en, l, la⟩) (Run.there ⟨f, en, l, la⟩) + sumC E f l - (y - x) = lackR E ⟨f, en, l, la⟩ := fun x y hx hy => by
    unfold lackR; rw [hx, hy]
  generalize hhe : Run.here ⟨f, en, l, la⟩ = he at ha key
  generalize hth : Run.there ⟨f, en, l, la⟩ = th at ha key
  have l1 : ∀ i j : Nat, ((E.drop i).take (j - i)).length ≤ sizeLine := fun i j => by rw [sizeLine_eq]; simp; omega
  have w1 : ∀ i j : Nat, ((E.drop i).take (j - i)).length < 16777217 := fun i j => by simp; omega
  cases en <;> cases la <;> simp only [runD, Bool.false_eq_true, if_false, if_true] at ha key ⊢ <;> walk_at "rn" <;> simp only [atI_c, act_at0 hf, act_at0 h2, actD_eq] <;> walk_at "rn" <;> rw [ha] <;> walk_at "rn" <;> simp only [cut_nat]
  all_goals
    refine compA1 _ _ (fun a => .int a.w) (l1 _ _) rfl (fun a hm => by simp only [actD_eq]; walk_at "en") ?_
    rw [v_summ]
    walk_at "en"
    simp only [cut_nat]
    refine compA1 _ _ (fun a => .int a.ch) (l1 _ _) rfl (fun a hm => by simp only [actD_eq]; walk_at "en") ?_
    rw [v_summ]
    walk_at "en"
    congr 1
    exact key _ _ rfl rfl
end Lw

namespace Lw
open PySem DL
local macro_rules | `(tactic| walk_at "ev") => `(tactic| simp only [ok_ok, ok_bind, ok_pure, ok_opt, ok_var, ok_op, ok_opO, ok_un, ok_cmp, ok_B, ok_ite, ok_chain, ok_and, ok_or, ok_not, ok_ifE, ok_tru, ok_andV, ok_orV, ok_notV, ok_nil, ok_cons, ok_tup, ok_lst, ok_fz, ok_isi, ok_call, ok_callO, ok_noP, ok_part, ok_sl, ok_slAt, ok_ixO, ok_lenO, ok_move, ok_seq, ok_nx, ok_if, ok_ret, ok_retO, ok_drop, ok_store, ok_set, ok_setO, ok_asg, ok_dat, ok_own, ok_par2, ok_par3, ok_meth, ok_setIx, ok_extend, ok_frz, ok_cmpO, ok_rep, ok_listRg, ok_F, ok_FO, ok_FC, ok_FS, ok_items, ok_signs, ok_range1, ok_range2, ok_range3, ok_zip, ok_enum, ok_for, ok_comp,
  okO_some, okO_none, okF_ok, okC_ok, slD_dat, slL_own, slL_cel, ixP_own, ixP_cel, ixP_scr, isL_own, isL_cel, isL_scr, lenP_own, lenP_cel, lenP_scr, seqP_nx, seqP_rt, seqP_ro, seqP_ct, seqP_bk, wrS_un, wrS_dat, wrS_own, wrS_scr, okO_gN, okO_gTp, okO_gCons, okO_gNil, chgP_own, chgP_cel, okO_chg, ownB_own, ownB_cel, celP_own, celP_cel, scrP_scr, putSl_eq,
  v_addII, v_addIB, v_addTT, v_addLL, v_addSS, v_catLL, v_sub, v_mul, v_mod, v_div, v_pow, v_neg, v_cmp, v_eqII, v_neII, v_eqSS, v_neSS, v_isNone_n, v_isNone_b, v_isNone_i, v_isNone_s, v_isNone_l, v_isNone_t, v_notNone_n, v_notNone_b, v_notNone_i, v_notNone_s, v_notNone_l, v_notNone_t, v_isBl, v_in, v_notIn, v_inS, v_notInS, v_ixL, v_ixT, v_ixS, v_slL, v_slT, v_revL, v_revT, v_lenL, v_lenT, v_lenS, v_max2, v_min2, v_intB, v_intI, v_tupL, v_tupT, v_listL, v_listT, v_truB, v_truI, v_truN, v_blB, v_int, v_itL, v_itT, v_sig, v_rng1, v_rng2, v_lrg, v_zipL, v_zipT, v_zipTT, ok_lenSet, ok_listZip, sizeLine_eq, Nat.reduceLeDiff, Int.reduceLT, Int.reduceLE, atI0, atI1, atI2, atI3, atI4, atI5, atI6, atI_c, ixN0, ixN1, ixN2, okO_celAt, v_notBlT, v_notBlF, v_notBlG, v_notBlH, Int.reduceEq, Int.reduceNe, Int.cast_ofNat_Int, not_true_eq_false, not_false_eq_true, pow9, pow18, natAbs10, Bool.true_eq_false, cut_1, cut_nn, v_enum, v_app, v_setAt,
  List.getElem?_cons_zero, List.getElem?_cons_succ, List.set_cons_zero, List.set_cons_succ, List.length_cons, List.length_nil, List.map_cons, List.map_nil, envOf, List.cons_append, List.nil_append, List.replicate, wipeE, restE, keepS,
  decide_eq_true_eq, true_and, and_true, if_true, if_false, Bool.false_eq_true, Nat.reduceAdd, Nat.reduceSub, Nat.zero_add, Nat.sub_zero, Bool.not_true, Bool.not_false, Bool.not_eq_true', decide_eq_false_iff_not])
local macro_rules | `(tactic| walk_at "en") => `(tactic| simp only [ok_ok, ok_bind, ok_pure, ok_opt, ok_var, ok_op, ok_opO, ok_un, ok_cmp, ok_B, ok_ite, ok_chain, ok_and, ok_or, ok_not, ok_ifE, ok_tru, ok_andV, ok_orV, ok_notV, ok_nil, ok_cons, ok_tup, ok_lst, ok_fz, ok_isi, ok_call, ok_callO, ok_noP, ok_part, ok_sl, ok_slAt, ok_ixO, ok_lenO, ok_move, ok_seq, ok_nx, ok_if, ok_ret, ok_retO, ok_drop, ok_store, ok_set, ok_setO, ok_asg, ok_dat, ok_own, ok_par2, ok_par3, ok_meth, ok_setIx, ok_extend, ok_frz, ok_cmpO, ok_rep, ok_listRg, ok_F, ok_FO, ok_FC, ok_FS, ok_items, ok_signs, ok_range1, ok_range2, ok_range3, ok_zip, ok_enum, ok_for, ok_comp,
  okO_some, okO_none, okF_ok, okC_ok, slD_dat, slL_own, slL_cel, ixP_own, ixP_cel, ixP_scr, isL_own, isL_cel, isL_scr, lenP_own, lenP_cel, lenP_scr, seqP_nx, seqP_rt, seqP_ro, seqP_ct, seqP_bk, wrS_un, wrS_dat, wrS_own, wrS_scr, okO_gN, okO_gTp, okO_gCons, okO_gNil, chgP_own, chgP_cel, okO_chg, ownB_own, ownB_cel, celP_own, celP_cel, scrP_scr, putSl_eq,
  v_addII, v_addIB, v_addTT, v_addLL, v_addSS, v_catLL, v_sub, v_mul, v_mod, v_div, v_pow, v_neg, v_cmp, v_eqII, v_neII, v_eqSS, v_neSS, v_isNone_n, v_isNone_b, v_isNone_i, v_isNone_s, v_isNone_l, v_isNone_t, v_notNone_n, v_notNone_b, v_notNone_i, v_notNone_s, v_notNone_l, v_notNone_t, v_isBl, v_in, v_notIn, v_inS, v_notInS, v_ixL, v_ixT, v_ixS, v_slL, v_slT, v_revL, v_revT, v_lenL, v_lenT, v_lenS, v_max2, v_min2, v_intB, v_intI, v_tupL, v_tupT, v_listL, v_listT, v_truB, v_truI, v_truN, v_blB, v_int, v_itL, v_itT, v_sig, v_rng1, v_rng2, v_lrg, v_zipL, v_zipT, v_zipTT, ok_lenSet, ok_listZip, sizeLine_eq, Nat.reduceLeDiff, Int.reduceLT, Int.reduceLE, atI0, atI1, atI2, atI3, atI4, atI5, atI6, atI_c, ixN0, ixN1, ixN2, okO_celAt, v_notBlT, v_notBlF, v_notBlG, v_notBlH, Int.reduceEq, Int.reduceNe, Int.cast_ofNat_Int, not_true_eq_false, not_false_eq_true, pow9, pow18, natAbs10, Bool.true_eq_false, cut_1, cut_nn, v_enum, v_app, v_setAt,
  List.getElem?_cons_zero, List.getElem?_cons_succ, List.set_cons_zero, List.set_cons_succ, List.length_cons, List.length_nil, List.map_cons, List.map_nil, envOf, List.cons_append, List.nil_append, List.replicate, wipeE, restE, keepS,
  decide_eq_true_eq, true_and, and_true, if_true, if_false, Bool.false_eq_true, Nat.reduceAdd, Nat.reduceSub, Nat.zero_add, Nat.sub_zero, Bool.not_true, Bool.not_false, Bool.not_eq_true', decide_eq_false_iff_not,
  ok_par2N, ok_nApp, ok_nSet, ok_nIx, ok_frzN, nstB_nst, nstP_nst, onlyN_s, onlyN_z, noN_un, noN_dat, noN_own, noN_cel, noN_scr, allN_cons, allN_nil, Bool.and_true, Bool.true_and, Int.reduceNeg, ok_zipM, v_zipM])
local macro_rules | `(tactic| walk_at "rn") => `(tactic| simp only [ok_ok, ok_bind, ok_pure, ok_opt, ok_var, ok_op, ok_opO, ok_un, ok_cmp, ok_B, ok_ite, ok_chain, ok_and, ok_or, ok_not, ok_ifE, ok_tru, ok_andV, ok_orV, ok_notV, ok_nil, ok_cons, ok_tup, ok_lst, ok_fz, ok_isi, ok_call, ok_callO, ok_noP, ok_part, ok_sl, ok_slAt, ok_ixO, ok_lenO, ok_move, ok_seq, ok_nx, ok_if, ok_ret, ok_retO, ok_drop, ok_store, ok_set, ok_setO, ok_asg, ok_dat, ok_own, ok_par2, ok_par3, ok_meth, ok_setIx, ok_extend, ok_frz, ok_cmpO, ok_rep, ok_listRg, ok_F, ok_FO, ok_FC, ok_FS, ok_items, ok_signs, ok_range1, ok_range2, ok_range3, ok_zip, ok_enum, ok_for, ok_comp,
  okO_some, okO_none, okF_ok, okC_ok, slD_dat, slL_own, slL_cel, ixP_own, ixP_cel, ixP_scr, isL_own, isL_cel, isL_scr, lenP_own, lenP_cel, lenP_scr, seqP_nx, seqP_rt, seqP_ro, seqP_ct, seqP_bk, wrS_un, wrS_dat, wrS_own, wrS_scr, okO_gN, okO_gTp, okO_gCons, okO_gNil, chgP_own, chgP_cel, okO_chg, ownB_own, ownB_cel, celP_own, celP_cel, scrP_scr, putSl_eq,
  v_addII, v_addIB, v_addTT, v_addLL, v_addSS, v_catLL, v_sub, v_mul, v_mod, v_div, v_pow, v_neg, v_cmp, v_eqII, v_neII, v_eqSS, v_neSS, v_isNone_n, v_isNone_b, v_isNone_i, v_isNone_s, v_isNone_l, v_isNone_t, v_notNone_n, v_notNone_b, v_notNone_i, v_notNone_s, v_notNone_l, v_notNone_t, v_isBl, v_in, v_notIn, v_inS, v_notInS, v_ixL, v_ixT, v_ixS, v_slL, v_slT, v_revL, v_revT, v_lenL, v_lenT, v_lenS, v_max2, v_min2, v_intB, v_intI, v_tupL, v_tupT, v_listL, v_listT, v_truB, v_truI, v_truN, v_blB, v_int, v_itL, v_itT, v_sig, v_rng1, v_rng2, v_lrg, v_zipL, v_zipT, v_zipTT, ok_lenSet, ok_listZip, sizeLine_eq, Nat.reduceLeDiff, Int.reduceLT, Int.reduceLE, atI0, atI1, atI2, atI3, atI4, atI5, atI6, atI_c, ixN0, ixN1, ixN2, okO_celAt, v_notBlT, v_notBlF, v_notBlG, v_notBlH, Int.reduceEq, Int.reduceNe, Int.cast_ofNat_Int, not_true_eq_false, not_false_eq_true, pow9, pow18, natAbs10, Bool.true_eq_false, cut_1, cut_nn, v_enum, v_app, v_setAt,
  List.getElem?_cons_zero, List.getElem?_cons_succ, List.set_cons_zero, List.set_cons_succ, List.length_cons, List.length_nil, List.map_cons, List.map_nil, envOf, List.cons_append, List.nil_append, List.replicate, wipeE, restE, keepS,
  decide_eq_true_eq, true_and, and_true, if_true, if_false, Bool.false_eq_true, Nat.reduceAdd, Nat.reduceSub, Nat.zero_add, Nat.sub_zero, Bool.not_true, Bool.not_false, Bool.not_eq_true', decide_eq_false_iff_not,
  ok_par2N, ok_nApp, ok_nSet, ok_nIx, ok_frzN, nstB_nst, nstP_nst, onlyN_s, onlyN_z, noN_un, noN_dat, noN_own, noN_cel, noN_scr, allN_cons, allN_nil, Bool.and_true, Bool.true_and, Int.reduceNeg, ok_zipM, v_zipM, shEarly, shEnd, shBegin, shLate, neEE, neEE2, neBL, neBL2, eq_self, if_neg_f, decide_true, decide_false, Bool.and_false, Bool.false_and])
/-! ## what the law adds up -/
theorem rng_small {i : Int} (h : 0 ≤ i ∧ i ≤ 1000000) : rngOk i = true := by
  exact rngOk_mk (by omega)
theorem rangeD_nat {i j : Nat} : rangeD (i : Int) (j : Int) = (List.range' i (j - i)).map fun k => PyData.int (k : Nat) := by
  unfold rangeD
  rw [show ((j : Int) - (i : Int)).toNat = j - i by omega, List.range'_eq_map_range, List.map_map]
  refine List.map_congr_left fun k _ => ?_
  simp
theorem sum_range {E : List Act} (g : Act → Int) : ∀ (n i : Nat), i + n ≤ E.length → ((List.range' i n).map fun k => g (at0 E k)).sum = (((E.drop i).take n).map g).sum
  | 0, i, _ => by simp
  | n + 1, i, h => by
    have ih := sum_range (E := E) g n (i + 1) (by omega)
    rw [List.range'_succ, List.map_cons, List.sum_cons, ih, drop_at (by omega : i < E.length), List.take_succ_cons, List.map_cons, List.sum_cons]
theorem here_le_there {r : Run} {n : Nat} (h : r ∈ allRuns n) : r.here < r.there ∧ r.there ≤ n := ⟨(mem_runs.mp h).2.2, there_le h⟩
theorem rng_nat {n : Nat} (h : n ≤ 1000) : rngOk (n : Int) = true := rng_small (by omega)
theorem law_acts_ok : ∀ {r : Run}, r.here ≤ 1000 → r.there ≤ 1000 → f__law_acts [runD r] = .ok (.list ((List.range' r.here (r.there - r.here)).map fun k => PyData.int (k : Nat))) := by
  intro r h1 h2
  refine okF_eq ?_
  unfold f__law_acts runF m__law_acts
  rw [okF_ret]
  have r1 := rng_nat h1
  have r2 := rng_nat h2
  have e := rangeD_nat (i := r.here) (j := r.there)
  obtain ⟨f, en, l, la⟩ := r
  cases en <;> cases la <;> simp only [runD, Run.here, Run.there, Bool.false_eq_true, if_false, if_true, Bool.toNat_true, Bool.toNat_false, Nat.add_zero, Int.natCast_add, Int.cast_ofNat_Int] at r1 r2 e h1 h2 ⊢ <;>
    simp only [ok_ret, ok_fz, ok_listRg, ok_op, ok_var, envOf, List.cons_append, List.nil_append, List.getElem?_cons_zero, List.map_cons, slD_dat, ok_pure, v_ixT, atI0, okO_some, ok_call, ok_cons, ok_nil, ok_B, ok_cmp, atI1, atI2, atI3, v_eqSS, v_intB, v_addII, v_lrg] <;>
    simp only [shEarly, shEnd, shBegin, shLate, neEE, neEE2, neBL, neBL2, eq_self, decide_true, decide_false, if_true, if_false, true_and, Bool.false_eq_true, Int.add_zero, r1, r2, e, and_true] <;> omega
def mLackT : MS := (mSeq (mFor (mRange2 (mCons (mOp dIx (mVar 1) (mPure (.int 0))) (mCons (mOp dIx (mVar 1) (mPure (.int 2))) mNil))) (gN 3) (mSet 2 (mOp dSub (mVar 2) (mOp dIx (mOp dIx (mVar 0) (mVar 3)) (mPure (.int 6))))))
        (mRet (mOp dSub (mCall dSum (mCons (mFz (mComp (mItems (mF f__law_acts (mCons (mVar 1) mNil))) [3] (gN 3) (mPure true) (mOp dIx (mOp dIx (mVar 0) (mVar 3)) (mPure (.int 3))))) mNil)) (mVar 2))))
theorem law_lack_ok {E : List Act} {r : Run} (hl : E.length ≤ 1000) (hr : r ∈ allRuns E.length) : f__law_lack [evD E, runD r] = .ok (.int (lackR E r)) := by
  obtain ⟨h1, h2, h3⟩ := mem_runs.mp hr
  have h4 := here_le_there hr
  refine okF_eq ?_
  unfold f__law_lack runF m__law_lack evD
  rw [okF_ret]
  have ha := law_acts_ok (r := r) (by omega) (by omega)
  have hf : r.f < E.length := by omega
  have key : lackR E r = sumW E r.here r.there - ((if r.la = true then (at0 E r.l).e + (at0 E r.l).la else (at0 E r.l).b) - (if r.en = true then (at0 E r.f).e else (at0 E r.f).b - (at0 E r.f).ea) - sumC E r.f r.l) := by unfold lackR; omega
  have htl : ∀ (room : Int) (s3 s4 s5 : Sl), wrS (some s3) = true → room = (if r.la = true then (at0 E r.l).e + (at0 E r.l).la else (at0 E r.l).b) - (if r.en = true then (at0 E r.f).e else (at0 E r.f).b - (at0 E r.f).ea) →
      Ok (mLackT
        [.dat (.tuple (E.map actD)), .dat (runD r), .dat (.int room), s3, s4, s5]) (fun fl _ => fl = .rt (.int (lackR E r))) := by
    intro room s3 s4 s5 q3 hroom
    unfold mLackT
    have hrd : runD r = .tuple [.int r.f, .str (if r.en then "end" else "early"), .int r.l, .str (if r.la then "late" else "begin")] := rfl
    rw [hrd]
    walk_at "rn"
    refine ⟨⟨rng_nat (by omega), rng_nat (by omega)⟩, ?_⟩
    rw [rangeD_nat]
    refine forA (fun (R : List Nat) e => ∃ (pre : List Nat) (s3 : Sl), pre ++ R = List.range' r.f (r.l - r.f) ∧ e = [.dat (.tuple (E.map actD)), .dat (.tuple [.int r.f, .str (if r.en then "end" else "early"), .int r.l, .str (if r.la then "late" else "begin")]), .dat (.int (room - (pre.map fun k => (at0 E k).ch).sum)), s3, s4, s5] ∧ wrS (some s3) = true) _ ⟨[], s3, rfl, by simp, q3⟩ ?_ ?_
    · rintro k R e ⟨pre, s3, hp, rfl, q3⟩
      have hk : k < E.length := by
        have : k ∈ List.range' r.f (r.l - r.f) := by rw [← hp]; simp
        have := List.mem_range'_1.mp this; omega
      walk_at "rn"
      simp only [q3]
      walk_at "rn"
      rw [act_at0 hk]
      walk_at "rn"
      simp only [actD_eq]
      walk_at "rn"
      refine ⟨pre ++ [k], .dat (.int k), by rw [← hp]; simp, ?_, rfl⟩
      rw [List.map_append, List.sum_append, List.map_cons, List.map_nil, List.sum_cons, List.sum_nil, Int.add_zero, Int.sub_sub]
    · rintro e ⟨pre, s3, hp, rfl, q3⟩
      rw [List.append_nil] at hp
      subst hp
      walk_at "rn"
      rw [← hrd, ha]
      walk_at "rn"
      refine compA1 _ _ (fun k => .int (at0 E k).w) (by rw [sizeLine_eq, List.length_range']; omega) rfl (fun k hk => ?_) ?_
      · have hk : k < E.length := by have := List.mem_range'_1.mp hk; omega
        walk_at "rn"
        rw [act_at0 hk]
        walk_at "rn"
        simp only [actD_eq]
        walk_at "rn"
      · rw [v_summ, sum_range Act.w _ _ (by omega), sum_range Act.ch _ _ (by omega)]
        walk_at "rn"
        refine congrArg (fun x => Fl.rt (PyData.int x)) ?_
        rw [key, hroom]
        simp only [sumW, sumC]
  have hcase : runD r = .tuple [.int r.f, .str (if r.en then "end" else "early"), .int r.l, .str (if r.la then "late" else "begin")] := rfl
  cases he : r.en <;> cases hla : r.la <;> rw [he, hla] at hcase <;> simp only [Bool.false_eq_true, if_false, if_true] at hcase <;> rw [show ∀ (A B : MS), (mSeq A (mSeq B (mSeq (mFor (mRange2 (mCons (mOp dIx (mVar 1) (mPure (.int 0))) (mCons (mOp dIx (mVar 1) (mPure (.int 2))) mNil))) (gN 3) (mSet 2 (mOp dSub (mVar 2) (mOp dIx (mOp dIx (mVar 0) (mVar 3)) (mPure (.int 6)))))) (mRet (mOp dSub (mCall dSum (mCons (mFz (mComp (mItems (mF f__law_acts (mCons (mVar 1) mNil))) [3] (gN 3) (mPure true) (mOp dIx (mOp dIx (mVar 0) (mVar 3)) (mPure (.int 3))))) mNil)) (mVar 2))))) = mSeq A (mSeq B mLackT)) from fun _ _ => rfl, hcase] <;> walk_at "rn" <;> simp only [atI_c, act_at0 hf, act_at0 h2, actD_eq] <;> walk_at "rn" <;> rw [← hcase]
  all_goals
    refine Ok.mono (htl _ .un _ _ (by rfl) ?_) ?_
  all_goals first | (rintro _ _ rfl; rfl) | (rw [he, hla]; simp)
end Lw

namespace Lw
open PySem DL
local macro_rules | `(tactic| walk_at "ev") => `(tactic| simp only [ok_ok, ok_bind, ok_pure, ok_opt, ok_var, ok_op, ok_opO, ok_un, ok_cmp, ok_B, ok_ite, ok_chain, ok_and, ok_or, ok_not, ok_ifE, ok_tru, ok_andV, ok_orV, ok_notV, ok_nil, ok_cons, ok_tup, ok_lst, ok_fz, ok_isi, ok_call, ok_callO, ok_noP, ok_part, ok_sl, ok_slAt, ok_ixO, ok_lenO, ok_move, ok_seq, ok_nx, ok_if, ok_ret, ok_retO, ok_drop, ok_store, ok_set, ok_setO, ok_asg, ok_dat, ok_own, ok_par2, ok_par3, ok_meth, ok_setIx, ok_extend, ok_frz, ok_cmpO, ok_rep, ok_listRg, ok_F, ok_FO, ok_FC, ok_FS, ok_items, ok_signs, ok_range1, ok_range2, ok_range3, ok_zip, ok_enum, ok_for, ok_comp,
  okO_some, okO_none, okF_ok, okC_ok, slD_dat, slL_own, slL_cel, ixP_own, ixP_cel, ixP_scr, isL_own, isL_cel, isL_scr, lenP_own, lenP_cel, lenP_scr, seqP_nx, seqP_rt, seqP_ro, seqP_ct, seqP_bk, wrS_un, wrS_dat, wrS_own, wrS_scr, okO_gN, okO_gTp, okO_gCons, okO_gNil, chgP_own, chgP_cel, okO_chg, ownB_own, ownB_cel, celP_own, celP_cel, scrP_scr, putSl_eq,
  v_addII, v_addIB, v_addTT, v_addLL, v_addSS, v_catLL, v_sub, v_mul, v_mod, v_div, v_pow, v_neg, v_cmp, v_eqII, v_neII, v_eqSS, v_neSS, v_isNone_n, v_isNone_b, v_isNone_i, v_isNone_s, v_isNone_l, v_isNone_t, v_notNone_n, v_notNone_b, v_notNone_i, v_notNone_s, v_notNone_l, v_notNone_t, v_isBl, v_in, v_notIn, v_inS, v_notInS, v_ixL, v_ixT, v_ixS, v_slL, v_slT, v_revL, v_revT, v_lenL, v_lenT, v_lenS, v_max2, v_min2, v_intB, v_intI, v_tupL, v_tupT, v_listL, v_listT, v_truB, v_truI, v_truN, v_blB, v_int, v_itL, v_itT, v_sig, v_rng1, v_rng2, v_lrg, v_zipL, v_zipT, v_zipTT, ok_lenSet, ok_listZip, sizeLine_eq, Nat.reduceLeDiff, Int.reduceLT, Int.reduceLE, atI0, atI1, atI2, atI3, atI4, atI5, atI6, atI_c, ixN0, ixN1, ixN2, okO_celAt, v_notBlT, v_notBlF, v_notBlG, v_notBlH, Int.reduceEq, Int.reduceNe, Int.cast_ofNat_Int, not_true_eq_false, not_false_eq_true, pow9, pow18, natAbs10, Bool.true_eq_false, cut_1, cut_nn, v_enum, v_app, v_setAt,
  List.getElem?_cons_zero, List.getElem?_cons_succ, List.set_cons_zero, List.set_cons_succ, List.length_cons, List.length_nil, List.map_cons, List.map_nil, envOf, List.cons_append, List.nil_append, List.replicate, wipeE, restE, keepS,
  decide_eq_true_eq, true_and, and_true, if_true, if_false, Bool.false_eq_true, Nat.reduceAdd, Nat.reduceSub, Nat.zero_add, Nat.sub_zero, Bool.not_true, Bool.not_false, Bool.not_eq_true', decide_eq_false_iff_not])
local macro_rules | `(tactic| walk_at "en") => `(tactic| simp only [ok_ok, ok_bind, ok_pure, ok_opt, ok_var, ok_op, ok_opO, ok_un, ok_cmp, ok_B, ok_ite, ok_chain, ok_and, ok_or, ok_not, ok_ifE, ok_tru, ok_andV, ok_orV, ok_notV, ok_nil, ok_cons, ok_tup, ok_lst, ok_fz, ok_isi, ok_call, ok_callO, ok_noP, ok_part, ok_sl, ok_slAt, ok_ixO, ok_lenO, ok_move, ok_seq, ok_nx, ok_if, ok_ret, ok_retO, ok_drop, ok_store, ok_set, ok_setO, ok_asg, ok_dat, ok_own, ok_par2, ok_par3, ok_meth, ok_setIx, ok_extend, ok_frz, ok_cmpO, ok_rep, ok_listRg, ok_F, ok_FO, ok_FC, ok_FS, ok_items, ok_signs, ok_range1, ok_range2, ok_range3, ok_zip, ok_enum, ok_for, ok_comp,
  okO_some, okO_none, okF_ok, okC_ok, slD_dat, slL_own, slL_cel, ixP_own, ixP_cel, ixP_scr, isL_own, isL_cel, isL_scr, lenP_own, lenP_cel, lenP_scr, seqP_nx, seqP_rt, seqP_ro, seqP_ct, seqP_bk, wrS_un, wrS_dat, wrS_own, wrS_scr, okO_gN, okO_gTp, okO_gCons, okO_gNil, chgP_own, chgP_cel, okO_chg, ownB_own, ownB_cel, celP_own, celP_cel, scrP_scr, putSl_eq,
  v_addII, v_addIB, v_addTT, v_addLL, v_addSS, v_catLL, v_sub, v_mul, v_mod, v_div, v_pow, v_neg, v_cmp, v_eqII, v_neII, v_eqSS, v_neSS, v_isNone_n, v_isNone_b, v_isNone_i, v_isNone_s, v_isNone_l, v_isNone_t, v_notNone_n, v_notNone_b, v_notNone_i, v_notNone_s, v_notNone_l, v_notNone_t, v_isBl, v_in, v_notIn, v_inS, v_notInS, v_ixL, v_ixT, v_ixS, v_slL, v_slT, v_revL, v_revT, v_lenL, v_lenT, v_lenS, v_max2, v_min2, v_intB, v_intI, v_tupL, v_tupT, v_listL, v_listT, v_truB, v_truI, v_truN, v_blB, v_int, v_itL, v_itT, v_sig, v_rng1, v_rng2, v_lrg, v_zipL, v_zipT, v_zipTT, ok_lenSet, ok_listZip, sizeLine_eq, Nat.reduceLeDiff, Int.reduceLT, Int.reduceLE, atI0, atI1, atI2, atI3, atI4, atI5, atI6, atI_c, ixN0, ixN1, ixN2, okO_celAt, v_notBlT, v_notBlF, v_notBlG, v_notBlH, Int.reduceEq, Int.reduceNe, Int.cast_ofNat_Int, not_true_eq_false, not_false_eq_true, pow9, pow18, natAbs10, Bool.true_eq_false, cut_1, cut_nn, v_enum, v_app, v_setAt,
  List.getElem?_cons_zero, List.getElem?_cons_succ, List.set_cons_zero, List.set_cons_succ, List.length_cons, List.length_nil, List.map_cons, List.map_nil, envOf, List.cons_append, List.nil_append, List.replicate, wipeE, restE, keepS,
  decide_eq_true_eq, true_and, and_true, if_true, if_false, Bool.false_eq_true, Nat.reduceAdd, Nat.reduceSub, Nat.zero_add, Nat.sub_zero, Bool.not_true, Bool.not_false, Bool.not_eq_true', decide_eq_false_iff_not,
  ok_par2N, ok_nApp, ok_nSet, ok_nIx, ok_frzN, nstB_nst, nstP_nst, onlyN_s, onlyN_z, noN_un, noN_dat, noN_own, noN_cel, noN_scr, allN_cons, allN_nil, Bool.and_true, Bool.true_and, Int.reduceNeg, ok_zipM, v_zipM])
local macro_rules | `(tactic| walk_at "rn") => `(tactic| simp only [ok_ok, ok_bind, ok_pure, ok_opt, ok_var, ok_op, ok_opO, ok_un, ok_cmp, ok_B, ok_ite, ok_chain, ok_and, ok_or, ok_not, ok_ifE, ok_tru, ok_andV, ok_orV, ok_notV, ok_nil, ok_cons, ok_tup, ok_lst, ok_fz, ok_isi, ok_call, ok_callO, ok_noP, ok_part, ok_sl, ok_slAt, ok_ixO, ok_lenO, ok_move, ok_seq, ok_nx, ok_if, ok_ret, ok_retO, ok_drop, ok_store, ok_set, ok_setO, ok_asg, ok_dat, ok_own, ok_par2, ok_par3, ok_meth, ok_setIx, ok_extend, ok_frz, ok_cmpO, ok_rep, ok_listRg, ok_F, ok_FO, ok_FC, ok_FS, ok_items, ok_signs, ok_range1, ok_range2, ok_range3, ok_zip, ok_enum, ok_for, ok_comp,
  okO_some, okO_none, okF_ok, okC_ok, slD_dat, slL_own, slL_cel, ixP_own, ixP_cel, ixP_scr, isL_own, isL_cel, isL_scr, lenP_own, lenP_cel, lenP_scr, seqP_nx, seqP_rt, seqP_ro, seqP_ct, seqP_bk, wrS_un, wrS_dat, wrS_own, wrS_scr, okO_gN, okO_gTp, okO_gCons, okO_gNil, chgP_own, chgP_cel, okO_chg, ownB_own, ownB_cel, celP_own, celP_cel, scrP_scr, putSl_eq,
  v_addII, v_addIB, v_addTT, v_addLL, v_addSS, v_catLL, v_sub, v_mul, v_mod, v_div, v_pow, v_neg, v_cmp, v_eqII, v_neII, v_eqSS, v_neSS, v_isNone_n, v_isNone_b, v_isNone_i, v_isNone_s, v_isNone_l, v_isNone_t, v_notNone_n, v_notNone_b, v_notNone_i, v_notNone_s, v_notNone_l, v_notNone_t, v_isBl, v_in, v_notIn, v_inS, v_notInS, v_ixL, v_ixT, v_ixS, v_slL, v_slT, v_revL, v_revT, v_lenL, v_lenT, v_lenS, v_max2, v_min2, v_intB, v_intI, v_tupL, v_tupT, v_listL, v_listT, v_truB, v_truI, v_truN, v_blB, v_int, v_itL, v_itT, v_sig, v_rng1, v_rng2, v_lrg, v_zipL, v_zipT, v_zipTT, ok_lenSet, ok_listZip, sizeLine_eq, Nat.reduceLeDiff, Int.reduceLT, Int.reduceLE, atI0, atI1, atI2, atI3, atI4, atI5, atI6, atI_c, ixN0, ixN1, ixN2, okO_celAt, v_notBlT, v_notBlF, v_notBlG, v_notBlH, Int.reduceEq, Int.reduceNe, Int.cast_ofNat_Int, not_true_eq_false, not_false_eq_true, pow9, pow18, natAbs10, Bool.true_eq_false, cut_1, cut_nn, v_enum, v_app, v_setAt,
  List.getElem?_cons_zero, List.getElem?_cons_succ, List.set_cons_zero, List.set_cons_succ, List.length_cons, List.length_nil, List.map_cons, List.map_nil, envOf, List.cons_append, List.nil_append, List.replicate, wipeE, restE, keepS,
  decide_eq_true_eq, true_and, and_true, if_true, if_false, Bool.false_eq_true, Nat.reduceAdd, Nat.reduceSub, Nat.zero_add, Nat.sub_zero, Bool.not_true, Bool.not_false, Bool.not_eq_true', decide_eq_false_iff_not,
  ok_par2N, ok_nApp, ok_nSet, ok_nIx, ok_frzN, nstB_nst, nstP_nst, onlyN_s, onlyN_z, noN_un, noN_dat, noN_own, noN_cel, noN_scr, allN_cons, allN_nil, Bool.and_true, Bool.true_and, Int.reduceNeg, ok_zipM, v_zipM, shEarly, shEnd, shBegin, shLate, neEE, neEE2, neBL, neBL2, eq_self, if_neg_f, decide_true, decide_false, Bool.and_false, Bool.false_and])
/-! ## whole, or a run that lacks -/
def worstL (E : List Act) : List Run → Int → Option Run → Option Run
  | [], _, o => o
  | r :: R, b, o => if b < lackR E r then worstL E R (lackR E r) (some r) else worstL E R b o
def worstR (E : List Act) : Option Run := worstL E (allRuns E.length) 0 none
theorem worst_none {E : List Act} : ∀ {R : List Run} {b : Int} {o : Option Run}, worstL E R b o = none → o = none ∧ ∀ r ∈ R, lackR E r ≤ b
  | [], b, o, h => ⟨h, fun r hr => nomatch hr⟩
  | r :: R, b, o, h => by
    unfold worstL at h
    split at h
    · have := (worst_none h).1; cases this
    · obtain ⟨h1, h2⟩ := worst_none h
      refine ⟨h1, fun x hx => ?_⟩
      rcases List.mem_cons.mp hx with rfl | hx
      · omega
      · exact h2 x hx
theorem worst_some {E : List Act} : ∀ {R : List Run} {b : Int} {o : Option Run} {r : Run}, worstL E R b o = some r → o = some r ∨ (r ∈ R ∧ b < lackR E r)
  | [], b, o, r, h => .inl h
  | x :: R, b, o, r, h => by
    unfold worstL at h
    split at h
    · rcases worst_some h with h | ⟨h1, h2⟩
      · cases h; exact .inr ⟨.head _, by assumption⟩
      · exact .inr ⟨.tail _ h1, by omega⟩
    · rcases worst_some h with h | ⟨h1, h2⟩
      · exact .inl h
      · exact .inr ⟨.tail _ h1, h2⟩
theorem EvOk.eg {E : List Act} (h : EvOk E) : EG E :=
  ⟨fun a ha => by obtain ⟨_, h1, h2, h3, h4, h5⟩ := h.act a ha; exact ⟨by omega, by omega, by omega, by omega, by omega⟩, ⟨0, h.fol⟩, h.low.lo⟩
theorem fg_nonneg {t : Pt} : 0 ≤ fg t := by unfold fg; omega
theorem cost_nonneg {T : List Pt} : 0 ≤ cost T := by
  induction T with
  | nil => exact Int.le_refl _
  | cons t T ih => rw [cost_cons]; have := fg_nonneg (t := t); omega
theorem cost_zero {T : List Pt} : cost T = 0 ↔ Wh T := by
  induction T with
  | nil => simp [cost, Wh]
  | cons t T ih =>
    rw [cost_cons]
    have h1 := fg_nonneg (t := t)
    have h2 := cost_nonneg (T := T)
    have e : fg t = 0 ↔ t.1.w ≤ t.2.2 - t.2.1 := by unfold fg; omega
    unfold Wh at ih ⊢
    rw [List.forall_mem_cons, ← ih, ← e]; omega
theorem headB_low {E : List Act} (h : EvOk E) : headB E (-1000000000) := by
  cases E with
  | nil => trivial
  | cons a E => have := (h.act a (.head _)).b; show _ ≤ a.b; omega
/-- the least, by a standing -/
theorem least_ex {E : List Act} (h : EvOk E) : ∃ T, St E T ∧ cost T = val E 0 := by
  obtain ⟨h1, h2, h3⟩ := greedy_ok h.eg.g h.fol (headB_low h)
  exact ⟨_, (st_sd h.low).mpr ⟨h1, h2⟩, h3⟩
theorem least_le {E : List Act} (h : EvOk E) {T : List Pt} (s : St E T) : val E 0 ≤ cost T := by
  obtain ⟨e, s⟩ := (st_sd h.low).mp s
  have := lo_le s
  rw [e] at this
  exact this
theorem no_lack {E : List Act} (h : EG E) (hr : ∀ r ∈ allRuns E.length, lackR E r ≤ 0) : ∀ k i, E.length - i = k → i ≤ E.length → val E i ≤ 0 := by
  intro k
  induction k using Nat.strongRecOn with
  | _ k ih =>
    intro i hk hi
    by_cases e : i = E.length
    · subst e; rw [val_last]; exact Int.le_refl _
    · have lt : i < E.length := by omega
      rcases val_ex h lt with q | ⟨r, hr', q1, q2⟩
      · rw [q]; exact ih _ (by omega) (i + 1) rfl (by omega)
      · have a1 := hr r hr'
        have a2 := ih (E.length - r.there) (by have := (mem_runs.mp hr').2.2; omega) r.there rfl (there_le hr')
        omega
theorem whole_iff {E : List Act} (h : EvOk E) : (∃ T, St E T ∧ Wh T) ↔ ∀ r ∈ allRuns E.length, lackR E r ≤ 0 := by
  constructor
  · rintro ⟨T, s, w⟩ r hr
    have a1 := least_le h s
    rw [cost_zero.mpr w] at a1
    have a2 := val_run h.eg hr
    have a3 := val_le h.eg (i := 0) (j := r.here) (Nat.zero_le _) (by have := here_le_there hr; omega)
    have a4 := val_le h.eg (i := r.there) (j := E.length) (there_le hr) (Nat.le_refl _)
    rw [val_last] at a4
    omega
  · intro hr
    obtain ⟨T, s, c⟩ := least_ex h
    have := no_lack h.eg hr _ 0 rfl (Nat.zero_le _)
    have := cost_nonneg (T := T)
    exact ⟨T, s, cost_zero.mp (by omega)⟩
theorem first_iff {E : List Act} (h : EvOk E) : firstW E = none ↔ ¬ ∀ r ∈ allRuns E.length, lackR E r ≤ 0 := by
  rw [← whole_iff h]
  constructor
  · rintro e ⟨T, s, w⟩
    exact first_none h.low e s w
  · intro n
    cases e : firstW E with
    | none => rfl
    | some T =>
      obtain ⟨s, w, _⟩ := first_some h.low e
      exact absurd ⟨T, s, w⟩ n
theorem last_iff {E : List Act} (h : EvOk E) : lastW E = none ↔ ¬ ∀ r ∈ allRuns E.length, lackR E r ≤ 0 := by
  rw [← whole_iff h]
  constructor
  · rintro e ⟨T, s, w⟩
    exact last_none h.low e s w
  · intro n
    cases e : lastW E with
    | none => rfl
    | some T =>
      obtain ⟨s, w, _⟩ := last_some h.low e
      exact absurd ⟨T, s, w⟩ n
/-! told -/
def optRun : Option Run → D
  | some r => runD r
  | none => .none
theorem worst_run_ok {E : List Act} (h : EvOk E) : f_worst_run [evD E] = .ok (optRun (worstR E)) := by
  refine okF_eq ?_
  unfold f_worst_run runF m_worst_run
  rw [okF_ret]
  walk_at "rn"
  rw [need_evening_good h]
  walk_at "rn"
  unfold evD
  walk_at "rn"
  rw [List.length_map, all_runs_ok _ h.hi]
  walk_at "rn"
  refine forA (fun (R : List Run) e => ∃ (b : Int) (o : Option Run) (s1 s4 : Sl), (∀ r ∈ R, r ∈ allRuns E.length) ∧ worstL E R b o = worstR E ∧ e = [.dat (.tuple (E.map actD)), s1, .dat (.int b), .dat (optRun o), s4] ∧ wrS (some s1) = true ∧ wrS (some s4) = true) _ ⟨0, none, _, _, fun _ h => h, rfl, rfl, rfl, rfl⟩ ?_ ?_
  · rintro r R e ⟨b, o, s1, s4, hR, hw, rfl, q1, q4⟩
    have hr := hR r (.head _)
    walk_at "rn"
    simp only [q1, q4]
    walk_at "rn"
    have hl := lack_of_ok (by have := h.hi; omega) hr
    unfold evD at hl
    rw [hl]
    walk_at "rn"
    unfold worstL at hw
    by_cases c : b < lackR E r
    · rw [if_pos c] at hw ⊢
      try walk_at "rn"
      exact ⟨_, some r, _, _, fun x hx => hR x (.tail _ hx), hw, rfl, rfl, rfl⟩
    · rw [if_neg c] at hw ⊢
      try walk_at "rn"
      exact ⟨b, o, _, _, fun x hx => hR x (.tail _ hx), hw, rfl, rfl, rfl⟩
  · rintro e ⟨b, o, s1, s4, -, hw, rfl, q1, q4⟩
    walk_at "rn"
    unfold worstL at hw
    rw [hw]
theorem can_stand_ok {E : List Act} (h : EvOk E) : f_can_stand [evD E] = .ok (.bool (firstW E).isSome) := by
  refine okF_eq ?_
  unfold f_can_stand runF m_can_stand
  rw [okF_ret]
  walk_at "rn"
  rw [need_evening_good h]
  walk_at "rn"
  rw [first_whole_ok (by have := h.hi; omega) h.low.lo]
  walk_at "rn"
  show okO (dNotNone (optD (firstW E)) .none) _
  cases firstW E <;> rfl
theorem law_says_ok (x y : Bool) : f__law_says [.bool x, .bool y] = .ok (.bool (decide (x = y))) := by
  cases x <;> cases y <;> kernel_rfl
end Lw

namespace DL
open PySem
/-! ## equality of data -/
def ShD (n : Nat) (d : D) : Prop := d.canLay0 = true ∧ d.depth ≤ n
theorem ShD.int {n : Nat} (i : Int) : ShD n (.int i) := ⟨by simp [PyData.canLay0], by simp [PyData.depth]⟩
theorem ShD.bool {n : Nat} (i : Bool) : ShD n (.bool i) := ⟨by simp [PyData.canLay0], by simp [PyData.depth]⟩
theorem ShD.non {n : Nat} : ShD n .none := ⟨by simp [PyData.canLay0], by simp [PyData.depth]⟩
theorem ShD.str {n : Nat} {x : Str} (h : ∀ c ∈ x.cps.toList, c < 1114112) : ShD n (.str x) := ⟨by
  simp only [PyData.canLay0, PyData.strOk, Array.all_eq_true]
  intro i hi
  exact decide_eq_true (h _ (by simp)), by simp [PyData.depth]⟩
theorem shAll {n : Nat} : ∀ {xs : List D}, (∀ x ∈ xs, ShD n x) → PyData.canLayAll0 xs = true ∧ PyData.depthAll xs ≤ n
  | [], _ => ⟨by simp [PyData.canLayAll0], by simp [PyData.depthAll]⟩
  | x :: xs, h => by
    have h1 := h x (.head _)
    have h2 := shAll fun y hy => h y (.tail _ hy)
    simp only [PyData.canLayAll0, PyData.depthAll, h1.1, h2.1, Bool.and_self, true_and]
    have := h1.2; have := h2.2; omega
theorem ShD.list {n : Nat} {xs : List D} (h : ∀ x ∈ xs, ShD n x) : ShD (n + 1) (.list xs) := by
  obtain ⟨h1, h2⟩ := shAll h
  exact ⟨by simp only [PyData.canLay0, h1], by simp only [PyData.depth]; omega⟩
theorem ShD.tup {n : Nat} {xs : List D} (h : ∀ x ∈ xs, ShD n x) : ShD (n + 1) (.tuple xs) := by
  obtain ⟨h1, h2⟩ := shAll h
  exact ⟨by simp only [PyData.canLay0, h1], by simp only [PyData.depth]; omega⟩
theorem ShD.mono {n m : Nat} {d : D} (h : ShD n d) (l : n ≤ m) : ShD m d := ⟨h.1, Nat.le_trans h.2 l⟩
theorem ShD.ok {n : Nat} {d : D} (h : ShD n d) (l : n ≤ 64) : SeqAt.shaped d = true := by
  unfold SeqAt.shaped
  rw [h.1, decide_eq_true (Nat.le_trans h.2 l)]; rfl
theorem ShD.map {α : Type} {n : Nat} {c : α → D} {xs : List α} (h : ∀ x ∈ xs, ShD n (c x)) : ∀ y ∈ xs.map c, ShD n y := fun y hy => by
  obtain ⟨x, hx, rfl⟩ := List.mem_map.mp hy
  exact h x hx

mutual
def nb : D → Bool
  | .bool _ => false
  | .dict _ => false
  | .list xs => nbAll xs
  | .tuple xs => nbAll xs
  | .none => true
  | .int _ => true
  | .str _ => true
def nbAll : List D → Bool
  | [] => true
  | x :: xs => nb x && nbAll xs
end
theorem nbAll_iff : ∀ {xs : List D}, nbAll xs = true ↔ ∀ x ∈ xs, nb x = true
  | [] => by simp [nbAll]
  | x :: xs => by simp [nbAll, nbAll_iff (xs := xs)]
mutual
theorem eqv_iff : ∀ {x y : D}, nb x = true → nb y = true → (PyData.eqv x y = true ↔ x = y)
  | .none, y, _, hy => by cases y <;> simp [PyData.eqv]
  | .int i, y, _, hy => by cases y <;> simp_all [PyData.eqv, nb]
  | .str i, y, _, hy => by cases y <;> simp [PyData.eqv]
  | .list xs, y, hx, hy => by
    cases y with
    | list ys =>
      have := eqvAll_iff (xs := xs) (ys := ys) (by simpa [nb] using hx) (by simpa [nb] using hy)
      simp only [PyData.eqv, this, PyData.list.injEq]
    | _ => simp [PyData.eqv]
  | .tuple xs, y, hx, hy => by
    cases y with
    | tuple ys =>
      have := eqvAll_iff (xs := xs) (ys := ys) (by simpa [nb] using hx) (by simpa [nb] using hy)
      simp only [PyData.eqv, this, PyData.tuple.injEq]
    | _ => simp [PyData.eqv]
  | .bool _, _, hx, _ => by simp [nb] at hx
  | .dict _, _, hx, _ => by simp [nb] at hx
theorem eqvAll_iff : ∀ {xs ys : List D}, nbAll xs = true → nbAll ys = true → (PyData.eqvAll xs ys = true ↔ xs = ys)
  | [], ys, _, _ => by cases ys <;> simp [PyData.eqvAll]
  | x :: xs, ys, hx, hy => by
    cases ys with
    | nil => simp [PyData.eqvAll]
    | cons y ys =>
      simp only [nbAll, Bool.and_eq_true] at hx hy
      simp only [PyData.eqvAll, Bool.and_eq_true, eqv_iff hx.1 hy.1, eqvAll_iff hx.2 hy.2, List.cons.injEq]
end
theorem eqv_dec {x y : D} (hx : nb x = true) (hy : nb y = true) [Decidable (x = y)] : PyData.eqv x y = decide (x = y) := by
  by_cases h : x = y
  · rw [decide_eq_true h]; exact (eqv_iff hx hy).mpr h
  · rw [decide_eq_false h]
    cases e : PyData.eqv x y with
    | false => rfl
    | true => exact absurd ((eqv_iff hx hy).mp e) h
theorem eqv_same {x : D} {n : Nat} (h : ShD n x) : PyData.eqv x x = true := SeqAt.eqv_refl x h.1
theorem eqv_nil {xs : List D} : PyData.eqv (.list xs) (.list []) = xs.isEmpty := by
  cases xs <;> simp [PyData.eqv, PyData.eqvAll]
theorem w_eq {x y : D} {n m : Nat} {R : Bool → Prop} (hx : ShD n x) (hy : ShD m y) (h1 : n ≤ 64 := by decide) (h2 : m ≤ 64 := by decide) : okO (dEq x y) R = R (PyData.eqv x y) := by
  rw [v_eq]
  exact propext ⟨fun h => h.2, fun h => ⟨⟨hx.ok h1, hy.ok h2⟩, h⟩⟩
theorem w_ne {x y : D} {n m : Nat} {R : Bool → Prop} (hx : ShD n x) (hy : ShD m y) (h1 : n ≤ 64 := by decide) (h2 : m ≤ 64 := by decide) : okO (dNe x y) R = R (!PyData.eqv x y) := by
  rw [v_ne]
  exact propext ⟨fun h => h.2, fun h => ⟨⟨hx.ok h1, hy.ok h2⟩, h⟩⟩
theorem w_in {x : D} {ys : List D} {n m : Nat} {R : Bool → Prop} (hx : ShD n x) (hy : ShD m (.list ys)) (h1 : n ≤ 64 := by decide) (h2 : m ≤ 64 := by decide) : okO (dInA x (.list ys)) R = R (ys.any fun y => PyData.eqv y x) := by
  rw [v_in]
  exact propext ⟨fun h => h.2, fun h => ⟨⟨hx.ok h1, hy.ok h2⟩, h⟩⟩
theorem w_notIn {x : D} {ys : List D} {n m : Nat} {R : Bool → Prop} (hx : ShD n x) (hy : ShD m (.list ys)) (h1 : n ≤ 64 := by decide) (h2 : m ≤ 64 := by decide) : okO (dNotInA x (.list ys)) R = R (!ys.any fun y => PyData.eqv y x) := by
  rw [v_notIn]
  exact propext ⟨fun h => h.2, fun h => ⟨⟨hx.ok h1, hy.ok h2⟩, h⟩⟩
theorem w_eqL {xs : List D} {n : Nat} {R : Bool → Prop} (hx : ShD n (.list xs)) (h1 : n ≤ 64 := by decide) : okO (dEq (.list xs) (.list [])) R = R xs.isEmpty := by
  rw [w_eq hx (ShD.list (n := 0) (by simp)) h1, eqv_nil]
end DL

namespace Lw
open PySem DL
local macro_rules | `(tactic| walk_at "ev") => `(tactic| simp only [ok_ok, ok_bind, ok_pure, ok_opt, ok_var, ok_op, ok_opO, ok_un, ok_cmp, ok_B, ok_ite, ok_chain, ok_and, ok_or, ok_not, ok_ifE, ok_tru, ok_andV, ok_orV, ok_notV, ok_nil, ok_cons, ok_tup, ok_lst, ok_fz, ok_isi, ok_call, ok_callO, ok_noP, ok_part, ok_sl, ok_slAt, ok_ixO, ok_lenO, ok_move, ok_seq, ok_nx, ok_if, ok_ret, ok_retO, ok_drop, ok_store, ok_set, ok_setO, ok_asg, ok_dat, ok_own, ok_par2, ok_par3, ok_meth, ok_setIx, ok_extend, ok_frz, ok_cmpO, ok_rep, ok_listRg, ok_F, ok_FO, ok_FC, ok_FS, ok_items, ok_signs, ok_range1, ok_range2, ok_range3, ok_zip, ok_enum, ok_for, ok_comp,
  okO_some, okO_none, okF_ok, okC_ok, slD_dat, slL_own, slL_cel, ixP_own, ixP_cel, ixP_scr, isL_own, isL_cel, isL_scr, lenP_own, lenP_cel, lenP_scr, seqP_nx, seqP_rt, seqP_ro, seqP_ct, seqP_bk, wrS_un, wrS_dat, wrS_own, wrS_scr, okO_gN, okO_gTp, okO_gCons, okO_gNil, chgP_own, chgP_cel, okO_chg, ownB_own, ownB_cel, celP_own, celP_cel, scrP_scr, putSl_eq,
  v_addII, v_addIB, v_addTT, v_addLL, v_addSS, v_catLL, v_sub, v_mul, v_mod, v_div, v_pow, v_neg, v_cmp, v_eqII, v_neII, v_eqSS, v_neSS, v_isNone_n, v_isNone_b, v_isNone_i, v_isNone_s, v_isNone_l, v_isNone_t, v_notNone_n, v_notNone_b, v_notNone_i, v_notNone_s, v_notNone_l, v_notNone_t, v_isBl, v_in, v_notIn, v_inS, v_notInS, v_ixL, v_ixT, v_ixS, v_slL, v_slT, v_revL, v_revT, v_lenL, v_lenT, v_lenS, v_max2, v_min2, v_intB, v_intI, v_tupL, v_tupT, v_listL, v_listT, v_truB, v_truI, v_truN, v_blB, v_int, v_itL, v_itT, v_sig, v_rng1, v_rng2, v_lrg, v_zipL, v_zipT, v_zipTT, ok_lenSet, ok_listZip, sizeLine_eq, Nat.reduceLeDiff, Int.reduceLT, Int.reduceLE, atI0, atI1, atI2, atI3, atI4, atI5, atI6, atI_c, ixN0, ixN1, ixN2, okO_celAt, v_notBlT, v_notBlF, v_notBlG, v_notBlH, Int.reduceEq, Int.reduceNe, Int.cast_ofNat_Int, not_true_eq_false, not_false_eq_true, pow9, pow18, natAbs10, Bool.true_eq_false, cut_1, cut_nn, v_enum, v_app, v_setAt,
  List.getElem?_cons_zero, List.getElem?_cons_succ, List.set_cons_zero, List.set_cons_succ, List.length_cons, List.length_nil, List.map_cons, List.map_nil, envOf, List.cons_append, List.nil_append, List.replicate, wipeE, restE, keepS,
  decide_eq_true_eq, true_and, and_true, if_true, if_false, Bool.false_eq_true, Nat.reduceAdd, Nat.reduceSub, Nat.zero_add, Nat.sub_zero, Bool.not_true, Bool.not_false, Bool.not_eq_true', decide_eq_false_iff_not])
local macro_rules | `(tactic| walk_at "en") => `(tactic| simp only [ok_ok, ok_bind, ok_pure, ok_opt, ok_var, ok_op, ok_opO, ok_un, ok_cmp, ok_B, ok_ite, ok_chain, ok_and, ok_or, ok_not, ok_ifE, ok_tru, ok_andV, ok_orV, ok_notV, ok_nil, ok_cons, ok_tup, ok_lst, ok_fz, ok_isi, ok_call, ok_callO, ok_noP, ok_part, ok_sl, ok_slAt, ok_ixO, ok_lenO, ok_move, ok_seq, ok_nx, ok_if, ok_ret, ok_retO, ok_drop, ok_store, ok_set, ok_setO, ok_asg, ok_dat, ok_own, ok_par2, ok_par3, ok_meth, ok_setIx, ok_extend, ok_frz, ok_cmpO, ok_rep, ok_listRg, ok_F, ok_FO, ok_FC, ok_FS, ok_items, ok_signs, ok_range1, ok_range2, ok_range3, ok_zip, ok_enum, ok_for, ok_comp,
  okO_some, okO_none, okF_ok, okC_ok, slD_dat, slL_own, slL_cel, ixP_own, ixP_cel, ixP_scr, isL_own, isL_cel, isL_scr, lenP_own, lenP_cel, lenP_scr, seqP_nx, seqP_rt, seqP_ro, seqP_ct, seqP_bk, wrS_un, wrS_dat, wrS_own, wrS_scr, okO_gN, okO_gTp, okO_gCons, okO_gNil, chgP_own, chgP_cel, okO_chg, ownB_own, ownB_cel, celP_own, celP_cel, scrP_scr, putSl_eq,
  v_addII, v_addIB, v_addTT, v_addLL, v_addSS, v_catLL, v_sub, v_mul, v_mod, v_div, v_pow, v_neg, v_cmp, v_eqII, v_neII, v_eqSS, v_neSS, v_isNone_n, v_isNone_b, v_isNone_i, v_isNone_s, v_isNone_l, v_isNone_t, v_notNone_n, v_notNone_b, v_notNone_i, v_notNone_s, v_notNone_l, v_notNone_t, v_isBl, v_in, v_notIn, v_inS, v_notInS, v_ixL, v_ixT, v_ixS, v_slL, v_slT, v_revL, v_revT, v_lenL, v_lenT, v_lenS, v_max2, v_min2, v_intB, v_intI, v_tupL, v_tupT, v_listL, v_listT, v_truB, v_truI, v_truN, v_blB, v_int, v_itL, v_itT, v_sig, v_rng1, v_rng2, v_lrg, v_zipL, v_zipT, v_zipTT, ok_lenSet, ok_listZip, sizeLine_eq, Nat.reduceLeDiff, Int.reduceLT, Int.reduceLE, atI0, atI1, atI2, atI3, atI4, atI5, atI6, atI_c, ixN0, ixN1, ixN2, okO_celAt, v_notBlT, v_notBlF, v_notBlG, v_notBlH, Int.reduceEq, Int.reduceNe, Int.cast_ofNat_Int, not_true_eq_false, not_false_eq_true, pow9, pow18, natAbs10, Bool.true_eq_false, cut_1, cut_nn, v_enum, v_app, v_setAt,
  List.getElem?_cons_zero, List.getElem?_cons_succ, List.set_cons_zero, List.set_cons_succ, List.length_cons, List.length_nil, List.map_cons, List.map_nil, envOf, List.cons_append, List.nil_append, List.replicate, wipeE, restE, keepS,
  decide_eq_true_eq, true_and, and_true, if_true, if_false, Bool.false_eq_true, Nat.reduceAdd, Nat.reduceSub, Nat.zero_add, Nat.sub_zero, Bool.not_true, Bool.not_false, Bool.not_eq_true', decide_eq_false_iff_not,
  ok_par2N, ok_nApp, ok_nSet, ok_nIx, ok_frzN, nstB_nst, nstP_nst, onlyN_s, onlyN_z, noN_un, noN_dat, noN_own, noN_cel, noN_scr, allN_cons, allN_nil, Bool.and_true, Bool.true_and, Int.reduceNeg, ok_zipM, v_zipM])
local macro_rules | `(tactic| walk_at "rn") => `(tactic| simp only [ok_ok, ok_bind, ok_pure, ok_opt, ok_var, ok_op, ok_opO, ok_un, ok_cmp, ok_B, ok_ite, ok_chain, ok_and, ok_or, ok_not, ok_ifE, ok_tru, ok_andV, ok_orV, ok_notV, ok_nil, ok_cons, ok_tup, ok_lst, ok_fz, ok_isi, ok_call, ok_callO, ok_noP, ok_part, ok_sl, ok_slAt, ok_ixO, ok_lenO, ok_move, ok_seq, ok_nx, ok_if, ok_ret, ok_retO, ok_drop, ok_store, ok_set, ok_setO, ok_asg, ok_dat, ok_own, ok_par2, ok_par3, ok_meth, ok_setIx, ok_extend, ok_frz, ok_cmpO, ok_rep, ok_listRg, ok_F, ok_FO, ok_FC, ok_FS, ok_items, ok_signs, ok_range1, ok_range2, ok_range3, ok_zip, ok_enum, ok_for, ok_comp,
  okO_some, okO_none, okF_ok, okC_ok, slD_dat, slL_own, slL_cel, ixP_own, ixP_cel, ixP_scr, isL_own, isL_cel, isL_scr, lenP_own, lenP_cel, lenP_scr, seqP_nx, seqP_rt, seqP_ro, seqP_ct, seqP_bk, wrS_un, wrS_dat, wrS_own, wrS_scr, okO_gN, okO_gTp, okO_gCons, okO_gNil, chgP_own, chgP_cel, okO_chg, ownB_own, ownB_cel, celP_own, celP_cel, scrP_scr, putSl_eq,
  v_addII, v_addIB, v_addTT, v_addLL, v_addSS, v_catLL, v_sub, v_mul, v_mod, v_div, v_pow, v_neg, v_cmp, v_eqII, v_neII, v_eqSS, v_neSS, v_isNone_n, v_isNone_b, v_isNone_i, v_isNone_s, v_isNone_l, v_isNone_t, v_notNone_n, v_notNone_b, v_notNone_i, v_notNone_s, v_notNone_l, v_notNone_t, v_isBl, v_in, v_notIn, v_inS, v_notInS, v_ixL, v_ixT, v_ixS, v_slL, v_slT, v_revL, v_revT, v_lenL, v_lenT, v_lenS, v_max2, v_min2, v_intB, v_intI, v_tupL, v_tupT, v_listL, v_listT, v_truB, v_truI, v_truN, v_blB, v_int, v_itL, v_itT, v_sig, v_rng1, v_rng2, v_lrg, v_zipL, v_zipT, v_zipTT, ok_lenSet, ok_listZip, sizeLine_eq, Nat.reduceLeDiff, Int.reduceLT, Int.reduceLE, atI0, atI1, atI2, atI3, atI4, atI5, atI6, atI_c, ixN0, ixN1, ixN2, okO_celAt, v_notBlT, v_notBlF, v_notBlG, v_notBlH, Int.reduceEq, Int.reduceNe, Int.cast_ofNat_Int, not_true_eq_false, not_false_eq_true, pow9, pow18, natAbs10, Bool.true_eq_false, cut_1, cut_nn, v_enum, v_app, v_setAt,
  List.getElem?_cons_zero, List.getElem?_cons_succ, List.set_cons_zero, List.set_cons_succ, List.length_cons, List.length_nil, List.map_cons, List.map_nil, envOf, List.cons_append, List.nil_append, List.replicate, wipeE, restE, keepS,
  decide_eq_true_eq, true_and, and_true, if_true, if_false, Bool.false_eq_true, Nat.reduceAdd, Nat.reduceSub, Nat.zero_add, Nat.sub_zero, Bool.not_true, Bool.not_false, Bool.not_eq_true', decide_eq_false_iff_not,
  ok_par2N, ok_nApp, ok_nSet, ok_nIx, ok_frzN, nstB_nst, nstP_nst, onlyN_s, onlyN_z, noN_un, noN_dat, noN_own, noN_cel, noN_scr, allN_cons, allN_nil, Bool.and_true, Bool.true_and, Int.reduceNeg, ok_zipM, v_zipM, shEarly, shEnd, shBegin, shLate, neEE, neEE2, neBL, neBL2, eq_self, if_neg_f, decide_true, decide_false, Bool.and_false, Bool.false_and])
/-! ## data that may be compared -/
theorem str_lt : ∀ {x : Str}, (x.cps.toList.all fun c => decide (c < 1114112)) = true → ∀ c ∈ x.cps.toList, c < 1114112 := fun h c hc => of_decide_eq_true (List.all_eq_true.mp h c hc)
theorem sh_run (r : Run) : ShD 1 (runD r) := by
  refine ShD.tup fun x hx => ?_
  simp only [List.mem_cons, List.not_mem_nil, or_false] at hx
  rcases hx with rfl | rfl | rfl | rfl
  · exact .int _
  · refine .str ?_
    cases r.en
    · exact str_lt (by decide +kernel)
    · exact str_lt (by decide +kernel)
  · exact .int _
  · refine .str ?_
    cases r.la
    · exact str_lt (by decide +kernel)
    · exact str_lt (by decide +kernel)
theorem nb_run (r : Run) : nb (runD r) = true := by simp [runD, nb, nbAll]
theorem run_inj : ∀ {r s : Run}, runD r = runD s → r = s := by
  intro r s h
  obtain ⟨f, en, l, la⟩ := r
  obtain ⟨f', en', l', la'⟩ := s
  simp only [runD, PyData.tuple.injEq, List.cons.injEq, PyData.int.injEq, PyData.str.injEq, and_true] at h
  obtain ⟨h1, h2, h3, h4⟩ := h
  have e1 : f = f' := by omega
  have e3 : l = l' := by omega
  have e2 : en = en' := by
    cases en <;> cases en' <;> first | rfl | (exfalso; simp [neEE, neEE2] at h2)
  have e4 : la = la' := by
    cases la <;> cases la' <;> first | rfl | (exfalso; simp [neBL, neBL2] at h4)
  subst e1 e2 e3 e4; rfl
theorem sh_runs (R : List Run) : ShD 2 (.list (R.map runD)) := ShD.list (ShD.map fun r _ => sh_run r)
theorem runs_any {R : List Run} {r : Run} : ((R.map runD).any fun y => PyData.eqv y (runD r)) = decide (r ∈ R) := by
  rw [List.any_map]
  by_cases h : r ∈ R
  · rw [decide_eq_true h, List.any_eq_true]
    exact ⟨r, h, (eqv_iff (nb_run r) (nb_run r)).mpr rfl⟩
  · rw [decide_eq_false h]
    cases e : R.any ((fun y => PyData.eqv y (runD r)) ∘ runD) with
    | false => rfl
    | true =>
      obtain ⟨s, hs, e⟩ := List.any_eq_true.mp e
      have := run_inj ((eqv_iff (nb_run s) (nb_run r)).mp e)
      subst this
      exact absurd hs h
theorem sh_st (S : List (Int × Int)) : ShD 2 (stD S) := ShD.tup (ShD.map fun p _ => ShD.tup fun x hx => by
  simp only [List.mem_cons, List.not_mem_nil, or_false] at hx
  rcases hx with rfl | rfl <;> exact .int _)
theorem nb_st (S : List (Int × Int)) : nb (stD S) = true := by
  simp only [stD, nb]
  exact nbAll_iff.mpr fun x hx => by
    obtain ⟨p, _, rfl⟩ := List.mem_map.mp hx
    simp [prD, nb, nbAll]
end Lw

namespace Lw
open PySem DL
local macro_rules | `(tactic| walk_at "ev") => `(tactic| simp only [ok_ok, ok_bind, ok_pure, ok_opt, ok_var, ok_op, ok_opO, ok_un, ok_cmp, ok_B, ok_ite, ok_chain, ok_and, ok_or, ok_not, ok_ifE, ok_tru, ok_andV, ok_orV, ok_notV, ok_nil, ok_cons, ok_tup, ok_lst, ok_fz, ok_isi, ok_call, ok_callO, ok_noP, ok_part, ok_sl, ok_slAt, ok_ixO, ok_lenO, ok_move, ok_seq, ok_nx, ok_if, ok_ret, ok_retO, ok_drop, ok_store, ok_set, ok_setO, ok_asg, ok_dat, ok_own, ok_par2, ok_par3, ok_meth, ok_setIx, ok_extend, ok_frz, ok_cmpO, ok_rep, ok_listRg, ok_F, ok_FO, ok_FC, ok_FS, ok_items, ok_signs, ok_range1, ok_range2, ok_range3, ok_zip, ok_enum, ok_for, ok_comp,
  okO_some, okO_none, okF_ok, okC_ok, slD_dat, slL_own, slL_cel, ixP_own, ixP_cel, ixP_scr, isL_own, isL_cel, isL_scr, lenP_own, lenP_cel, lenP_scr, seqP_nx, seqP_rt, seqP_ro, seqP_ct, seqP_bk, wrS_un, wrS_dat, wrS_own, wrS_scr, okO_gN, okO_gTp, okO_gCons, okO_gNil, chgP_own, chgP_cel, okO_chg, ownB_own, ownB_cel, celP_own, celP_cel, scrP_scr, putSl_eq,
  v_addII, v_addIB, v_addTT, v_addLL, v_addSS, v_catLL, v_sub, v_mul, v_mod, v_div, v_pow, v_neg, v_cmp, v_eqII, v_neII, v_eqSS, v_neSS, v_isNone_n, v_isNone_b, v_isNone_i, v_isNone_s, v_isNone_l, v_isNone_t, v_notNone_n, v_notNone_b, v_notNone_i, v_notNone_s, v_notNone_l, v_notNone_t, v_isBl, v_in, v_notIn, v_inS, v_notInS, v_ixL, v_ixT, v_ixS, v_slL, v_slT, v_revL, v_revT, v_lenL, v_lenT, v_lenS, v_max2, v_min2, v_intB, v_intI, v_tupL, v_tupT, v_listL, v_listT, v_truB, v_truI, v_truN, v_blB, v_int, v_itL, v_itT, v_sig, v_rng1, v_rng2, v_lrg, v_zipL, v_zipT, v_zipTT, ok_lenSet, ok_listZip, sizeLine_eq, Nat.reduceLeDiff, Int.reduceLT, Int.reduceLE, atI0, atI1, atI2, atI3, atI4, atI5, atI6, atI_c, ixN0, ixN1, ixN2, okO_celAt, v_notBlT, v_notBlF, v_notBlG, v_notBlH, Int.reduceEq, Int.reduceNe, Int.cast_ofNat_Int, not_true_eq_false, not_false_eq_true, pow9, pow18, natAbs10, Bool.true_eq_false, cut_1, cut_nn, v_enum, v_app, v_setAt,
  List.getElem?_cons_zero, List.getElem?_cons_succ, List.set_cons_zero, List.set_cons_succ, List.length_cons, List.length_nil, List.map_cons, List.map_nil, envOf, List.cons_append, List.nil_append, List.replicate, wipeE, restE, keepS,
  decide_eq_true_eq, true_and, and_true, if_true, if_false, Bool.false_eq_true, Nat.reduceAdd, Nat.reduceSub, Nat.zero_add, Nat.sub_zero, Bool.not_true, Bool.not_false, Bool.not_eq_true', decide_eq_false_iff_not])
local macro_rules | `(tactic| walk_at "en") => `(tactic| simp only [ok_ok, ok_bind, ok_pure, ok_opt, ok_var, ok_op, ok_opO, ok_un, ok_cmp, ok_B, ok_ite, ok_chain, ok_and, ok_or, ok_not, ok_ifE, ok_tru, ok_andV, ok_orV, ok_notV, ok_nil, ok_cons, ok_tup, ok_lst, ok_fz, ok_isi, ok_call, ok_callO, ok_noP, ok_part, ok_sl, ok_slAt, ok_ixO, ok_lenO, ok_move, ok_seq, ok_nx, ok_if, ok_ret, ok_retO, ok_drop, ok_store, ok_set, ok_setO, ok_asg, ok_dat, ok_own, ok_par2, ok_par3, ok_meth, ok_setIx, ok_extend, ok_frz, ok_cmpO, ok_rep, ok_listRg, ok_F, ok_FO, ok_FC, ok_FS, ok_items, ok_signs, ok_range1, ok_range2, ok_range3, ok_zip, ok_enum, ok_for, ok_comp,
  okO_some, okO_none, okF_ok, okC_ok, slD_dat, slL_own, slL_cel, ixP_own, ixP_cel, ixP_scr, isL_own, isL_cel, isL_scr, lenP_own, lenP_cel, lenP_scr, seqP_nx, seqP_rt, seqP_ro, seqP_ct, seqP_bk, wrS_un, wrS_dat, wrS_own, wrS_scr, okO_gN, okO_gTp, okO_gCons, okO_gNil, chgP_own, chgP_cel, okO_chg, ownB_own, ownB_cel, celP_own, celP_cel, scrP_scr, putSl_eq,
  v_addII, v_addIB, v_addTT, v_addLL, v_addSS, v_catLL, v_sub, v_mul, v_mod, v_div, v_pow, v_neg, v_cmp, v_eqII, v_neII, v_eqSS, v_neSS, v_isNone_n, v_isNone_b, v_isNone_i, v_isNone_s, v_isNone_l, v_isNone_t, v_notNone_n, v_notNone_b, v_notNone_i, v_notNone_s, v_notNone_l, v_notNone_t, v_isBl, v_in, v_notIn, v_inS, v_notInS, v_ixL, v_ixT, v_ixS, v_slL, v_slT, v_revL, v_revT, v_lenL, v_lenT, v_lenS, v_max2, v_min2, v_intB, v_intI, v_tupL, v_tupT, v_listL, v_listT, v_truB, v_truI, v_truN, v_blB, v_int, v_itL, v_itT, v_sig, v_rng1, v_rng2, v_lrg, v_zipL, v_zipT, v_zipTT, ok_lenSet, ok_listZip, sizeLine_eq, Nat.reduceLeDiff, Int.reduceLT, Int.reduceLE, atI0, atI1, atI2, atI3, atI4, atI5, atI6, atI_c, ixN0, ixN1, ixN2, okO_celAt, v_notBlT, v_notBlF, v_notBlG, v_notBlH, Int.reduceEq, Int.reduceNe, Int.cast_ofNat_Int, not_true_eq_false, not_false_eq_true, pow9, pow18, natAbs10, Bool.true_eq_false, cut_1, cut_nn, v_enum, v_app, v_setAt,
  List.getElem?_cons_zero, List.getElem?_cons_succ, List.set_cons_zero, List.set_cons_succ, List.length_cons, List.length_nil, List.map_cons, List.map_nil, envOf, List.cons_append, List.nil_append, List.replicate, wipeE, restE, keepS,
  decide_eq_true_eq, true_and, and_true, if_true, if_false, Bool.false_eq_true, Nat.reduceAdd, Nat.reduceSub, Nat.zero_add, Nat.sub_zero, Bool.not_true, Bool.not_false, Bool.not_eq_true', decide_eq_false_iff_not,
  ok_par2N, ok_nApp, ok_nSet, ok_nIx, ok_frzN, nstB_nst, nstP_nst, onlyN_s, onlyN_z, noN_un, noN_dat, noN_own, noN_cel, noN_scr, allN_cons, allN_nil, Bool.and_true, Bool.true_and, Int.reduceNeg, ok_zipM, v_zipM])
local macro_rules | `(tactic| walk_at "rn") => `(tactic| simp only [ok_ok, ok_bind, ok_pure, ok_opt, ok_var, ok_op, ok_opO, ok_un, ok_cmp, ok_B, ok_ite, ok_chain, ok_and, ok_or, ok_not, ok_ifE, ok_tru, ok_andV, ok_orV, ok_notV, ok_nil, ok_cons, ok_tup, ok_lst, ok_fz, ok_isi, ok_call, ok_callO, ok_noP, ok_part, ok_sl, ok_slAt, ok_ixO, ok_lenO, ok_move, ok_seq, ok_nx, ok_if, ok_ret, ok_retO, ok_drop, ok_store, ok_set, ok_setO, ok_asg, ok_dat, ok_own, ok_par2, ok_par3, ok_meth, ok_setIx, ok_extend, ok_frz, ok_cmpO, ok_rep, ok_listRg, ok_F, ok_FO, ok_FC, ok_FS, ok_items, ok_signs, ok_range1, ok_range2, ok_range3, ok_zip, ok_enum, ok_for, ok_comp,
  okO_some, okO_none, okF_ok, okC_ok, slD_dat, slL_own, slL_cel, ixP_own, ixP_cel, ixP_scr, isL_own, isL_cel, isL_scr, lenP_own, lenP_cel, lenP_scr, seqP_nx, seqP_rt, seqP_ro, seqP_ct, seqP_bk, wrS_un, wrS_dat, wrS_own, wrS_scr, okO_gN, okO_gTp, okO_gCons, okO_gNil, chgP_own, chgP_cel, okO_chg, ownB_own, ownB_cel, celP_own, celP_cel, scrP_scr, putSl_eq,
  v_addII, v_addIB, v_addTT, v_addLL, v_addSS, v_catLL, v_sub, v_mul, v_mod, v_div, v_pow, v_neg, v_cmp, v_eqII, v_neII, v_eqSS, v_neSS, v_isNone_n, v_isNone_b, v_isNone_i, v_isNone_s, v_isNone_l, v_isNone_t, v_notNone_n, v_notNone_b, v_notNone_i, v_notNone_s, v_notNone_l, v_notNone_t, v_isBl, v_in, v_notIn, v_inS, v_notInS, v_ixL, v_ixT, v_ixS, v_slL, v_slT, v_revL, v_revT, v_lenL, v_lenT, v_lenS, v_max2, v_min2, v_intB, v_intI, v_tupL, v_tupT, v_listL, v_listT, v_truB, v_truI, v_truN, v_blB, v_int, v_itL, v_itT, v_sig, v_rng1, v_rng2, v_lrg, v_zipL, v_zipT, v_zipTT, ok_lenSet, ok_listZip, sizeLine_eq, Nat.reduceLeDiff, Int.reduceLT, Int.reduceLE, atI0, atI1, atI2, atI3, atI4, atI5, atI6, atI_c, ixN0, ixN1, ixN2, okO_celAt, v_notBlT, v_notBlF, v_notBlG, v_notBlH, Int.reduceEq, Int.reduceNe, Int.cast_ofNat_Int, not_true_eq_false, not_false_eq_true, pow9, pow18, natAbs10, Bool.true_eq_false, cut_1, cut_nn, v_enum, v_app, v_setAt,
  List.getElem?_cons_zero, List.getElem?_cons_succ, List.set_cons_zero, List.set_cons_succ, List.length_cons, List.length_nil, List.map_cons, List.map_nil, envOf, List.cons_append, List.nil_append, List.replicate, wipeE, restE, keepS,
  decide_eq_true_eq, true_and, and_true, if_true, if_false, Bool.false_eq_true, Nat.reduceAdd, Nat.reduceSub, Nat.zero_add, Nat.sub_zero, Bool.not_true, Bool.not_false, Bool.not_eq_true', decide_eq_false_iff_not,
  ok_par2N, ok_nApp, ok_nSet, ok_nIx, ok_frzN, nstB_nst, nstP_nst, onlyN_s, onlyN_z, noN_un, noN_dat, noN_own, noN_cel, noN_scr, allN_cons, allN_nil, Bool.and_true, Bool.true_and, Int.reduceNeg, ok_zipM, v_zipM, shEarly, shEnd, shBegin, shLate, neEE, neEE2, neBL, neBL2, eq_self, if_neg_f, decide_true, decide_false, Bool.and_false, Bool.false_and])
/-! ## wants that are less -/
theorem cut7_3 {x0 x1 x2 x3 x4 x5 x6 : D} : cutD [x0, x1, x2, x3, x4, x5, x6] none (some 3) = [x0, x1, x2] := rfl
theorem cut7_4 {x0 x1 x2 x3 x4 x5 x6 : D} : cutD [x0, x1, x2, x3, x4, x5, x6] (some 4) none = [x4, x5, x6] := rfl
def setW (a : Act) (w : Int) : Act := { a with w := w }
theorem with_wants_ok {E : List Act} {ws : List Int} (hl : E.length ≤ 1000) : f_with_wants [evD E, .list (ws.map .int)] = .ok (evD (List.zipWith setW E ws)) := by
  refine okF_eq ?_
  unfold f_with_wants runF m_with_wants evD
  rw [okF_ret]
  walk_at "rn"
  rw [zipD_map]
  refine compA1 (E.zip ws) _ (fun p => actD (setW p.1 p.2)) (by rw [sizeLine_eq, List.length_zip]; omega) rfl (fun p hp => ?_) ?_
  · simp only [actD]
    walk_at "rn"
    simp only [cut7_3, cut7_4]
    walk_at "rn"
    first | exact rfl | exact ⟨rfl, rfl⟩
  · try walk_at "rn"

    congr 1
    rw [List.map_zipWith, List.zip_eq_zipWith, List.map_zipWith]
def lessA (k : Int) (a : Act) : Act := setW a (max (a.e - a.b) (a.w - k))
def less (k : Int) (E : List Act) : List Act := E.map (lessA k)
theorem zipWith_self {E : List Act} (f : Act → Int) : List.zipWith setW E (E.map f) = E.map fun a => setW a (f a) := by
  induction E with
  | nil => rfl
  | cons a E ih => rw [List.map_cons, List.zipWith_cons_cons, ih]; rfl
theorem with_less_ok {E : List Act} {k : Int} (hl : E.length ≤ 1000) : f_with_less [evD E, .int k] = .ok (evD (less k E)) := by
  refine okF_eq ?_
  unfold f_with_less runF m_with_less evD
  rw [okF_ret]
  walk_at "rn"
  refine compA1 E _ (fun a => .int (max (a.e - a.b) (a.w - k))) (by rw [sizeLine_eq]; omega) rfl (fun a ha => ?_) ?_
  · simp only [actD]
    walk_at "rn"
    try exact ⟨rfl, rfl⟩
  · try walk_at "rn"
    have e : E.map (fun a => PyData.int (max (a.e - a.b) (a.w - k))) = (E.map fun a => max (a.e - a.b) (a.w - k)).map PyData.int := by rw [List.map_map]; rfl
    have := with_wants_ok (E := E) (ws := E.map fun a => max (a.e - a.b) (a.w - k)) hl
    rw [zipWith_self] at this
    rw [e]
    unfold evD at this
    rw [this]
    walk_at "rn"
    rfl
theorem fol_map {f : Act → Act} (hf : ∀ a, (f a).b = a.b ∧ (f a).e = a.e ∧ (f a).ch = a.ch) : ∀ {E : List Act} {r : Int}, Fol r (E.map f) ↔ Fol r E
  | [], r => Iff.rfl
  | a :: E, r => by
    obtain ⟨h1, h2, h3⟩ := hf a
    simp only [List.map_cons, Fol, h1, h2, h3, fol_map hf (E := E)]
theorem less_ok {E : List Act} {k : Int} (h : EvOk E) (hk : 0 ≤ k) : EvOk (less k E) := by
  refine ⟨by unfold less; rw [List.length_map]; exact h.lo, by unfold less; rw [List.length_map]; exact h.hi, fun a ha => ?_, ?_, (fol_map (f := lessA k) fun a => ⟨rfl, rfl, rfl⟩).mpr h.fol⟩
  · obtain ⟨x, hx, rfl⟩ := List.mem_map.mp ha
    obtain ⟨h0, h1, h2, h3, h4, h5⟩ := h.act x hx
    exact ⟨h0, h1, by unfold lessA setW; dsimp only; omega, h3, h4, h5⟩
  · unfold less
    rw [List.map_map]
    exact h.nd
/-- just what must be -/
def must (E : List Act) : List Pt := E.map fun a => (a, a.b, a.e)
theorem must_sd : ∀ {E : List Act} {r : Int}, (∀ a ∈ E, 0 ≤ a.ea ∧ 0 ≤ a.la) → Fol r E → Sd r (must E)
  | [], _, _, _ => trivial
  | a :: E, r, h, hf => by
    obtain ⟨h1, h2⟩ := h a (.head _)
    exact ⟨⟨by dsimp only; omega, Int.le_refl _, Int.le_refl _, by dsimp only; omega, hf.1⟩, must_sd (fun x hx => h x (.tail _ hx)) hf.2⟩
theorem acts_must {E : List Act} : acts (must E) = E := by unfold acts must; rw [List.map_map]; exact List.map_id _
theorem fol_low {E : List Act} (h : EvOk E) : Fol (-1000000000) E := by
  have := h.fol
  cases E with
  | nil => trivial
  | cons a E => exact ⟨by have := this.1; omega, this.2⟩
theorem must_st {E : List Act} (h : EvOk E) : St E (must E) := (st_sd h.low).mpr ⟨acts_must, must_sd (fun a ha => by obtain ⟨_, _, _, h3, h4, _⟩ := h.act a ha; exact ⟨h3.1, h4.1⟩) (fol_low h)⟩
theorem less_down : ∀ {E : List Act} {T : List Pt} {r k : Int}, 0 ≤ k → acts T = less k E → Sd r T → ∃ T', acts T' = E ∧ moms T' = moms T ∧ Sd r T' ∧ (Wh T → ∀ t ∈ T', fg t ≤ k)
  | [], [], r, k, _, _, _ => ⟨[], rfl, rfl, trivial, fun _ t ht => nomatch ht⟩
  | [], t :: T, r, k, _, e, _ => by simp [acts, less] at e
  | a :: E, [], r, k, _, e, _ => by simp [acts, less] at e
  | a :: E, t :: T, r, k, hk, e, s => by
    simp only [acts, less, List.map_cons, List.cons.injEq] at e
    obtain ⟨e0, e1⟩ := e
    obtain ⟨⟨g1, g2, g3, g4, g5⟩, g6⟩ := s
    obtain ⟨T', h1, h2, h3, h4⟩ := less_down hk e1 g6
    rw [e0] at g1 g2 g3 g4
    refine ⟨(a, t.2) :: T', by show a :: acts T' = _; rw [h1], by show t.2 :: moms T' = _; rw [h2]; rfl, ⟨⟨g1, g2, g3, g4, g5⟩, ?_⟩, fun w x hx => ?_⟩
    · rw [e0] at h3; exact h3
    · rcases List.mem_cons.mp hx with rfl | hx
      · have := w t (.head _)
        rw [e0] at this
        have : max (a.e - a.b) (a.w - k) ≤ t.2.2 - t.2.1 := this
        unfold fg; dsimp only; omega
      · exact h4 (fun y hy => w y (.tail _ hy)) x hx
theorem less_up {E : List Act} {k : Int} {T : List Pt} (hE : EvOk E) (hk : 0 ≤ k) (s : St E T) (h : ∀ t ∈ T, fg t ≤ k) : ∃ T', St (less k E) T' ∧ Wh T' := by
  refine ⟨T.map fun t => (lessA k t.1, t.2), ⟨?_, fun u hu => ?_, ?_⟩, fun u hu => ?_⟩
  · unfold acts less; rw [List.map_map, ← s.ac]; unfold acts; rw [List.map_map]; rfl
  · obtain ⟨t, ht, rfl⟩ := List.mem_map.mp hu
    exact s.bd t ht
  · rw [List.pairwise_map]
    exact s.rl.imp fun h => h
  · obtain ⟨t, ht, rfl⟩ := List.mem_map.mp hu
    have h1 := h t ht
    have h2 := s.bd t ht
    unfold Bd at h2
    unfold fg at h1
    show max (t.1.e - t.1.b) (t.1.w - k) ≤ t.2.2 - t.2.1
    omega
theorem first_ex {E : List Act} (h : EvOk E) {T : List Pt} (s : St E T) (w : Wh T) : firstW E ≠ none := fun e => first_none h.low e s w
theorem less_big {E : List Act} (h : EvOk E) {k : Int} (hk : 200 ≤ k) : firstW (less k E) ≠ none := by
  have ok := less_ok h (k := k) (by omega)
  refine first_ex ok (must_st ok) fun t ht => ?_
  obtain ⟨a, ha, rfl⟩ := List.mem_map.mp ht
  obtain ⟨b, hb, rfl⟩ := List.mem_map.mp ha
  have := (h.act b hb).w
  have := (h.act b hb).b
  show max (b.e - b.b) (b.w - k) ≤ b.e - b.b
  omega
theorem less_zero {E : List Act} (h : EvOk E) : less 0 E = E := by
  unfold less
  have : ∀ a ∈ E, lessA 0 a = a := fun a ha => by
    have := (h.act a ha).w
    unfold lessA setW
    rw [show max (a.e - a.b) (a.w - 0) = a.w by omega]
  rw [List.map_congr_left this, List.map_id']
/-- the least that no act need forgo more than -/
structure NumE (E : List Act) (k : Int) : Prop where
  lo : 0 ≤ k
  hi : k ≤ 200
  ex : firstW (less k E) ≠ none
  no : 0 < k → firstW (less (k - 1) E) = none
theorem number_each_ok {E : List Act} (h : EvOk E) : ∃ k, f_number_each [evD E] = .ok (.int k) ∧ NumE E k := by
  suffices key : okF (f_number_each [evD E]) fun d => ∃ k, d = .int k ∧ NumE E k by
    obtain ⟨d, e, k, rfl, hk⟩ := okF_ex key
    exact ⟨k, e, hk⟩
  unfold f_number_each runF m_number_each
  rw [okF_ret]
  walk_at "rn"
  refine while_ok (fun n e => ∃ j : Int, 0 ≤ j ∧ j ≤ 200 ∧ j + n = 300 ∧ e = [.dat (evD E), .dat (.int j)] ∧ (0 < j → firstW (less (j - 1) E) = none)) 300 (by decide) ⟨0, by omega, by omega, by omega, rfl, fun h => absurd h (by omega)⟩ ?_
  rintro n e ⟨j, hj, hj2, hn, rfl, hno⟩
  walk_at "rn"
  have ok := less_ok h (k := j) hj
  rw [with_less_ok (by have := h.hi; omega)]
  walk_at "rn"
  rw [first_whole_ok (by have := ok.hi; omega) ok.low.lo]
  walk_at "rn"
  show okO (dIsNone (optD (firstW (less j E))) .none) _
  cases hf : firstW (less j E) with
  | none =>
    rw [show okO (dIsNone (optD none) PyData.none) = fun R => R true from rfl]
    walk_at "rn"
    have lt : j < 200 := by
      by_cases c : j < 200
      · exact c
      · exact absurd hf (less_big h (by omega))
    exact ⟨n - 1, by omega, j + 1, by omega, by omega, by omega, rfl, fun _ => by rw [show j + 1 - 1 = j by omega]; exact hf⟩
  | some T =>
    rw [show okO (dIsNone (optD (some T)) PyData.none) = fun R => R false from rfl]
    walk_at "rn"

    exact ⟨j, rfl, ⟨hj, hj2, (by rw [hf]; exact Option.some_ne_none T), hno⟩⟩
theorem least_each_ok {E : List Act} (h : EvOk E) {k : Int} (hk : f_number_each [evD E] = .ok (.int k)) : f_least_each [evD E] = .ok (.int k) := by
  refine okF_eq ?_
  unfold f_least_each runF m_least_each
  rw [okF_ret]
  walk_at "rn"
  rw [need_evening_good h]
  walk_at "rn"
  rw [hk]
  walk_at "rn"
theorem standing_each_ok {E : List Act} (h : EvOk E) {k : Int} (hk : f_number_each [evD E] = .ok (.int k)) (hn : NumE E k) : f_standing_each [evD E] = .ok (optD (firstW (less k E))) := by
  refine okF_eq ?_
  unfold f_standing_each runF m_standing_each
  rw [okF_ret]
  walk_at "rn"
  rw [need_evening_good h]
  walk_at "rn"
  rw [hk]
  walk_at "rn"
  have ok := less_ok h (k := k) hn.lo
  rw [with_less_ok (by have := h.hi; omega)]
  walk_at "rn"
  rw [first_whole_ok (by have := ok.hi; omega) ok.low.lo]
  walk_at "rn"
  rfl
end Lw

namespace DL
open PySem PySem.Spec PyProof.Rows L2
/-! ## dicts of whole numbers -/
theorem kv_len {G : Hp} : ∀ {ks : List (Key × V)} {ds : List (D × D)}, DtKv G ks ds → ks.length = ds.length
  | _, _, .nil => rfl
  | _, _, .cons i h t => congrArg Nat.succ (kv_len t)
/-- what the key i holds -/
def lookD : List (D × D) → Int → Option D
  | [], _ => none
  | (.int j, d) :: r, i => if j = i then some d else lookD r i
  | _ :: r, i => lookD r i
theorem look_kv {G : Hp} : ∀ {ks : List (Key × V)} {ds : List (D × D)} (i : Int), DtKv G ks ds → match lookD ds i with
    | some d => ∃ v, valV ks (.inl i) = some v ∧ Dt G v d
    | none => valV ks (.inl i) = none
  | _, _, i, .nil => rfl
  | _, _, i, .cons (v := v) (ks := ks) j h t => by
    have ih := look_kv i t
    unfold lookD
    by_cases e : j = i
    · subst e
      rw [if_pos rfl]
      exact ⟨v, by simp [valV], h⟩
    · rw [if_neg e]
      have e2 : valV ((.inl j, v) :: ks) (.inl i) = valV ks (.inl i) := by
        simp [valV, e]
      rw [e2]
      exact ih
def repD (i : Int) (d : D) : D × D → D × D
  | (.int j, e) => if j = i then (.int j, d) else (.int j, e)
  | p => p
def putD (kvs : List (D × D)) (i : Int) (d : D) : List (D × D) := if (lookD kvs i).isSome = true then kvs.map (repD i d) else kvs ++ [(.int i, d)]
theorem kv_rep {G : Hp} {v : V} {d : D} (h0 : Dt G v d) (i : Int) : ∀ {ks : List (Key × V)} {ds : List (D × D)}, DtKv G ks ds → DtKv G (ks.map fun kv => if kv.1 = Sum.inl i then (kv.1, v) else kv) (ds.map (repD i d))
  | _, _, .nil => .nil
  | _, _, .cons (v := u) (d := e) (ks := ks) j h t => by
    have ih := kv_rep h0 i t
    rw [List.map_cons, List.map_cons]
    by_cases e : j = i
    · subst e
      simp only [if_true, repD]
      exact .cons j h0 ih
    · rw [if_neg (fun z => e (Sum.inl.inj z))]
      simp only [repD, if_neg e]
      exact .cons j h ih
theorem kv_app {G : Hp} {v : V} {d : D} (h0 : Dt G v d) (i : Int) : ∀ {ks : List (Key × V)} {ds : List (D × D)}, DtKv G ks ds → DtKv G (ks ++ [(Sum.inl i, v)]) (ds ++ [(.int i, d)])
  | _, _, .nil => .cons i h0 .nil
  | _, _, .cons j h t => .cons j h (kv_app h0 i t)
theorem kv_any {G : Hp} (i : Int) : ∀ {ks : List (Key × V)} {ds : List (D × D)}, DtKv G ks ds → (ks.any fun kv => decide (kv.1 = Sum.inl i)) = (lookD ds i).isSome
  | _, _, .nil => rfl
  | _, _, .cons (v := v) (d := d) (ks := ks) (ds := ds) j h t => by
    rw [List.any_cons, kv_any i t, show lookD ((.int j, d) :: ds) i = if j = i then some d else lookD ds i from rfl]
    by_cases e : j = i
    · subst e; simp
    · rw [if_neg e, decide_eq_false (fun z => e (Sum.inl.inj z)), Bool.false_or]
theorem put_kv {G : Hp} {v : V} {d : D} (h0 : Dt G v d) (i : Int) {ks : List (Key × V)} {ds : List (D × D)} (h : DtKv G ks ds) : DtKv G (putK ks (.inl i) v) (putD ds i d) := by
  unfold putK putD
  rw [kv_any i h]
  split
  · exact kv_rep h0 i h
  · exact kv_app h0 i h
end DL

namespace DL
open PySem PySem.Spec PyProof.Rows L2
/-! ## locks for good -/
def tLockP (t : TE) : TE := fun σ H Q => t σ H fun v H1 => ∃ d u, v = .ref d ∧ H1 d = some u ∧ Mut (some u) ∧ ∀ od, Q v (upd H1 d (.frz od u))
theorem pe_lockP {X : Cx} {e : Expr} {t : TE} (h : PE X e t) : PE X e (tLockP t) := by
  refine ⟨fun pins s σ H Q I hw => ?_⟩
  refine thn (h.run pins s σ H _ I hw) fun u s1 ⟨x, H1, I1, r, d, ob, ex, hd, mu, q⟩ => ?_
  obtain ⟨od, I2⟩ := I1.lock hd mu
  exact ⟨x, _, I2, r, q od⟩
/-- what no slot holds is frozen -/
theorem Fr.frzOff {K : PySem.W.Frag} {b : Bs} {G H : Hp} {σ : St} {env : Ev} {a : Addr} {o : HO} (f : Fr K b G H σ env) (ha : H a = some o) (hn : ¬ OwnAt σ env a) (nn : NoNst σ env H a) (hg : G a = none) (h0 : b.H0 a = none) : Fr K b (upd G a o) H σ env := by
  have hs : Sub G (upd G a o) := sub_upd hg
  have hne : ∀ c, OwnAt σ env c → c ≠ a := fun c hc z => hn (z ▸ hc)
  refine ⟨fun c o' hc => ?_, f.base, f.sub0.trans hs, fun c o' hc => ?_, f.celH, f.len, fun i s hi => ?_, f.inj, f.nst⟩
  · by_cases hca : c = a
    · subst hca; rw [upd_same] at hc; rw [← hc]; exact ha
    · rw [upd_ne hca] at hc; exact f.sub _ _ hc
  · by_cases hca : c = a
    · subst hca; exact .inr h0
    · rw [upd_ne hca] at hc; exact f.low _ _ hc
  · obtain ⟨v, e, q⟩ := f.slot i s hi
    refine ⟨v, e, ?_⟩
    cases s with
    | un => trivial
    | dat d => obtain ⟨x, e, hd⟩ := q; exact ⟨x, e, hd.mono hs⟩
    | own ds => obtain ⟨c, us, e2, h1, h2, h3, h4⟩ := q; exact ⟨c, us, e2, h1, h2.mono hs, by rw [upd_ne (hne c ⟨i, ⟨_, hi, rfl⟩, by rw [e, e2]⟩)]; exact h3, h4⟩
    | cel ds => obtain ⟨c, us, e2, h1, h2, h3, h4⟩ := q; exact ⟨c, us, e2, h1, h2.mono hs, by rw [upd_ne (hne c ⟨i, ⟨_, hi, rfl⟩, by rw [e, e2]⟩)]; exact h3, h4⟩
    | scr ns => obtain ⟨c, e2, h1⟩ := q; exact ⟨c, e2, hs.seq h1⟩
    | dic kvs => obtain ⟨c, us, e2, h1, h2, h3, h4⟩ := q; exact ⟨c, us, e2, h1, dtKv_mono hs _ _ h2, by rw [upd_ne (hne c ⟨i, ⟨_, hi, rfl⟩, by rw [e, e2]⟩)]; exact h3, h4⟩
    | nst rows =>
      obtain ⟨c, rs, e2, h1, h2, h3, h4, h5⟩ := q
      obtain ⟨n1, n2⟩ := nn.at hi (by rw [e, e2]) h1
      exact ⟨c, rs, e2, h1, h2.frz hs fun r hr => upd_ne fun z => n2 (by rw [← z]; exact hr), by rw [upd_ne (Ne.symm n1)]; exact h3, h4, h5⟩
theorem NoNst.updO {σ : St} {env : Ev} {H : Hp} {x a : Addr} {o : HO} (n : NoNst σ env H x) (na : NoNst σ env H a) : NoNst σ env (upd H a o) x := fun i rows h => by
  obtain ⟨c, rs, h1, h2, h3⟩ := n i rows h
  have q := na.at h h1 h2
  exact ⟨c, rs, h1, by rw [upd_ne (Ne.symm q.1)]; exact h2, h3⟩
/-- an object made on the way is laid anew and frozen: Fr and Step -/
theorem laid_frz {K : PySem.W.Frag} {b : Bs} {G H G2 H2 : Hp} {σ : St} {env e2 : Ev} {p : Addr} {o o' : HO} (fr2 : Fr K b G2 H2 σ e2) (st : Step σ env e2 G H G2 H2) (hp : H p = none) (h2 : H2 p = some o) (hg : G2 p = none) (h0 : b.H0 p = none) (hn : ¬ OwnAt σ e2 p) (nn : NoNst σ e2 H2 p) :
    Fr K b (upd G2 p o') (upd H2 p o') σ e2 ∧ Step σ env e2 G H (upd G2 p o') (upd H2 p o') := by
  have f3 := fr2.updOff (o := o') hn nn hg h0
  have f4 := f3.frzOff upd_same hn (nn.updO nn) hg h0
  refine ⟨f4, ⟨st.sub.trans (sub_upd hg), fun c x hc hn' => ?_, fun c hc q => ?_, fun c x hc => ?_, st.own, fun x n => (st.nn x n).updO nn⟩⟩
  · rw [upd_ne (ne_of_none hc hp)]; exact st.keep c x hc hn'
  · by_cases e : c = p
    · subst e; rw [upd_same] at q; cases q
    · rw [upd_ne e] at q; exact st.dom c hc q
  · by_cases e : c = p
    · subst e; exact .inr (.inl hp)
    · rw [upd_ne e] at hc; exact st.new c x hc
/-! ## dicts of one's own -/
theorem Fr.setDic {K : PySem.W.Frag} {b : Bs} {G H : Hp} {σ : St} {env : Ev} {i : Nat} {a : Addr} {ks : List (Key × V)} {kvs : List (D × D)} (f : Fr K b G H σ env) (ha : H a = some (.dK ks)) (hd : DtKv G ks kvs) (hg : G a = none) (h0 : b.H0 a = none) (hn : ¬ OwnAt σ env a) (nn : NoNst σ env H a) (hi : i < env.length) :
    Fr K b G H (σ.set i (some (.ref a))) (env.set i (.dic kvs)) where
  sub := f.sub
  base := f.base
  sub0 := f.sub0
  low := f.low
  celH := f.celH
  len := by rw [List.length_set, List.length_set]; exact f.len
  slot := fun j s hs => by
    rcases getset hs with ⟨e1, e2⟩ | ⟨e1, e2⟩
    · subst e1 e2
      exact ⟨some (.ref a), by rw [List.getElem?_set_self (by rw [← f.len]; exact hi)], a, ks, rfl, ha, hd, hg, h0⟩
    · obtain ⟨u, e3, q⟩ := f.slot j s e2
      exact ⟨u, by rw [List.getElem?_set_ne e1]; exact e3, q⟩
  inj := fun j k c h1 h2 => by
    rcases h1.set with ⟨e1, _, z1⟩ | ⟨e1, h1⟩
    · rcases h2.set with ⟨e2, _, z2⟩ | ⟨e2, h2⟩
      · exact e1.symm.trans e2
      · cases z1; exact absurd ⟨k, h2⟩ hn
    · rcases h2.set with ⟨e2, _, z2⟩ | ⟨e2, h2⟩
      · cases z2; exact absurd ⟨j, h1⟩ hn
      · exact f.inj j k c h1 h2
  nst := fun j rows c rs h1 h2 h3 => by
    rcases getset h1 with ⟨_, z⟩ | ⟨e1, h1⟩
    · cases z
    · rw [List.getElem?_set_ne e1] at h2
      have q := f.nst j rows c rs h1 h2 h3
      have n := nn.at h1 h2 h3
      have bk : ∀ x, OwnAt (σ.set i (some (.ref a))) (env.set i (.dic kvs)) x → x = a ∨ OwnAt σ env x := fun x ⟨k, hk⟩ => by
        rcases hk.set with ⟨_, _, z⟩ | ⟨_, hk⟩
        · cases z; exact .inl rfl
        · exact .inr ⟨k, hk⟩
      exact ⟨fun z => (bk _ z).elim (fun e => n.1 e.symm) q.1, fun r hr z => (bk r z).elim (fun e => n.2 (e ▸ hr)) (q.2 r hr)⟩
theorem Fr.holdsD {K : PySem.W.Frag} {b : Bs} {G H : Hp} {σ : St} {env : Ev} {i : Nat} {kvs : List (D × D)} (f : Fr K b G H σ env) (hi : env[i]? = some (.dic kvs)) : ∃ a ks, OwnI σ env i a ∧ H a = some (.dK ks) ∧ DtKv G ks kvs ∧ G a = none ∧ b.H0 a = none := by
  obtain ⟨v, e, a, ks, e2, h1, h2, h3, h4⟩ := f.slot i _ hi
  subst e2
  exact ⟨a, ks, ⟨⟨_, hi, rfl⟩, e⟩, h1, h2, h3, h4⟩
theorem Fr.changeD {K : PySem.W.Frag} {b : Bs} {G H : Hp} {σ : St} {env : Ev} {i : Nat} {kvs kvs' : List (D × D)} {a : Addr} {ks' : List (Key × V)} (f : Fr K b G H σ env) (hi : env[i]? = some (.dic kvs)) (ho : OwnI σ env i a) (hd : DtKv G ks' kvs') :
    Fr K b G (upd H a (.dK ks')) σ (env.set i (.dic kvs')) := by
  obtain ⟨a0, ks, ho0, h1, h2, h3, h4⟩ := f.holdsD hi
  have ea := OwnI.uniq ho0 ho
  subst ea
  have hil : i < env.length := (List.getElem?_eq_some_iff.mp hi).1
  have of_ : ∀ {j c}, OwnI σ (env.set i (.dic kvs')) j c → OwnI σ env j c := fun h => h.of_set hi fun _ => rfl
  refine ⟨fun c o h => ?_, fun c o h n => ?_, f.sub0, f.low, fun j c hj q => ?_, by rw [List.length_set]; exact f.len, fun j t ht => ?_, fun j k c hj hk => f.inj j k c (of_ hj) (of_ hk), fun j rows c rs g1 g2 g3 => ?_⟩
  · rw [upd_ne (ne_of_none h h3)]; exact f.sub _ _ h
  · rw [upd_ne (ne_of_none h h4)]; exact f.base c o h n
  · by_cases e : c = a0
    · subst e; rw [upd_same] at q; cases q
    · rw [upd_ne e] at q; exact f.celH j c hj q
  · rcases getset ht with ⟨e1, e2⟩ | ⟨e1, e2⟩
    · subst e1 e2
      exact ⟨_, ho0.2, a0, ks', rfl, upd_same, hd, h3, h4⟩
    · obtain ⟨v, e, q⟩ := f.slot j t e2
      refine ⟨v, e, ?_⟩
      have ne : ∀ c, OwnI σ env j c → c ≠ a0 := fun c hc z => e1 (f.inj i j a0 ho0 (z ▸ hc))
      cases t with
      | un => trivial
      | dat d => exact q
      | own ds => obtain ⟨c, us, e3, q1, q2⟩ := q; subst e3; exact ⟨c, us, rfl, by rw [upd_ne (ne c ⟨⟨_, e2, rfl⟩, e⟩)]; exact q1, q2⟩
      | cel ds => obtain ⟨c, us, e3, q1, q2⟩ := q; subst e3; exact ⟨c, us, rfl, by rw [upd_ne (ne c ⟨⟨_, e2, rfl⟩, e⟩)]; exact q1, q2⟩
      | scr ns => exact q
      | dic ds => obtain ⟨c, us, e3, q1, q2⟩ := q; subst e3; exact ⟨c, us, rfl, by rw [upd_ne (ne c ⟨⟨_, e2, rfl⟩, e⟩)]; exact q1, q2⟩
      | nst rows =>
        obtain ⟨c, rs, e3, q1, q2, q3⟩ := q
        subst e3
        have n := f.nst j rows c rs e2 e q1
        exact ⟨c, rs, rfl, by rw [upd_ne (fun (z : c = a0) => n.1 ⟨i, by rw [z]; exact ho0⟩)]; exact q1, q2.keepM (Same.refl _) (fun _ _ _ z => z) fun r hr o z => by rw [upd_ne (fun (y : r = a0) => n.2 r hr (by rw [y]; exact ⟨i, ho0⟩))]; exact z, q3⟩
  · rcases getset g1 with ⟨_, z⟩ | ⟨_, z⟩
    · cases z
    · obtain ⟨v, e, c', rs', e3, q1, _⟩ := f.slot j _ z
      rw [g2] at e; cases e; cases e3
      have q := f.nst j rows c rs' z g2 q1
      rw [upd_ne (fun (z : c = a0) => q.1 ⟨i, by rw [z]; exact ho0⟩), q1] at g3
      have e4 := map_ref_inj (HO.lst.inj (Option.some.inj g3))
      subst e4
      exact ⟨fun ⟨k, hk⟩ => q.1 ⟨k, of_ hk⟩, fun r hr ⟨k, hk⟩ => q.2 r hr ⟨k, of_ hk⟩⟩
theorem Fr.letGoD {K : PySem.W.Frag} {b : Bs} {G H : Hp} {σ : St} {env : Ev} {i : Nat} {kvs : List (D × D)} (f : Fr K b G H σ env) (hi : env[i]? = some (.dic kvs)) :
    ∃ a ks, σ[i]? = some (some (.ref a)) ∧ H a = some (.dK ks) ∧ ∀ od, Fr K b (upd G a (.frz od (.dK ks))) (upd H a (.frz od (.dK ks))) σ (env.set i .un) ∧ Step σ env (env.set i .un) G H (upd G a (.frz od (.dK ks))) (upd H a (.frz od (.dK ks))) ∧ Dt (upd G a (.frz od (.dK ks))) (.ref a) (.dict kvs) := by
  obtain ⟨a, ks, ho, h1, h2, h3, h4⟩ := f.holdsD hi
  refine ⟨a, ks, ho.2, h1, fun od => ?_⟩
  have back : ∀ j c, OwnI σ (env.set i .un) j c → j ≠ i ∧ OwnI σ env j c := fun j c ⟨⟨t, ht, hto⟩, hv⟩ => by
    rcases getset ht with ⟨e1, e2⟩ | ⟨e1, e2⟩
    · subst e2; cases hto
    · exact ⟨Ne.symm e1, ⟨⟨t, e2, hto⟩, hv⟩⟩
  have f1 : Fr K b G H σ (env.set i .un) := by
    refine ⟨f.sub, f.base, f.sub0, f.low, f.celH, by rw [List.length_set]; exact f.len, fun j t ht => ?_, fun j k c hj hk => f.inj j k c (back j c hj).2 (back k c hk).2, fun j rows c rs g1 g2 g3 => ?_⟩
    · rcases getset ht with ⟨e1, e2⟩ | ⟨e1, e2⟩
      · subst e1 e2; exact ⟨_, ho.2, trivial⟩
      · exact f.slot j t e2
    · rcases getset g1 with ⟨_, z⟩ | ⟨_, z⟩
      · cases z
      · have q := f.nst j rows c rs z g2 g3
        exact ⟨fun ⟨k, hk⟩ => q.1 ⟨k, (back k c hk).2⟩, fun r hr ⟨k, hk⟩ => q.2 r hr ⟨k, (back k r hk).2⟩⟩
  have nnS : ∀ x, NoNst σ env H x → NoNst σ (env.set i .un) H x := fun x n j rows h1 => by
    rcases getset h1 with ⟨_, z⟩ | ⟨_, z⟩
    · cases z
    · exact n j rows z
  have nn : NoNst σ (env.set i .un) H a := nnS a (f.ownNst ⟨i, ho⟩)
  have no : ¬ OwnAt σ (env.set i .un) a := fun ⟨j, hj⟩ => (back j a hj).1 (f.inj j i a (back j a hj).2 ho)
  have f2 := f1.updOff (o := .frz od (.dK ks)) no nn h3 h4
  refine ⟨f2.frzOff upd_same no (nn.updO nn) h3 h4, ⟨sub_upd h3, fun c o hc hn => ?_, fun c hc q => ?_, fun c o hc => ?_, fun c ⟨j, hj⟩ => ⟨j, (back j c hj).2⟩, fun x n => (nnS x n).updO nn⟩, .dic upd_same (dtKv_mono (sub_upd h3) _ _ h2)⟩
  · rw [upd_ne (fun (z : c = a) => hn ⟨i, by rw [z]; exact ho⟩)]; exact hc
  · by_cases e : c = a
    · subst e; rw [upd_same] at q; cases q
    · rw [upd_ne e] at q; exact hc q
  · by_cases e : c = a
    · subst e; exact .inr (.inr ⟨i, ho⟩)
    · rw [upd_ne e] at hc; exact .inl hc
def isDic (env : Ev) (i : Nat) : Bool := match env[i]? with
  | some (.dic _) => true
  | _ => false
theorem isDic_some {env : Ev} {i : Nat} (h : isDic env i = true) : ∃ kvs, env[i]? = some (.dic kvs) := by
  unfold isDic at h
  split at h
  · exact ⟨_, by assumption⟩
  · cases h
section
variable {X : Cx} {W : WX} {a b c e : Expr} {es : List Expr} {ma mb mc mk mv : M D} {ml : M (List D)} {mt : M Bool} {ms mn : MS} {st : Stmt} {sts ss : List Stmt} {pos p p2 : Pos}
/-- x = {} -/
def mDNew (i : Nat) : MS := mStore (putSl i (.dic []))
theorem js_dnew (i : Nat) {x : Str} {pos' dp : Pos} (hN : X.N.Nodup) (hx : Loc X.env.scope x) (hi : X.N[i]? = some x := by rfl) (hs : swapsWith (.Dict [] [] dp) (some (.Name x pos')) pos.line X.env = pure false := by rfl) (hf : X.fn x = true ∨ X.env.scope.names.lookup x = some .local := by first | exact .inl rfl | exact .inr rfl | assumption) :
    JS X W (.Assign [.Name x pos'] (.Dict [] [] dp) pos) (mDNew i) := by
  refine PS.imp (ps_set hN hi hx pe_dnewK hs hf) fun σ H D h => ?_
  obtain ⟨b, G, env, fr, h⟩ := h
  obtain ⟨e2, h2, q⟩ := wpR.store h
  obtain ⟨hl, rfl⟩ := putSl_some h2
  intro p hp
  have g : Grow G H G (upd H p (.dK [])) := .laid' fr.sub hp
  have f1 := fr.grow g
  exact q _ G _ (f1.setDic upd_same .nil (fr.sub.free hp) (fr.h0none hp) (fr.fresh hp) (fr.noNstG (fun c o z => g.keep c o z) hp) hl) (Same.refl _)
/-- x[k] = v -/
def setD (i : Nat) (d k : D) : Ev → Option Ev := fun e => match e[i]?, k with
  | some (.dic kvs), .int j => if kvs.length < sizeLine then some (e.set i (.dic (putD kvs j d))) else none
  | _, _ => none
def mDSet (i : Nat) (mv mk : M D) : MS := mBind mv fun d => fun env => if isDic env i = true then mBind mk (fun k => mStore (setD i d k)) env else .bad
theorem js_dset (i : Nat) {x : Str} {k : Expr} {px sp : Pos} (hu : X.A.units + 1 < cLine) (he : JE X W e mv) (hj : JE X W k mk)
    (hN : X.N[i]? = some x := by rfl) (hv : Vis X.env.scope x := by first | exact Or.inl rfl | exact Or.inr (Or.inl rfl) | exact Or.inr (Or.inr rfl)) (hd : (x == ("__debug__" : Str)) = false := by decide)
    (hcd : (x == ("__classdict__" : Str)) = false := by decide) (hs : swapsWith e (some (.Subscript (.Name x px) k sp)) pos.line X.env = pure false := by rfl) : JS X W (.Assign [.Subscript (.Name x px) k sp] e pos) (mDSet i mv mk) := by
  refine PS.imp (ps_dput hu (pe_var hN hv hd hcd) hj he hs) fun σ H D h => ?_
  obtain ⟨b, G, env, fr, h⟩ := h
  refine tE_one fr h (fun d e1 v G1 H1 fr1 st1 dp1 h2 => ?_) (fun c e he G' H' fr' => he σ G' H' fr')
  split at h2
  case isFalse => exact h2.elim
  rename_i ho
  obtain ⟨kvs0, hk0⟩ := isDic_some ho
  obtain ⟨a, ks0, o1, _⟩ := fr1.holdsD hk0
  refine ⟨_, o1.2, ?_⟩
  refine tE_one fr1 h2 (fun dj e2 vj G2 H2 fr2 st2 dp2 h3 => ?_) (fun c e he G' H' fr' => he σ G' H' fr')
  obtain ⟨e3, h4, q⟩ := wpR.store h3
  unfold setD at h4
  split at h4
  case h_2 => cases h4
  rename_i kvs j hk
  obtain ⟨hl, rfl⟩ := ifS h4
  obtain ⟨a', ks, o2, q1, q2, q3, q4⟩ := fr2.holdsD hk
  have ea := OwnI.uniq (h1 := o2) (h2 := o1)
  subst ea
  cases dt_int dp2
  exact ⟨a', _, rfl, DPut.k (k := .inl j) q1 (by rw [kv_len q2]; exact hl), q σ G2 _ (fr2.changeD hk o2 (put_kv (dp1.mono st2.sub) j q2)) (st1.trans st2).sub⟩
/-- k not in x -/
def notInD (i : Nat) (k : D) : M Bool := fun e => match e[i]?, k with
  | some (.dic kvs), .int j => .ok (!(lookD kvs j).isSome, e)
  | _, _ => .bad
def mDNotIn (i : Nat) (mk : M D) : M Bool := mBind mk (notInD i)
theorem jt_dnotin (i : Nat) {x : Str} {px : Pos} (hu : X.A.units + 1 < cLine) (hj : JE X W a mk) (hm : behindInMarks .NotIn (.Name x px) = false)
    (hN : X.N[i]? = some x := by rfl) (hv : Vis X.env.scope x := by first | exact Or.inl rfl | exact Or.inr (Or.inl rfl) | exact Or.inr (Or.inr rfl)) (hd : (x == ("__debug__" : Str)) = false := by decide)
    (hcd : (x == ("__classdict__" : Str)) = false := by decide) : JT X W (.Compare a [.NotIn] [.Name x px] pos) (mDNotIn i mk) := by
  refine PT.imp (pt_cmp (pc_dnotin hu hj (pe_var hN hv hd hcd)) hm) fun σ H Q h => ?_
  obtain ⟨b, G, env, fr, h⟩ := h
  refine tE_one fr h (fun dj e2 vj G2 H2 fr2 st2 dp2 h3 => ?_) (fun c e he => he)
  unfold notInD at h3
  split at h3
  case h_2 => exact h3.elim
  rename_i kvs j hk
  obtain ⟨a', ks, o2, q1, q2, q3, q4⟩ := fr2.holdsD hk
  cases dt_int dp2
  have h3 := h3 G2 H2 fr2 st2
  have lk := look_kv j q2
  refine ⟨_, o2.2, a', valV ks (.inl j), rfl, DGet.k (k := .inl j) q1, _, rfl, ?_⟩
  have e : (valV ks (Sum.inl j)).isSome = (lookD kvs j).isSome := by
    cases hl : lookD kvs j with
    | none => rw [hl] at lk; rw [lk]; rfl
    | some d => rw [hl] at lk; obtain ⟨v, e, _⟩ := lk; rw [e]; rfl
  rw [e]; exact h3
/-- x[k], a dict of one's own -/
def getDO (i : Nat) (k : D) : M D := fun e => match e[i]?, k with
  | some (.dic kvs), .int j => mOpt (lookD kvs j) e
  | _, _ => .bad
def mDGetO (i : Nat) (mk : M D) : M D := fun env => if isDic env i = true then mBind mk (getDO i) env else .bad
theorem je_dgetO (i : Nat) {x : Str} {px : Pos} (hu : X.A.units + 1 < cLine) (hj : JE X W a mk) (hs : NoSl a)
    (hN : X.N[i]? = some x := by rfl) (hv : Vis X.env.scope x := by first | exact Or.inl rfl | exact Or.inr (Or.inl rfl) | exact Or.inr (Or.inr rfl)) (hd : (x == ("__debug__" : Str)) = false := by decide)
    (hcd : (x == ("__classdict__" : Str)) = false := by decide) : JE X W (.Subscript (.Name x px) a pos) (mDGetO i mk) := by
  refine PE.imp (pe_dget hu (pe_var hN hv hd hcd) hj hs) fun σ H Q h => ?_
  obtain ⟨b, G, env, fr, h⟩ := h
  unfold mDGetO at h
  split at h
  case isFalse => exact h.elim
  rename_i ho
  obtain ⟨kvs0, hk0⟩ := isDic_some ho
  obtain ⟨a, ks0, o1, _⟩ := fr.holdsD hk0
  refine ⟨_, o1.2, ?_⟩
  refine tE_one fr h (fun dj e2 vj G2 H2 fr2 st2 dp2 h3 => ?_) (fun c e he => he)
  unfold getDO at h3
  split at h3
  case h_2 => exact h3.elim
  rename_i kvs j hk
  obtain ⟨d, hd, h4⟩ := wpR.opt h3
  obtain ⟨a', ks, o2, q1, q2, q3, q4⟩ := fr2.holdsD hk
  have ea := OwnI.uniq (h1 := o2) (h2 := o1)
  subst ea
  cases dt_int dp2
  have lk := look_kv j q2
  rw [hd] at lk
  obtain ⟨v, ev, dv⟩ := lk
  exact ⟨a', v, rfl, ev ▸ DGet.k (k := .inl j) q1, h4 v G2 H2 fr2 st2 dv⟩
/-- a dict of one's own, read as the value: it is let go and frozen -/
def mFzD (i : Nat) : M D := fun env => match env[i]? with
  | some (.dic kvs) => .ok (.dict kvs, env.set i .un)
  | _ => .bad
theorem je_fzD (i : Nat) {x : Str} (hN : X.N[i]? = some x := by rfl) (hv : Vis X.env.scope x := by first | exact Or.inl rfl | exact Or.inr (Or.inl rfl) | exact Or.inr (Or.inr rfl)) (hd : (x == ("__debug__" : Str)) = false := by decide)
    (hcd : (x == ("__classdict__" : Str)) = false := by decide) : JE X W (.Name x pos) (mFzD i) := by
  refine PE.imp (pe_lockP (pe_var hN hv hd hcd)) fun σ H Q h => ?_
  obtain ⟨b, G, env, fr, h⟩ := h
  unfold mFzD at h
  split at h
  case h_2 => exact h.elim
  rename_i kvs hi
  obtain ⟨a, ks, e, h1, r⟩ := fr.letGoD hi
  refine ⟨_, e, a, _, rfl, h1, trivial, fun od => ?_⟩
  obtain ⟨f, s, d⟩ := r od
  exact h _ _ _ f s d
end
end DL

namespace DL
open PySem PySem.Spec PyProof.Rows L2
/-! ## dicts as data -/
theorem noneD_map {P : Program} {w : World} {h : Heap} {a : Addr} {x : V} (d : noneD a x h) : ∃ u f, RelV x u ∧ h.MapOf (noneKind P w) a f ∧ f none = some u := by
  obtain ⟨_, o, en, ep, h1, h2, h3, h4, h5, h6⟩ := d
  refine ⟨en.val, fun k => findBy (noneKind P w).is #[en] k, h6, ⟨o, #[en], ep, h1, h2, h3, fun e he => ?_, fun k => rfl⟩, ?_⟩
  · have : e = en := by simpa using he
    subst this
    exact ⟨none, by rw [h4]; rfl, h5⟩
  · show ((#[en] : Array DictEntry).find? fun e => nkIs none e.key).map (·.val) = some en.val
    simp [h4, nkIs]
/-- d[k] -/
def rDG : R2 := fun x y H Q => (∃ a v, x = .ref a ∧ DGet H a y (some v) ∧ Q v H) ∨ ∃ a o v, x = .ref a ∧ y = .non ∧ H a = some (.frz o (.ext (noneD a v))) ∧ Q v H
section
variable {X : Cx} {W : WX} {a b c e : Expr} {es : List Expr} {ma mb mc mk mv : M D} {ml : M (List D)} {mt : M Bool} {pos p p2 : Pos} {td ty : TE}
theorem pe_dgetN (hu : X.A.units + 1 < cLine) (ho : PE X a td) (hi : PE X b ty) (hs : NoSl b) : PE X (.Subscript a b pos) (tOp rDG td ty) := by
  refine ⟨fun pins s σ H Q I h => ?_⟩
  refine subD_of PySem.F.slot_dict_getitem.lookup hs (thn (ho.run pins s σ H _ I h) fun u s1 ⟨x, H1, I1, rx, q1⟩ => thn (hi.run pins s1 σ H1 _ I1 q1) fun iv s2 ⟨y, H2, I2, ry, q⟩ => ?_)
  rcases q with ⟨a, v, ex, g, q2⟩ | ⟨a, o, v, ex, ey, ha, q2⟩
  · subst ex
    obtain rfl : u = Value.ref a := rx
    exact ⟨dict_typeIs I2 g, d_getItem hu I2 g ry fun w' s3 I3 rw' => ⟨v, H2, I3, rw', q2⟩⟩
  · subst ex ey
    obtain rfl : u = Value.ref a := rx
    obtain rfl : iv = Value.none := ry
    obtain ⟨_, hx, _⟩ := (show ObjOk X.prog X.w H2 s2.heap a (.frz o (.ext (noneD a v))) from I2.hok a _ ha)
    obtain ⟨w', f, rw', hm, hf⟩ := noneD_map (P := X.prog) (w := X.w) hx
    exact ⟨hm.typeIs, wpAny_getItem_of (show (noneKind X.prog X.w).is none .none = true from rfl) hm hf ⟨v, H2, I2.tok _, rw', q2⟩⟩
def dGetD : D → D → Option D
  | .dict kvs, .int j => lookD kvs j
  | .dict [(.none, d)], .none => some d
  | _, _ => none
theorem dGetD_ok : OpD rDG dGetD := by
  intro G H x y dx dy d Q s hx hy e q
  unfold dGetD at e
  split at e
  · rename_i kvs j
    cases dt_int hy
    cases hx with
    | dic hr ha =>
      have lk := look_kv j ha
      rw [e] at lk
      obtain ⟨v, ev, dv⟩ := lk
      exact .inl ⟨_, v, rfl, .inl ⟨_, .inl j, .inr ⟨_, s _ _ hr⟩, rfl, ev.symm⟩, q v G H (.refl s) dv⟩
    | dicN hr ha => cases e
  · cases hy
    cases hx with
    | dic hr ha => cases ha
    | dicN hr ha =>
      cases e
      exact .inr ⟨_, _, _, rfl, rfl, s _ _ hr, q _ G H (.refl s) ha⟩
  · cases e
theorem je_dget (hu : X.A.units + 1 < cLine) (ha : JE X W a ma) (hb : JE X W b mb) (hs : NoSl b) : JE X W (.Subscript a b pos) (mOp dGetD ma mb) :=
  PE.imp (pe_dgetN hu ha hb hs) fun _ _ _ h => tOp_of dGetD_ok h
/-- k in d -/
def dInD : D → D → Option Bool
  | _, .dict [(.none, _)] => none
  | .int j, .dict kvs => some (lookD kvs j).isSome
  | _, _ => none
def mDIn (mk ma : M D) : M Bool := mBind mk fun k => mBind ma fun d => mOpt (dInD k d)
theorem jt_dinD (hu : X.A.units + 1 < cLine) (hb : JE X W b mk) (ha : JE X W a ma) (hm : behindInMarks .In a = false) : JT X W (.Compare b [.In] [a] pos) (mDIn mk ma) := by
  refine PT.imp (pt_cmp (pc_din hu hb ha) hm) fun σ H Q h => ?_
  obtain ⟨b, G, env, fr, h⟩ := h
  refine tE_one fr h (fun d e1 v G1 H1 fr1 st1 dp1 h1 => tE_one fr1 h1 (fun d2 e2 v2 G2 H2 fr2 st2 dp2 h2 => ?_) (fun c e he => he)) (fun c e he => he)
  obtain ⟨z, hz, h3⟩ := wpR.opt h2
  unfold dInD at hz
  split at hz
  · cases hz
  · rename_i j kvs hn
    cases hz
    cases dt_int dp1
    cases dp2 with
    | dic hr ha =>
      rename_i ks
      have lk := look_kv j ha
      refine ⟨_, valV ks (.inl j), rfl, .inl ⟨_, .inl j, .inr ⟨_, fr2.sub _ _ hr⟩, rfl, rfl⟩, _, rfl, ?_⟩
      have e : (valV ks (Sum.inl j)).isSome = (lookD kvs j).isSome := by
        cases hl : lookD kvs j with
        | none => rw [hl] at lk; rw [lk]; rfl
        | some d => rw [hl] at lk; obtain ⟨v, e, _⟩ := lk; rw [e]; rfl
      rw [e]; exact h3 G2 H2 fr2 (st1.trans st2)
    | dicN hr ha => exact absurd rfl (hn _)
  · cases hz
/-! walks -/
def ItN (d : Addr) (o : Obj) (x : V) : It := ⟨fun i H => H d = some (.frz o (.ext (noneD d x))) ∧ i < 1, fun i H y H' => H' = H ∧ y = .non, fun i H => H d = some (.frz o (.ext (noneD d x))) ∧ 1 ≤ i⟩
theorem turn_keysN {P : Program} {w : World} {K : PySem.W.Frag} {tg : Expr} {d : Addr} {o : Obj} {es : Array DictEntry} {ep : Nat} {x : V} (it : Addr) (hod : o.data = .dict es ep) : Turn P w K tg (ItN d o x) [it] it (fun i h => h.IsKeyIter it d i 1 ep) where
  mem := by simp
  obj := fun i h st b hb => by
    have e : b = it := by simpa using hb
    subst e
    obtain ⟨oi, e, c, dd⟩ := st
    exact ⟨oi, e, fun v z => by rw [dd] at z; cases z⟩
  keep := fun i h h' st k => st.at fun oi e => k it (by simp) oi e
  item := by
    intro X hP hw hK hc i pins s σ H E I hf st hg
    subst hP hw hK
    obtain ⟨hd, hi⟩ := hg
    obtain ⟨f0, f1, f2, f3, f4, f5⟩ := hf it (by simp)
    obtain ⟨hgd, ⟨_, o2, en, ep2, h2, h3, h4, h5, _⟩, _⟩ := (show ObjOk X.prog X.w H s.heap d (.frz o (.ext (noneD d x))) from I.hok d _ hd)
    rw [hgd] at h2; cases h2
    obtain ⟨rfl, rfl⟩ := dict_ep hod h4
    have ei : i = 0 := by omega
    subst ei
    refine next_key_item (en := en) st hgd h4 rfl rfl fun h' st' sb => ?_
    have I1 : Inv X pins σ H { s with heap := h' } := I.turned (t' := s.toks) (fun b ob hb e => (sb.2 b hb).trans e) f0 f1 f3 f4 f5
    obtain ⟨oi, e, c, dd⟩ := id st'
    rw [h5]
    exact ⟨.none, rfl, go_of (s := { s with heap := h' }) e c dd (by decide) ⟨.non, H, I1, rfl, ⟨rfl, rfl⟩, st', fun b hb => (hf b hb).1⟩⟩
  done := by
    intro X hP hw hK hc i pins s σ H E I hf st hg
    subst hP hw hK
    obtain ⟨hd, hi⟩ := hg
    obtain ⟨f0, f1, f2, f3, f4, f5⟩ := hf it (by simp)
    obtain ⟨hgd, ⟨_, o2, en, ep2, h2, h3, h4, h5, _⟩, _⟩ := (show ObjOk X.prog X.w H s.heap d (.frz o (.ext (noneD d x))) from I.hok d _ hd)
    rw [hgd] at h2; cases h2
    obtain ⟨rfl, rfl⟩ := dict_ep hod h4
    exact next_key_end (I.ok.hd hc) st hgd h4 rfl hi fun h' eb => ⟨rfl, I.turned (t' := s.toks) (fun b ob hb e => eb b ob hb e) f0 f1 f3 f4 f5⟩
  self := fun A i s Q E st h => wpAny_pyIter_keyiter st h
def iKeysN (td : TE) : TI := fun σ H R => td σ H fun x H1 => ∃ d o, x = .ref d ∧ ((∃ kvs, H1 d = some (.frz o (.dK kvs)) ∧ R (Itk d o kvs) H1) ∨ ∃ y, H1 d = some (.frz o (.ext (noneD d y))) ∧ R (ItN d o y) H1)
theorem pi_keysN {tg : Expr} (he : PE X e td) : PI X tg e (iKeysN td) := by
  refine ⟨fun pins s σ H R I h => ?_⟩
  refine thn (he.run pins s σ H _ I h) fun u s1 ⟨x, H1, I1, rx, d, o, ex, q⟩ => ?_
  subst ex
  obtain rfl : u = Value.ref d := rx
  rcases q with ⟨kvs, hd, q⟩ | ⟨y, hd, q⟩
  · obtain ⟨hs, hgd, hx, es, ep, vs, hdt, hsz, kv, hm⟩ := I1.frzK hd
    refine iter_keys hs hgd hx hdt (pi_one (tk := s1.toks) I1 _ (turn_keys _ hdt) ⟨_, Heap.get?_push_size _ rfl, rfl, ?_⟩ q)
    rw [hsz] <;> rfl
  · obtain ⟨hgd, ⟨hs, o2, en, ep2, h2, h3, h4, h5, _⟩, _⟩ := (show ObjOk X.prog X.w H1 s1.heap d (.frz o (.ext (noneD d y))) from I1.hok d _ hd)
    rw [hgd] at h2; cases h2
    exact iter_keys hs hgd h3 h4 (pi_one (tk := s1.toks) I1 _ (turn_keysN _ h4) ⟨_, Heap.get?_push_size _ rfl, rfl, rfl⟩ q)
def dKeys : D → Option (List D)
  | .dict kvs => some (kvs.map (·.1))
  | _ => none
def mKeys (ma : M D) : M (List D) := mBind ma fun d => mOpt (dKeys d)
theorem kv_key {G : Hp} : ∀ {ks : List (Key × V)} {ds : List (D × D)} {i : Nat} {k : Key} {v : V}, DtKv G ks ds → ks[i]? = some (k, v) → ∀ d, (ds.map (·.1))[i]? = some d → Dt G (kV k) d
  | _, _, i, k, v, .nil, h, _, _ => by simp at h
  | _, _, 0, k, v, .cons j hd t, h, d, e => by
    simp at h e
    obtain ⟨rfl, _⟩ := h
    subst e
    exact .int j
  | _, _, i + 1, k, v, .cons j hd t, h, d, e => kv_key (i := i) t (by simpa using h) d (by simpa using e)
theorem ji_keys {tg : Expr} (ha : JE X W e ma) : JI X W tg e (mKeys ma) := by
  refine PI.imp (pi_keysN ha) fun σ H R h => ?_
  obtain ⟨b, G, env, fr, h⟩ := h
  refine tE_one fr h (fun d e1 v G1 H1 fr1 st1 dp1 h1 => ?_) (fun c e he => he)
  obtain ⟨z, hz, h3⟩ := wpR.opt h1
  unfold dKeys at hz
  split at hz
  · cases hz
    cases dp1 with
    | dic hr hd =>
      refine ⟨_, _, rfl, .inl ⟨_, fr1.sub _ _ hr, h3 _ G1 H1 fr1 st1 ⟨fun i H s hi => ⟨s _ _ hr, by rw [kv_len hd]; simpa using hi⟩, fun i H s hi => ⟨s _ _ hr, by rw [kv_len hd]; simpa using hi⟩, fun i H G2 x H' s1 s2 hy d hdd => ?_⟩⟩⟩
      obtain ⟨rfl, k, v, hk, rfl⟩ := hy
      exact ⟨G2, .refl s2, (kv_key hd hk d hdd).mono s1⟩
    | dicN hr hd =>
      refine ⟨_, _, rfl, .inr ⟨_, fr1.sub _ _ hr, h3 _ G1 H1 fr1 st1 ⟨fun i H s hi => ⟨s _ _ hr, hi⟩, fun i H s hi => ⟨s _ _ hr, hi⟩, fun i H G2 x H' s1 s2 hy d hdd => ?_⟩⟩⟩
      obtain ⟨rfl, rfl⟩ := hy
      have ei : i = 0 := by
        have := (List.getElem?_eq_some_iff.mp hdd).1
        simp at this; exact this
      subst ei
      simp at hdd
      subst hdd
      exact ⟨G2, .refl s2, .non⟩
  · cases hz
/-! {k: v} -/
theorem noneD_of {P : Program} {w : World} {h : Heap} {a : Addr} {x : V} {u : Value} (hs : (a == sysModules) = false) (d : h.DictOf (noneKind P w) a [(none, u)]) (r : RelV x u) : noneD a x h := by
  obtain ⟨o, es, ep, h1, h2, h3, h4, h5, _⟩ := d
  refine ⟨hs, o, ?_⟩
  generalize hl : es.toList = l at h5
  cases h5 with
  | cons q1 q2 q3 =>
    rename_i en es'
    cases q3
    have he : es = #[en] := by rw [← Array.toArray_toList (xs := es), hl]
    subst he
    obtain ⟨k, k1, k2⟩ := h4 en (by simp)
    have key : en.key = .none := nk_none q1
    have kn : k = none := by
      have q1' : nkIs none en.key = true := q1
      exact (noneKind P w).inj en.key k none k1 q1'
    subst kn
    exact ⟨en, ep, h1, h2, h3, key, k2, by rw [q2]; exact r⟩
def tDisp1 (tk tv : TE) : TE := fun σ H Q => ∀ p, H p = none → tk σ (upd H p (.dK [])) fun y H1 => tv σ H1 fun v H2 => H2 p = some (.dK []) ∧ ((∃ k : Key, y = kV k ∧ Q (.ref p) (upd H2 p (.dK [(k, v)]))) ∨ (y = .non ∧ Q (.ref p) (upd H2 p (.ext (noneD p v)))))
theorem mixD_of {P : Program} {w : World} {h : Heap} {a : Addr} {k : Key} {u : Value} (d : h.DictOf (noneKind P w) a [(some k, u)]) : h.DictOf (mixKind P w) a [(k, u)] := by
  obtain ⟨o, es, ep, h1, h2, h3, h4, h5, _⟩ := d
  refine ⟨o, es, ep, h1, h2, h3, ?_, ?_, by simp⟩
  · intro e he
    generalize hl : es.toList = l at h5
    cases h5 with
    | cons q1 q2 q3 =>
      cases q3
      have : e ∈ es.toList := by simpa using he
      rw [hl] at this
      have : e = _ := List.mem_singleton.mp this
      subst this
      obtain ⟨k', k1, k2⟩ := h4 e he
      have kn : k' = some k := (noneKind P w).inj e.key k' (some k) k1 q1
      subst kn
      exact ⟨k, k1, k2⟩
  · generalize es.toList = l at h5
    cases h5 with
    | cons q1 q2 q3 =>
      cases q3
      exact .cons q1 q2 .nil
theorem pe_disp1 {tk tv : TE} (hk : PE X a tk) (hv : PE X b tv) : PE X (.Dict [some a] [b] pos) (tDisp1 tk tv) := by
  refine ⟨fun pins s σ H Q I q => ?_⟩
  have hn := I.hok.fresh (Nat.le_refl s.heap.objs.size)
  have I1 := I.laid (a := s.heap.objs.size) (o := .dK []) (h' := s.heap.push { cls := .type "dict", data := .dict #[] }) (t' := s.toks) (fun _ _ q => Heap.get?_push_of_some _ q) (Nat.le_refl _) (dk_empty s.heap I.big)
  refine wpAny_Dict_walk (knd := noneKind X.prog X.w) rfl rfl (by simp) (by simp) (pairTrees_cons_walk (thn (hk.run pins _ σ _ _ I1 (q _ hn)) fun u s2 ⟨y, H2, I2, ry, q2⟩ => thn (hv.run pins s2 σ H2 _ I2 q2) fun u2 s3 ⟨v, H3, I3, rv, e, q3⟩ => pairTrees_nil_walk ?_))
  obtain ⟨z, hd, vs0, r0, dd⟩ := dk_of I3.hok e
  cases r0
  have d0 : s3.heap.DictOf (noneKind X.prog X.w) s.heap.objs.size [] := by
    obtain ⟨o, es, ep, h1, h2, h3, h4, h5, h6⟩ := dd
    refine ⟨o, es, ep, h1, h2, h3, ?_, ?_, List.nodup_nil⟩
    · generalize hl : es.toList = l at h5
      cases h5
      intro e he
      have : e ∈ es.toList := by simpa using he
      rw [hl] at this; cases this
    · generalize es.toList = l at h5
      cases h5
      exact .nil
  have he : ∀ {h' : Heap} {kvs : List (Option Key × Value)}, h'.DictOf (noneKind X.prog X.w) s.heap.objs.size kvs → ∃ q, h'.get? s.heap.objs.size = some q := fun dd' => let ⟨q, _, _, hq, _⟩ := dd'; ⟨q, hq⟩
  rcases q3 with ⟨k, ey, q3⟩ | ⟨ey, q3⟩
  · subst ey
    refine ⟨[(some k, u2)], ⟨kV_is (P := X.prog) (w := X.w) ry, rfl, trivial⟩, d0, fun h' dd' hs => ⟨.ref s.heap.objs.size, _, ?_, rfl, q3⟩⟩
    exact d_write I3 (by rw [e]; exact True.intro) hs (he dd') (dk_new (vs := [(k, u2)]) (by show 1 ≤ sizeLine; decide) hd (.cons ⟨rfl, rv⟩ .nil) (mixD_of dd'))
  · subst ey
    obtain rfl : u = Value.none := ry
    refine ⟨[(none, u2)], ⟨rfl, rfl, trivial⟩, d0, fun h' dd' hs => ⟨.ref s.heap.objs.size, _, ?_, rfl, q3⟩⟩
    refine d_write I3 (by rw [e]; exact True.intro) hs (he dd') ⟨noneD_of hd dd' rv, he dd', fun h1 h2 hφ hkeep => ?_⟩
    obtain ⟨g1, o, en, ep, g2, g3⟩ := hφ
    exact ⟨g1, o, en, ep, hkeep o g2, g3⟩
def mDict1 (mk mv : M D) : M D := mBind mk fun k => mBind mv fun v => mOpt (match k with
  | .int j => some (.dict [(.int j, v)])
  | .none => some (.dict [(.none, v)])
  | _ => none)
theorem je_dict1 (hk : JE X W a mk) (hv : JE X W b mv) : JE X W (.Dict [some a] [b] pos) (mDict1 mk mv) := by
  refine PE.imp (pe_lockP (pe_disp1 hk hv)) fun σ H Q h => ?_
  obtain ⟨b, G, env, fr, h⟩ := h
  intro p hp
  have g : Grow G H G (upd H p (.dK [])) := .laid' fr.sub hp
  have f1 := fr.grow g
  have hg : G p = none := fr.sub.free hp
  have h0 := fr.h0none hp
  have nn0 : NoNst σ env (upd H p (.dK [])) p := fr.noNstG (fun c o z => g.keep c o z) hp
  have no0 := fr.fresh hp
  refine tE_one f1 h (fun d e1 v1 G1 H1 fr1 st1 dp1 h1 => tE_one fr1 h1 (fun d2 e2 v2 G2 H2 fr2 st2 dp2 h2 => ?_) (fun c e he => he)) (fun c e he => he)
  obtain ⟨z, hz, h3⟩ := wpR.opt h2
  have st := st1.trans st2
  have hp2 : H2 p = some (.dK []) := st.keep p _ upd_same no0
  have no2 : ¬ OwnAt σ e2 p := fun z => no0 (st.own p z)
  have nn2 := st.nn p nn0
  have hg2 : G2 p = none := by
    cases q : G2 p with
    | none => rfl
    | some o =>
      rcases st.new p o q with z | z | z
      · rw [hg] at z; cases z
      · rw [upd_same] at z; cases z
      · exact absurd z no0
  have stH : Step σ env e2 G H G2 H2 := (Step.grow g).trans st
  have fin : ∀ o', Fr X.K b (upd G2 p o') (upd (upd H2 p o') p o') σ e2 → True := fun _ _ => trivial
  refine ⟨hp2, ?_⟩
  cases d with
  | int j =>
    cases hz
    cases dt_int dp1
    refine .inl ⟨.inl j, rfl, p, _, rfl, upd_same, trivial, fun od => ?_⟩
    obtain ⟨q1, q2⟩ := laid_frz (o' := .frz od (.dK [(.inl j, v2)])) fr2 stH hp hp2 hg2 h0 no2 nn2
    rw [upd_upd]
    exact h3 _ _ _ q1 q2 (.dic upd_same (.cons j (dp2.mono (sub_upd hg2)) .nil))
  | none =>
    cases hz
    cases dp1
    refine .inr ⟨rfl, p, _, rfl, upd_same, trivial, fun od => ?_⟩
    obtain ⟨q1, q2⟩ := laid_frz (o' := .frz od (.ext (noneD p v2))) fr2 stH hp hp2 hg2 h0 no2 nn2
    rw [upd_upd]
    exact h3 _ _ _ q1 q2 (.dicN upd_same (dp2.mono (sub_upd hg2)))
  | _ => cases hz
end
end DL

namespace DL
open PySem PySem.Spec PyProof.Rows L2
/-! ## dict comprehensions -/
def compDL (vs : List Nat) (g : GT) (mt : M Bool) (mk mv : M D) : List D → List (D × D) → Ev → Res Ev (List (D × D) × Ev)
  | [], acc, e => .ok (acc, e)
  | d :: r, acc, e => match g d e with
    | none => .bad
    | some e1 => match mt e1 with
      | .ok (true, e2) => (match mk e2 with
        | .ok (.int j, e3) => (match mv e3 with
          | .ok (y, e4) => if acc.length < sizeLine then compDL vs g mt mk mv r (putD acc j y) (wipeE e4 vs) else .bad
          | _ => .bad)
        | _ => .bad)
      | .ok (false, e2) => compDL vs g mt mk mv r acc (wipeE e2 vs)
      | _ => .bad
def mDComp (mi : M (List D)) (vs : List Nat) (g : GT) (mt : M Bool) (mk mv : M D) : M D := mBind mi fun ds e => match compDL vs g mt mk mv ds [] (wipeE e vs) with
  | .ok (acc, e') => .ok (.dict acc, restE e vs e')
  | _ => .bad
structure CInvD (K : PySem.W.Frag) (b : Bs) (σ : St) (vs : List Nat) (eW : Ev) (G1 H1 : Hp) (L : Addr) (acc : List (D × D)) (G H : Hp) (env : Ev) : Prop where
  fr : Fr K b G H (wipe σ vs) env
  st : Step (wipe σ vs) eW env G1 H1 G H
  at_ : ∃ us, H L = some (.dK us) ∧ DtKv G us acc
  nof : G L = none
section
variable {X : Cx} {W : WX} {tg a b c e e2 : Expr} {es : List Expr} {ma mb mc : M D} {ml : M (List D)} {mt : M Bool} {ms mn : MS} {st : Stmt} {sts ss : List Stmt} {pos p p2 : Pos}
theorem dcomp_read {mi : M (List D)} {vs ks : List Nat} {g : GT} {mk me : M D} {K : PySem.W.Frag} {b : Bs} {G : Hp} {env : Ev} {σ : St} {H : Hp} {Q : VK} {R : D → Ev → Prop} {Ee : Str → Ev → Prop}
    (hk : ∀ k ∈ ks, k ∈ vs) (T : TgOk ks g) (fr : Fr K b G H σ env) (h : wpR (mDComp mi vs g mt mk me env) R Ee)
    (hq : ∀ d e' v G' H', Fr K b G' H' σ e' → Step σ env e' G H G' H' → Dt G' v d → R d e' → Q v H') (he : ∀ c e1, Ee c e1 → ∀ G' H', Fr K b G' H' σ e1 → W (clsV K c) none σ H') :
    tLockP (tDc (tIt K W mi) (tGt K ks g) (tT K WF mt) (tE K WF mk) (tE K WF me) vs) σ H Q := by
  refine ⟨b, G, env, fr, (wpR.bind h).mono (fun ds e1 h1 J G1 H1 fr1 st1 F => ?_) he⟩
  intro L hL
  have hL0 : b.H0 L = none := fr1.h0none hL
  -- the end
  cases hc : compDL vs g mt mk me ds [] (wipeE e1 vs) with
  | bad => rw [hc] at h1; exact h1.elim
  | exc c e => rw [hc] at h1; exact h1.elim
  | ok q =>
    obtain ⟨acc0, e0⟩ := q
    rw [hc] at h1
    refine ⟨fun i m H' => m = ds.length - i ∧ i ≤ ds.length ∧ ∃ acc G' env', CInvD K b σ vs (wipeE e1 vs) G1 H1 L acc G' H' env' ∧ compDL vs g mt mk me (ds.drop i) acc env' = .ok (acc0, e0), ⟨ds.length, rfl, Nat.zero_le _, [], G1, wipeE e1 vs, ⟨?_, ?_, ⟨[], upd_same, .nil⟩, fr1.sub.free hL⟩, hc⟩, ?_⟩
    · exact (fr1.wipe vs).grow (.laid' fr1.sub hL)
    · exact .grow (.laid' fr1.sub hL)
    rintro i m H2 ⟨rfl, hle, acc, G2, ev, C, hcc⟩
    have sG : Sub G1 H2 := C.st.sub.trans C.fr.sub
    have hLn : H1 L = none := hL
    by_cases hlt : i < ds.length
    · refine .inr ⟨F.go i H2 sG hlt, fun H' => i < ds.length ∧ ∃ acc G' env', CInvD K b σ vs (wipeE e1 vs) G1 H1 L acc G' H' env' ∧ compDL vs g mt mk me (ds.drop (i + 1)) acc env' = .ok (acc0, e0), fun H' ⟨_, acc', G', env', C', h'⟩ => ⟨ds.length - (i + 1), by omega, rfl, hlt, acc', G', env', C', h'⟩, fun x H3 y => ?_⟩
      have hd : ds[i]? = some ds[i] := List.getElem?_eq_getElem hlt
      obtain ⟨G3, g3, dx⟩ := F.yld i H2 G2 x H3 C.st.sub C.fr.sub y _ hd
      rw [List.drop_eq_getElem_cons hlt] at hcc
      unfold compDL at hcc
      cases hgd : g ds[i] ev with
      | none => rw [hgd] at hcc; cases hcc
      | some e3 =>
        rw [hgd] at hcc
        obtain ⟨us, q1, q2⟩ := C.at_
        have noL : ¬ OwnAt (wipe σ vs) ev L := fun z => (fr1.wipe vs).fresh hLn (C.st.own L z)
        have fr3 := C.fr.grow g3
        have st3 : Step (wipe σ vs) (wipeE e1 vs) ev G1 H1 G3 H3 := C.st.trans (.grow g3)
        have L3 : H3 L = some (.dK us) := g3.keep _ _ q1
        have n3 : G3 L = none := by
          cases q : G3 L with
          | none => rfl
          | some o =>
            rcases g3.new L o q with z | z
            · rw [C.nof] at z; cases z
            · rw [q1] at z; cases z
        refine ⟨b, G3, ev, ds[i], e3, fr3, dx, hgd, fun σ2 fr4 so => ?_⟩
        have ws : wipe σ2 vs = wipe σ vs := (wipe_same so hk).trans wipe_wipe
        refine ⟨ws, ?_⟩
        have no4 : ¬ OwnAt σ2 e3 L := fun z => noL (own_step (K := K) (G := G3) (H := H3) T hgd so z)
        have own4 : ∀ c, OwnAt σ2 e3 c → OwnAt (wipe σ vs) ev c := fun c z => own_step (K := K) (G := G3) (H := H3) T hgd so z
        refine ⟨b, G3, e3, fr4, ?_⟩
        -- a step of the block, seen from its start
        have back : ∀ {ex : Ev} {Gx Hx : Hp}, Step σ2 e3 ex G3 H3 Gx Hx → Step (wipe σ vs) (wipeE e1 vs) (wipeE ex vs) G1 H1 Gx Hx := fun {ex Gx Hx} sx => by
          refine st3.trans ⟨sx.sub, fun c o hc hn => sx.keep c o hc fun z => hn (own4 c z), sx.dom, fun c o hc => ?_, fun c ⟨j, hj⟩ => ?_, fun x n => ws ▸ (sx.nn x (nn_step T hgd so n)).wipe vs⟩
          · rcases sx.new c o hc with z | z | z
            · exact .inl z
            · exact .inr (.inl z)
            · exact .inr (.inr (own4 c z))
          · rw [← ws] at hj
            exact own4 c (sx.own c ⟨j, ownI_wipe hj⟩)
        have keepL : ∀ {ex : Ev} {Gx Hx : Hp}, Step σ2 e3 ex G3 H3 Gx Hx → Hx L = some (.dK us) ∧ Gx L = none ∧ ¬ OwnAt σ2 ex L := fun {ex Gx Hx} sx => by
          refine ⟨sx.keep L _ L3 no4, ?_, fun z => no4 (sx.own L z)⟩
          cases q : Gx L with
          | none => rfl
          | some o =>
            rcases sx.new L o q with z | z | z
            · rw [n3] at z; cases z
            · rw [L3] at z; cases z
            · exact absurd z no4
        simp only at hcc
        cases hm : mt e3 with
        | bad => rw [hm] at hcc; cases hcc
        | exc c e => rw [hm] at hcc; cases hcc
        | ok q =>
          obtain ⟨kb, e4⟩ := q
          rw [hm] at hcc
          intro G4 H4 fr5 st5
          obtain ⟨L4, n4, no5⟩ := keepL st5
          cases kb with
          | false =>
            rw [if_neg Bool.false_ne_true]
            exact ⟨hlt, acc, G4, wipeE e4 vs, ⟨ws ▸ fr5.wipe vs, back st5, ⟨us, L4, dtKv_mono (g3.sub.trans st5.sub) _ _ q2⟩, n4⟩, hcc⟩
          | true =>
            rw [if_pos rfl]
            refine ⟨b, G4, e4, fr5, ?_⟩
            simp only at hcc
            cases hmk : mk e4 with
            | bad => rw [hmk] at hcc; cases hcc
            | exc c e => rw [hmk] at hcc; cases hcc
            | ok q =>
            obtain ⟨yk, e5⟩ := q
            rw [hmk] at hcc
            cases yk with
            | int j =>
              intro vk G5 H5 fr6 st6 dk
              obtain rfl := dt_int dk
              refine ⟨b, G5, e5, fr6, ?_⟩
              simp only at hcc
              cases hme : me e5 with
              | bad => rw [hme] at hcc; cases hcc
              | exc c e => rw [hme] at hcc; cases hcc
              | ok q =>
                obtain ⟨y, e6⟩ := q
                rw [hme] at hcc
                intro v G6 H6 fr7 st7 dv
                have stT := (st5.trans st6).trans st7
                obtain ⟨L6, n6, no6⟩ := keepL stT
                have nn6 : NoNst σ2 e6 H6 L := stT.nn L (nn_step T hgd so (st3.nn L ((fr1.wipe vs).noNst hLn)))
                simp only at hcc
                split at hcc
                case isFalse => cases hcc
                rename_i hsz
                have q5 : DtKv G6 us acc := dtKv_mono (g3.sub.trans stT.sub) _ _ q2
                refine ⟨us, .inl j, rfl, L6, by rw [kv_len q2]; exact hsz, hlt, putD acc j y, G6, wipeE e6 vs, ⟨?_, ?_, ⟨putK us (.inl j) v, upd_same, put_kv dv j q5⟩, n6⟩, hcc⟩
                · exact ws ▸ (fr7.updOff (o := .dK (putK us (.inl j) v)) no6 nn6 n6 hL0).wipe vs
                · have sb := back stT
                  refine ⟨sb.sub, fun c o hc hn => ?_, fun c hc q => ?_, sb.new, sb.own, fun x n i rows hi => ?_⟩
                  · rw [upd_ne (ne_of_none hc hLn)]; exact sb.keep c o hc hn
                  · by_cases e : c = L
                    · subst e; rw [upd_same] at q; cases q
                    · rw [upd_ne e] at q; exact sb.dom c hc q
                  · obtain ⟨c, rs, z1, z2, z3⟩ := sb.nn x n i rows hi
                    have nL := ((back stT).nn L (((fr1.wipe vs).noNst hLn))).at hi z1 z2
                    exact ⟨c, rs, z1, by rw [upd_ne (Ne.symm nL.1)]; exact z2, z3⟩
            | _ => cases hcc
    · have e : i = ds.length := by omega
      subst e
      rw [List.drop_length] at hcc
      unfold compDL at hcc
      cases hcc
      refine .inl ⟨F.stop _ H2 sG (Nat.le_refl _), ?_⟩
      have h1' : R (.dict acc0) (restE e1 vs e0) := h1
      obtain ⟨us, q1, q2⟩ := C.at_
      have fr9 : Fr K b G2 H2 σ (restE e1 vs e0) := C.fr.rest fr1 C.st.sub
      have ownR : ∀ c, OwnAt σ (restE e1 vs e0) c → OwnAt σ e1 c := fun c ⟨j, hj⟩ => by
        obtain ⟨j2, hj2⟩ := C.st.own c ⟨j, ownI_rest hj⟩
        exact ⟨j2, ownI_wipe hj2⟩
      have st9 : Step σ e1 (restE e1 vs e0) G1 H1 G2 H2 := by
        refine ⟨C.st.sub, fun c o hc hn => C.st.keep c o hc fun ⟨j, hj⟩ => hn ⟨j, ownI_wipe hj⟩, C.st.dom, fun c o hc => ?_, ownR, fun x n => (C.st.nn x (n.wipe vs)).rest⟩
        rcases C.st.new c o hc with z | z | ⟨j, hj⟩
        · exact .inl z
        · exact .inr (.inl z)
        · exact .inr (.inr ⟨j, ownI_wipe hj⟩)
      have hLH : H L = none := by
        cases q : H L with
        | none => rfl
        | some o => exact absurd hLn (st1.dom L (by rw [q]; intro z; cases z))
      refine ⟨L, .dK us, rfl, q1, trivial, fun od => ?_⟩
      obtain ⟨w1, w2⟩ := laid_frz (o' := .frz od (.dK us)) fr9 (st1.trans st9) hLH q1 C.nof hL0 (fun z => fr1.fresh hLn (ownR L z)) (st9.nn L (fr1.noNst hLn))
      exact hq _ _ _ _ _ w1 w2 (.dic upd_same (dtKv_mono (sub_upd C.nof) _ _ q2)) h1'
theorem je_dcomp {iter kx vx : Expr} {ifs : List Expr} {scope : Scope} {own : List (Str × Nat)} {mi : M (List D)} {ks : List Nat} {g : GT} {mk me : M D} (hc : X.calm = true) (hN : X.N.Nodup) (hi : JI X W tg iter mi) (ok : BlkOk X.N X.env.scope scope own)
    (hg : ∀ (s : Shared) (H : Hp) (C : Addr) (cl : List (Str × Addr)) (fp : List Addr), JG (X.blk s H scope (compEnvC scope cl C X.env) fp) tg ks g) (ht : ∀ (s : Shared) (H : Hp) (C : Addr) (cl : List (Str × Addr)) (fp : List Addr), JTs (X.blk s H scope (compEnvC scope cl C X.env) fp) WF ifs mt)
    (hkx : ∀ (s : Shared) (H : Hp) (C : Addr) (cl : List (Str × Addr)) (fp : List Addr), JE (X.blk s H scope (compEnvC scope cl C X.env) fp) WF kx mk)
    (hel : ∀ (s : Shared) (H : Hp) (C : Addr) (cl : List (Str × Addr)) (fp : List Addr), JE (X.blk s H scope (compEnvC scope cl C X.env) fp) WF vx me) (hk : ∀ k ∈ ks, k ∈ own.map (·.2)) (T : TgOk ks g)
    (hs : ∀ x, foldedSetIterable iter X.env x = pure x := by intro _; rfl) :
    JE X W (.DictComp kx vx [⟨tg, iter, ifs, 0⟩] scope pos) (mDComp mi (own.map (·.2)) g mt mk me) := by
  refine PE.imp (pe_lockP (pe_dc (tv := tE X.K WF me) (tk := tE X.K WF mk) (tt := tT X.K WF mt) (g := tGt X.K ks g) hc hN hi ok hg ht hkx hel hs)) fun σ H Q h => ?_
  obtain ⟨b, G, env, fr, h⟩ := h
  exact dcomp_read hk T fr h (fun d e' v G' H' f s dv r => r v G' H' f s dv) (fun c e he => he)
/-! sorted(dict) -/
def keyInts : List (D × D) → Option (List Int)
  | [] => some []
  | (.int j, _) :: r => (keyInts r).map (j :: ·)
  | _ => none
def sortZ (ks : List Int) : List Int := ks.mergeSort (fun a b => decide (a ≤ b))
theorem sortZ_eq {ks ys : List Int} (p : ys.Perm ks) (s : ys.Pairwise (· ≤ ·)) : ys = sortZ ks := by
  have p2 : (sortZ ks).Perm ks := List.mergeSort_perm _ _
  have s2 : (sortZ ks).Pairwise (· ≤ ·) := by
    have := List.pairwise_mergeSort (le := fun a b : Int => decide (a ≤ b)) (by intro a b c h1 h2; simp at *; omega) (by intro a b; simp; omega) ks
    exact this.imp fun h => by simpa using h
  exact List.Perm.eq_of_pairwise (fun a b _ _ h1 h2 => Int.le_antisymm h1 h2) s s2 (p.trans p2.symm)
def dSortD : List D → Option (List D)
  | [.dict kvs] => (keyInts kvs).bind fun ks => if ks.length < 64 then some ((sortZ ks).map .int) else none
  | _ => none
theorem kv_ints {G : Hp} : ∀ {ks : List (Key × V)} {ds : List (D × D)} {zs : List Int}, DtKv G ks ds → keyInts ds = some zs → ks.map (·.1) = zs.map Sum.inl
  | _, _, zs, .nil, h => by cases h; rfl
  | _, _, zs, .cons i hd t, h => by
    unfold keyInts at h
    obtain ⟨z, hz, e⟩ := Option.map_eq_some_iff.mp h
    subst e
    rw [List.map_cons, List.map_cons, kv_ints t hz]
theorem dtAll_ints {G : Hp} : ∀ zs : List Int, DtAll G (zs.map V.int) (zs.map PyData.int)
  | [] => .nil
  | z :: zs => .cons (.int z) (dtAll_ints zs)
theorem dSortD_ok : CallO (fun xs H Q => ∃ (a : Addr) (kvs : List (Key × V)) (ks : List Int), xs = [.ref a] ∧ Rd H a (.dK kvs) ∧ kvs.map (·.1) = ks.map Sum.inl ∧ ks.length < 64 ∧
    ∀ (ys : List Int) (p : Addr), ys.Perm ks → ys.Pairwise (· ≤ ·) → H p = none → Q (.ref p) (upd H p (.lst (ys.map V.int)))) dSortD := by
  intro G H vs ds d Q s hv e q
  unfold dSortD at e
  split at e
  case h_2 => cases e
  rename_i kvs
  obtain ⟨zs, hz, e⟩ := Option.bind_eq_some_iff.mp e
  split at e
  case isFalse => cases e
  rename_i h64
  cases e
  obtain ⟨v, rfl, hd⟩ := dtAll1 hv
  cases hd with
  | dic hr hk => exact ⟨_, _, zs, rfl, .inr ⟨_, s _ _ hr⟩, kv_ints hk hz, h64, fun ys p hp1 hp2 hp => by
      have := sortZ_eq hp1 hp2
      subst this
      exact q p _ G _ (.laid' s hp) hp (s.free hp) upd_same (dtAll_ints _)⟩
  | dicN hr hd => cases hz
end
end DL
namespace DL
open PySem L2
theorem u2 {k : Nat} {A : Around} (r : Room k A) : A.units + 1 < cLine := by have := r.un; omega
end DL

namespace DL
open PySem
/-! ## dicts, run -/
def dicP (o : Option Sl) (P : List (D × D) → Prop) : Prop := match o with
  | some (.dic kvs) => P kvs
  | _ => False
theorem dicP_dic {kvs : List (D × D)} {P : List (D × D) → Prop} : dicP (some (.dic kvs)) P = P kvs := rfl
def dicB : Option Sl → Bool
  | some (.dic _) => true
  | _ => false
theorem dicB_dic {kvs : List (D × D)} : dicB (some (.dic kvs)) = true := rfl
theorem wrS_dic {kvs : List (D × D)} : wrS (some (.dic kvs)) = true := rfl
theorem isDic_eq {e : Ev} {i : Nat} : isDic e i = dicB e[i]? := by
  unfold isDic dicB
  cases e[i]? with
  | none => rfl
  | some s => cases s <;> rfl
theorem ok_dNew {i : Nat} {e : Ev} {Q : Fl → Ev → Prop} : Ok (mDNew i e) Q = (wrS e[i]? = true ∧ Q .nx (e.set i (.dic []))) := by
  unfold mDNew; simp only [ok_store, putSl_eq]
theorem ok_dIf {i : Nat} {α : Type} {m : M α} {e : Ev} {Q : α → Ev → Prop} : Ok ((if isDic e i = true then m e else .bad) : Res Ev (α × Ev)) Q = (dicB e[i]? = true ∧ Ok (m e) Q) := by
  rw [isDic_eq]
  by_cases h : dicB e[i]? = true
  · rw [if_pos h]; exact propext ⟨fun p => ⟨h, p⟩, fun p => p.2⟩
  · rw [if_neg h]; exact propext ⟨fun p => p.elim, fun p => absurd p.1 h⟩
theorem okO_setD {i : Nat} {d k : D} {e : Ev} {P : Ev → Prop} : okO (setD i d k e) P = dicP e[i]? fun kvs => okO (dInt k) fun j => kvs.length < sizeLine ∧ P (e.set i (.dic (putD kvs j d))) := by
  unfold setD
  cases e[i]? with
  | none => rfl
  | some s =>
    cases s with
    | dic kvs =>
      cases k with
      | int j => exact okO_ite
      | _ => rfl
    | _ => rfl
theorem ok_dSet {i : Nat} {mv mk : M D} {e : Ev} {Q : Fl → Ev → Prop} : Ok (mDSet i mv mk e) Q = Ok (mv e) (fun d e1 => dicB e1[i]? = true ∧ Ok (mk e1) (fun k e2 => dicP e2[i]? fun kvs => okO (dInt k) fun j => kvs.length < sizeLine ∧ Q .nx (e2.set i (.dic (putD kvs j d))))) := by
  unfold mDSet
  rw [ok_bind]
  congr 1; funext d e1
  rw [ok_dIf (m := mBind mk fun k => mStore (setD i d k))]
  simp only [ok_bind, ok_store, okO_setD]
theorem ok_notInD {i : Nat} {k : D} {e : Ev} {Q : Bool → Ev → Prop} : Ok (notInD i k e) Q = dicP e[i]? fun kvs => okO (dInt k) fun j => Q (!(lookD kvs j).isSome) e := by
  unfold notInD
  cases e[i]? with
  | none => rfl
  | some s => cases s <;> first | rfl | (cases k <;> rfl)
theorem ok_dNotIn {i : Nat} {mk : M D} {e : Ev} {Q : Bool → Ev → Prop} : Ok (mDNotIn i mk e) Q = Ok (mk e) (fun k e1 => dicP e1[i]? fun kvs => okO (dInt k) fun j => Q (!(lookD kvs j).isSome) e1) := by
  unfold mDNotIn
  simp only [ok_bind, ok_notInD]
theorem ok_getDO {i : Nat} {k : D} {e : Ev} {Q : D → Ev → Prop} : Ok (getDO i k e) Q = dicP e[i]? fun kvs => okO (dInt k) fun j => okO (lookD kvs j) fun d => Q d e := by
  unfold getDO
  cases e[i]? with
  | none => rfl
  | some s =>
    cases s with
    | dic kvs =>
      cases k with
      | int j => exact ok_opt
      | _ => rfl
    | _ => rfl
theorem ok_dGetO {i : Nat} {mk : M D} {e : Ev} {Q : D → Ev → Prop} : Ok (mDGetO i mk e) Q = (dicB e[i]? = true ∧ Ok (mk e) (fun k e1 => dicP e1[i]? fun kvs => okO (dInt k) fun j => okO (lookD kvs j) fun d => Q d e1)) := by
  unfold mDGetO
  rw [ok_dIf (m := mBind mk (getDO i))]
  simp only [ok_bind, ok_getDO]
theorem ok_fzD {i : Nat} {e : Ev} {Q : D → Ev → Prop} : Ok (mFzD i e) Q = dicP e[i]? fun kvs => Q (.dict kvs) (e.set i .un) := by
  unfold mFzD
  cases e[i]? with
  | none => rfl
  | some s => cases s <;> rfl
theorem ok_dIn {mk ma : M D} {e : Ev} {Q : Bool → Ev → Prop} : Ok (mDIn mk ma e) Q = Ok (mk e) (fun k e1 => Ok (ma e1) (fun d e2 => okO (dInD k d) fun z => Q z e2)) := by
  unfold mDIn; simp only [ok_bind, ok_opt]
theorem ok_keys {ma : M D} {e : Ev} {Q : List D → Ev → Prop} : Ok (mKeys ma e) Q = Ok (ma e) (fun d e1 => okO (dKeys d) fun z => Q z e1) := by
  unfold mKeys; simp only [ok_bind, ok_opt]
def d1 (k v : D) : Option D := match k with
  | .int j => some (.dict [(.int j, v)])
  | .none => some (.dict [(.none, v)])
  | _ => none
theorem ok_dict1 {mk mv : M D} {e : Ev} {Q : D → Ev → Prop} : Ok (mDict1 mk mv e) Q = Ok (mk e) (fun k e1 => Ok (mv e1) (fun v e2 => okO (d1 k v) fun z => Q z e2)) := by
  unfold mDict1
  simp only [ok_bind, ok_opt]
  refine congrArg (Ok (mk e)) (funext fun k => funext fun e1 => congrArg (Ok (mv e1)) (funext fun v => funext fun e2 => ?_))
  cases k <;> rfl
theorem ok_dComp {mi : M (List D)} {vs : List Nat} {g : GT} {mt : M Bool} {mk mv : M D} {e : Ev} {Q : D → Ev → Prop} : Ok (mDComp mi vs g mt mk mv e) Q = Ok (mi e) (fun ds e1 => Ok (compDL vs g mt mk mv ds [] (wipeE e1 vs)) (fun acc e2 => Q (.dict acc) (restE e1 vs e2))) := by
  unfold mDComp
  rw [ok_bind]
  congr 1; funext ds e1
  cases compDL vs g mt mk mv ds [] (wipeE e1 vs) with
  | ok p => obtain ⟨a, b⟩ := p; rfl
  | bad => rfl
  | exc _ _ => rfl
/-! keys that are whole numbers -/
def dk {α : Type} (c : α → D) (kvs : List (Int × α)) : List (D × D) := kvs.map fun p => (.int p.1, c p.2)
def look {α : Type} (kvs : List (Int × α)) (i : Int) : Option α := match kvs with
  | [] => none
  | (j, d) :: r => if j = i then some d else look r i
def put {α : Type} (kvs : List (Int × α)) (i : Int) (d : α) : List (Int × α) := if (look kvs i).isSome = true then kvs.map (fun p => if p.1 = i then (p.1, d) else p) else kvs ++ [(i, d)]
section
variable {α : Type} {c : α → D} {kvs : List (Int × α)} {i j : Int} {d : α}
theorem lookD_dk : lookD (dk c kvs) i = (look kvs i).map c := by
  induction kvs with
  | nil => rfl
  | cons p r ih =>
    show (if p.1 = i then some (c p.2) else lookD (dk c r) i) = (look (p :: r) i).map c
    show _ = (if p.1 = i then some p.2 else look r i).map c
    by_cases h : p.1 = i
    · rw [if_pos h, if_pos h]; rfl
    · rw [if_neg h, if_neg h, ih]
theorem putD_dk : putD (dk c kvs) i (c d) = dk c (put kvs i d) := by
  unfold putD put
  rw [lookD_dk, Option.isSome_map]
  by_cases h : (look kvs i).isSome = true
  · rw [if_pos h, if_pos h]
    unfold dk
    rw [List.map_map, List.map_map]
    refine List.map_congr_left fun p _ => ?_
    show repD i (c d) (.int p.1, c p.2) = _
    unfold repD Function.comp
    by_cases e : p.1 = i
    · simp only [if_pos e]
    · simp only [if_neg e]
  · rw [if_neg h, if_neg h]
    unfold dk
    rw [List.map_append]; rfl
theorem dk_len : (dk c kvs).length = kvs.length := by unfold dk; rw [List.length_map]
theorem dk_keys : (dk c kvs).map (·.1) = kvs.map fun p => PyData.int p.1 := by unfold dk; rw [List.map_map]; rfl
theorem dk_keyInts : keyInts (dk c kvs) = some (kvs.map (·.1)) := by
  induction kvs with
  | nil => rfl
  | cons p r ih =>
    show (keyInts (dk c r)).map (p.1 :: ·) = _
    rw [ih]; rfl
theorem v_dGet {P : D → Prop} : okO (dGetD (.dict (dk c kvs)) (.int i)) P = okO (look kvs i) fun d => P (c d) := by
  show okO (lookD (dk c kvs) i) P = _
  rw [lookD_dk]
  cases look kvs i <;> rfl
theorem v_dGetN {d : D} {P : D → Prop} : okO (dGetD (.dict [(.none, d)]) .none) P = P d := rfl
theorem v_dIn {P : Bool → Prop} : okO (dInD (.int i) (.dict (dk c kvs))) P = P (look kvs i).isSome := by
  have : dInD (.int i) (.dict (dk c kvs)) = some (lookD (dk c kvs) i).isSome := by
    cases kvs <;> rfl
  rw [this, lookD_dk, Option.isSome_map]; rfl
theorem v_keys {kvs : List (D × D)} {P : List D → Prop} : okO (dKeys (.dict kvs)) P = P (kvs.map (·.1)) := rfl
theorem v_d1 {d : D} {P : D → Prop} : okO (d1 (.int i) d) P = P (.dict [(.int i, d)]) := rfl
theorem v_d1N {d : D} {P : D → Prop} : okO (d1 .none d) P = P (.dict [(.none, d)]) := rfl
theorem v_sortD (h : kvs.length < 64) {P : List D → Prop} : okO (dSortD [.dict (dk c kvs)]) P = P ((sortZ (kvs.map (·.1))).map .int) := by
  show okO ((keyInts (dk c kvs)).bind _) P = _
  rw [dk_keyInts]
  show okO (if (kvs.map (·.1)).length < 64 then _ else none) P = _
  rw [List.length_map, if_pos h]; rfl
theorem look_put : look (put kvs i d) j = if i = j then some d else look kvs j := by
  unfold put
  by_cases h : (look kvs i).isSome = true
  · rw [if_pos h]
    induction kvs with
    | nil => cases h
    | cons p r ih =>
      have e1 : ∀ k, look (p :: r) k = if p.1 = k then some p.2 else look r k := fun k => rfl
      rw [List.map_cons]
      by_cases e : p.1 = i
      · rw [if_pos e]
        show (if p.1 = j then some d else look (r.map _) j) = _
        by_cases ej : i = j
        · rw [if_pos (e.trans ej), if_pos ej]
        · rw [if_neg (fun z => ej (e ▸ z)), if_neg ej, e1, if_neg (fun z => ej (e ▸ z))]
          by_cases hs : (look r i).isSome = true
          · rw [ih hs, if_neg ej]
          · have : r.map (fun p : Int × α => if p.1 = i then (p.1, d) else p) = r := by
              clear ih h e1
              induction r with
              | nil => rfl
              | cons q r ih2 =>
                have e2 : look (q :: r) i = if q.1 = i then some q.2 else look r i := rfl
                rw [e2] at hs
                by_cases eq : q.1 = i
                · rw [if_pos eq] at hs; exact absurd rfl hs
                · rw [if_neg eq] at hs
                  rw [List.map_cons, if_neg eq, ih2 hs]
            rw [this]
      · rw [e1, if_neg e] at h
        rw [if_neg e]
        show (if p.1 = j then some p.2 else look (r.map _) j) = _
        rw [ih h, e1]
        by_cases ep : p.1 = j
        · rw [if_pos ep, if_pos ep, if_neg (fun z => e (ep.trans z.symm))]
        · rw [if_neg ep, if_neg ep]
  · rw [if_neg h]
    have hn : look kvs i = none := by simpa using h
    have app : ∀ l : List (Int × α), look (l ++ [(i, d)]) j = (look l j).or (if i = j then some d else none) := fun l => by
      induction l with
      | nil => rfl
      | cons p r ih =>
        show (if p.1 = j then some p.2 else look (r ++ [(i, d)]) j) = (if p.1 = j then some p.2 else look r j).or _
        by_cases ep : p.1 = j
        · rw [if_pos ep, if_pos ep]; rfl
        · rw [if_neg ep, if_neg ep, ih]
    rw [app]
    by_cases ej : i = j
    · subst ej; rw [hn, if_pos rfl]; rfl
    · rw [if_neg ej, if_neg ej, Option.or_none]
theorem look_mem (h : look kvs i = some d) : (i, d) ∈ kvs := by
  induction kvs with
  | nil => cases h
  | cons p r ih =>
    have e1 : look (p :: r) i = if p.1 = i then some p.2 else look r i := rfl
    rw [e1] at h
    by_cases e : p.1 = i
    · rw [if_pos e] at h; cases h; subst e; exact .head _
    · rw [if_neg e] at h; exact .tail _ (ih h)
theorem look_key (h : i ∈ kvs.map (·.1)) : ∃ d, look kvs i = some d := by
  induction kvs with
  | nil => cases h
  | cons p r ih =>
    have e1 : look (p :: r) i = if p.1 = i then some p.2 else look r i := rfl
    rw [e1]
    by_cases e : p.1 = i
    · rw [if_pos e]; exact ⟨_, rfl⟩
    · rw [if_neg e]
      rw [List.map_cons, List.mem_cons] at h
      exact ih (h.resolve_left fun z => e z.symm)
theorem look_of (hn : (kvs.map (·.1)).Nodup) (h : (i, d) ∈ kvs) : look kvs i = some d := by
  induction kvs with
  | nil => cases h
  | cons p r ih =>
    have e1 : look (p :: r) i = if p.1 = i then some p.2 else look r i := rfl
    rw [List.map_cons, List.nodup_cons] at hn
    rw [e1]
    rcases List.mem_cons.mp h with e | h
    · subst e; rw [if_pos rfl]
    · rw [if_neg fun z => hn.1 (by rw [z]; exact List.mem_map_of_mem (f := (·.1)) h)]
      exact ih hn.2 h
theorem put_keys : (put kvs i d).map (·.1) = if (look kvs i).isSome = true then kvs.map (·.1) else kvs.map (·.1) ++ [i] := by
  unfold put
  by_cases h : (look kvs i).isSome = true
  · rw [if_pos h, if_pos h, List.map_map]
    refine List.map_congr_left fun p _ => ?_
    show (if p.1 = i then (p.1, d) else p).1 = p.1
    by_cases e : p.1 = i
    · rw [if_pos e]
    · rw [if_neg e]
  · rw [if_neg h, if_neg h, List.map_append]; rfl
theorem put_nodup (h : (kvs.map (·.1)).Nodup) : ((put kvs i d).map (·.1)).Nodup := by
  rw [put_keys]
  by_cases e : (look kvs i).isSome = true
  · rw [if_pos e]; exact h
  · rw [if_neg e, List.nodup_append]
    refine ⟨h, by simp, fun a ha b hb z => e ?_⟩
    rw [List.mem_singleton] at hb
    subst z hb
    obtain ⟨d, q⟩ := look_key ha
    rw [q]; rfl
theorem compDA {vs : List Nat} {g : GT} {mt : M Bool} {mk mv : M D} {e : Ev} {Q : List (D × D) → Ev → Prop} (xs : List α) (c : α → D) (p : α → Bool) (key : α → Int) (F : α → D) (hl : xs.length ≤ sizeLine) (hn : (xs.map key).Nodup) (hw : wipeE e vs = e)
    (hs : ∀ x ∈ xs, okO (g (c x) e) fun e1 => Ok (mt e1) fun k e2 => k = p x ∧ if k = true then Ok (mk e2) fun kx e3 => kx = .int (key x) ∧ Ok (mv e3) fun y e4 => y = F x ∧ wipeE e4 vs = e else wipeE e2 vs = e)
    (hq : Q (dk F ((xs.filter p).map fun x => (key x, x))) e) : Ok (compDL vs g mt mk mv (xs.map c) [] e) Q := by
  suffices h : ∀ (xs : List α) (ac : List (Int × α)), ac.length + xs.length ≤ sizeLine → ((ac.map (·.1)) ++ xs.map key).Nodup → (∀ x ∈ xs, okO (g (c x) e) fun e1 => Ok (mt e1) fun k e2 => k = p x ∧ if k = true then Ok (mk e2) fun kx e3 => kx = .int (key x) ∧ Ok (mv e3) fun y e4 => y = F x ∧ wipeE e4 vs = e else wipeE e2 vs = e) → compDL vs g mt mk mv (xs.map c) (dk F ac) e = .ok (dk F (ac ++ (xs.filter p).map fun x => (key x, x)), e) by
    have := h xs [] (by simpa using hl) (by simpa using hn) hs
    rw [show dk F ([] : List (Int × α)) = [] from rfl] at this
    rw [this]
    exact hq
  clear hs hq hl hn xs
  intro xs
  induction xs with
  | nil => intro ac _ _ _; simp [compDL]
  | cons x r ih =>
    intro ac hl hn hs
    have q := hs x (.head _)
    have ih' := fun ac hl hn => ih ac hl hn fun d hd => hs d (.tail _ hd)
    rw [List.length_cons] at hl
    rw [List.map_cons]
    have hn2 : ((ac.map (·.1)) ++ r.map key).Nodup := by
      rw [List.map_cons] at hn
      exact hn.sublist (List.Sublist.append (List.Sublist.refl _) (List.sublist_cons_self _ _))
    unfold compDL
    cases hg : g (c x) e with
    | none => rw [hg] at q; exact q.elim
    | some e1 =>
      rw [hg, okO_some] at q
      cases hm : mt e1 with
      | bad => rw [hm] at q; exact q.elim
      | exc _ _ => rw [hm] at q; exact q.elim
      | ok pr =>
        obtain ⟨k, e2⟩ := pr
        rw [hm, ok_ok] at q
        simp only [hm]
        obtain ⟨rfl, q⟩ := q
        cases hp : p x with
        | false =>
          rw [hp, if_neg Bool.false_ne_true] at q
          simp only
          rw [q, ih' ac (by omega) hn2, List.filter_cons, hp, if_neg Bool.false_ne_true]
        | true =>
          rw [hp, if_pos rfl] at q
          cases hmk : mk e2 with
          | bad => rw [hmk] at q; exact q.elim
          | exc _ _ => rw [hmk] at q; exact q.elim
          | ok pr =>
            obtain ⟨kx, e3⟩ := pr
            rw [hmk, ok_ok] at q
            obtain ⟨rfl, q⟩ := q
            simp only
            cases hme : mv e3 with
            | bad => rw [hme] at q; exact q.elim
            | exc _ _ => rw [hme] at q; exact q.elim
            | ok pr =>
              obtain ⟨y, e4⟩ := pr
              rw [hme, ok_ok] at q
              obtain ⟨rfl, q⟩ := q
              have fresh : look ac (key x) = none := by
                cases hk : look ac (key x) with
                | none => rfl
                | some d =>
                  have m := List.mem_map_of_mem (f := (·.1)) (look_mem hk)
                  rw [List.nodup_append] at hn
                  exact absurd rfl (hn.2.2 _ m _ (by rw [List.map_cons]; exact .head _))
              have pe : putD (dk F ac) (key x) (F x) = dk F (ac ++ [(key x, x)]) := by
                rw [putD_dk]; unfold put; rw [fresh]; rfl
              rw [hmk]; simp only; rw [hme]; simp only
              rw [dk_len, if_pos (by omega), q, pe, ih' (ac ++ [(key x, x)]) (by simp; omega) (by
                rw [List.map_append, List.map_cons, List.map_nil, List.append_assoc]
                rw [List.map_cons] at hn
                exact hn), List.filter_cons, hp, if_pos rfl, List.map_cons, List.append_assoc]
              rfl
end
end DL

namespace Lw
open PySem DL
def m_best_rows : MS := (mSeq (mSet 3 (mDict1 (mVar 1) (mTup (mCons (mPure (.int 0)) (mCons (mTup mNil) mNil)))))
    (mSeq (mFor (mItems (mVar 0)) (gTp (gCons' (gN 4) (gCons' (gN 5) (gCons' (gN 6) (gCons' (gN 7) (gCons' (gN 8) (gCons' (gN 9) (gCons' (gN 10) gNil')))))))) (mSeq (mDNew 11)
    (mSeq (mFor (mKeys (mVar 3)) (gN 12) (mSeq (mSet 13 (mIfE (mCmp dIsNone (mVar 12) (mPure .none)) (mOp dSub (mVar 5) (mVar 8)) (mCall dMax2 (mCons (mOp dSub (mVar 5) (mVar 8)) (mCons (mVar 12) mNil)))))
    (mIf (mCmp dLe (mVar 13) (mVar 5)) (mFor (mRange2 (mCons (mVar 6) (mCons (mOp dAdd (mOp dAdd (mVar 6) (mVar 9)) (mPure (.int 1))) mNil))) (gN 14) (mSeq (mSet 15 (mOp dAdd (mOp dIx (mOp dGetD (mVar 3) (mVar 12)) (mPure (.int 0))) (mCall dMax2 (mCons (mPure (.int 0)) (mCons (mOp dSub (mVar 7) (mOp dSub (mVar 14) (mVar 13))) mNil)))))
    (mIf (mOr (mDNotIn 11 (mOp dAdd (mVar 14) (mVar 10))) (mCmp dLt (mVar 15) (mOp dIx (mDGetO 11 (mOp dAdd (mVar 14) (mVar 10))) (mPure (.int 0))))) (mDSet 11 (mTup (mCons (mVar 15) (mCons (mOp dAdd (mOp dIx (mOp dGetD (mVar 3) (mVar 12)) (mPure (.int 1))) (mTup (mCons (mTup (mCons (mVar 13) (mCons (mVar 14) mNil))) mNil))) mNil))) (mOp dAdd (mVar 14) (mVar 10))) mNx))) mNx)))
    (mSet 3 (mFzD 11)))))
    (mRet (mDComp (mKeys (mVar 3)) [12] (gN 12) (mOr (mCmp dIsNone (mVar 2) (mPure .none)) (mCmp dLe (mVar 12) (mVar 2))) (mVar 12) (mOp dGetD (mVar 3) (mVar 12))))))
def f_best_rows := runF 16 m_best_rows
def m_row_of : MS := (mSeq (mAsg (gTp (gCons' (gN 3) (gCons' (gN 4) (gCons' (gN 5) (gCons' (gN 6) (gCons' (gN 7) (gCons' (gN 8) (gCons' (gN 9) gNil')))))))) (mOp dIx (mVar 0) (mUn dNeg (mPure (.int 1)))))
    (mSeq (mSet 2 (mF f_best_rows (mCons (mVar 0) (mCons (mVar 1) (mCons (mPure .none) mNil)))))
    (mRet (mFz (mComp (mRange1 (mCons (mOp dAdd (mVar 8) (mPure (.int 1))) mNil)) [10] (gN 10) (mPure true) (mIfE (mDIn (mOp dAdd (mOp dAdd (mVar 5) (mVar 10)) (mVar 9)) (mVar 2)) (mOp dIx (mOp dGetD (mVar 2) (mOp dAdd (mOp dAdd (mVar 5) (mVar 10)) (mVar 9))) (mPure (.int 0))) (mPure .none)))))))
def f_row_of := runF 11 m_row_of
def m_table_of : MS := (mSeq (mSet 2 (mOp dIx (mVar 0) (mUn dNeg (mPure (.int 1)))))
    (mRet (mFz (mComp (mRange1 (mCons (mOp dAdd (mOp dIx (mVar 2) (mPure (.int 5))) (mPure (.int 1))) mNil)) [3] (gN 3) (mPure true) (mF f_row_of (mCons (mVar 0) (mCons (mOp dSub (mOp dAdd (mOp dAdd (mOp dIx (mVar 2) (mPure (.int 2))) (mVar 3)) (mOp dIx (mVar 2) (mPure (.int 6)))) (mVar 1)) mNil)))))))
def f_table_of := runF 4 m_table_of
def m_over : MS := (mSeq (mDrop (mF f_need_round (mCons (mVar 0) (mCons (mVar 1) mNil))))
    (mSeq (mDrop (mF f_need_number (mCons (mF f_is_whole (mCons (mVar 2) (mCons (mPure (.int 1)) (mCons (mPure (.int 1000000000000000)) mNil)))) mNil)))
    (mSeq (mAsg (gTp (gCons' (gN 3) (gCons' (gN 4) (gCons' (gN 5) gNil')))) (mTup (mCons (mF f_row_of (mCons (mVar 0) (mCons (mPure .none) mNil))) (mCons (mF f_table_of (mCons (mVar 0) (mCons (mVar 1) mNil))) (mCons (mOp dSub (mVar 2) (mPure (.int 1))) mNil)))))
    (mSeq (mWhile (fun _ => 64) (mCmp dGt (mVar 5) (mPure (.int 0))) (mSeq (mIf (mCmp dEq (mOp dMod (mVar 5) (mPure (.int 2))) (mPure (.int 1))) (mSet 3 (mF f_led (mCons (mVar 3) (mCons (mVar 4) mNil)))) mNx)
    (mAsg (gTp (gCons' (gN 4) (gCons' (gN 5) gNil'))) (mTup (mCons (mFz (mComp (mItems (mVar 4)) [7] (gN 7) (mPure true) (mF f_led (mCons (mVar 7) (mCons (mVar 4) mNil))))) (mCons (mOp dDiv (mVar 5) (mPure (.int 2))) mNil))))))
    (mRet (mCall dMinL (mCons (mFz (mComp (mItems (mVar 3)) [6] (gN 6) (mCmp dNotNone (mVar 6) (mPure .none)) (mVar 6))) mNil)))))))
def f_over := runF 8 m_over
def m_best_of : MS := (mSeq (mSet 3 (mF f_best_rows (mCons (mVar 0) (mCons (mVar 1) (mCons (mVar 2) mNil)))))
    (mSeq (mSet 4 (mPure .none))
    (mSeq (mFor (mItems (mFz (mCallO dSortD (mCons (mVar 3) mNil)))) (gN 5) (mIf (mOr (mCmp dIsNone (mVar 4) (mPure .none)) (mCmp dLt (mOp dIx (mOp dGetD (mVar 3) (mVar 5)) (mPure (.int 0))) (mOp dIx (mVar 4) (mPure (.int 0))))) (mSet 4 (mOp dGetD (mVar 3) (mVar 5))) mNx))
    (mRet (mVar 4)))))
def f_best_of := runF 6 m_best_of
def m_felt_of : MS := (mSeq (mSet 3 (mF f_best_of (mCons (mVar 0) (mCons (mVar 1) (mCons (mVar 2) mNil)))))
    (mRet (mIfE (mCmp dNotNone (mVar 3) (mPure .none)) (mOp dIx (mVar 3) (mPure (.int 0))) (mPure .none))))
def f_felt_of := runF 4 m_felt_of
def m_between : MS := (mSeq (mDrop (mF f_need_evening (mCons (mVar 0) mNil)))
    (mSeq (mDrop (mF f_need_evening (mCons (mVar 1) mNil)))
    (mSeq (mIf (mNot (mTru (mF f_is_evening (mCons (mOp dAdd (mVar 0) (mVar 1)) mNil)))) (mRaise "NoPair") mNx)
    (mSeq (mDrop (mF f_need_number (mCons (mF f_is_any (mCons (mVar 2) mNil)) mNil)))
    (mSeq (mDrop (mF f_need_number (mCons (mF f_is_any (mCons (mVar 3) mNil)) mNil)))
    (mSeq (mSet 4 (mPure .none))
    (mSeq (mFor (mRange2 (mCons (mOp dAdd (mOp dIx (mOp dIx (mVar 0) (mUn dNeg (mPure (.int 1)))) (mPure (.int 2))) (mOp dIx (mOp dIx (mVar 0) (mUn dNeg (mPure (.int 1)))) (mPure (.int 6)))) (mCons (mOp dAdd (mOp dIx (mOp dIx (mVar 1) (mPure (.int 0))) (mPure (.int 1))) (mPure (.int 1))) mNil))) (gN 5) (mSeq (mPar2 6 7 (mDat (mF f_felt_of (mCons (mVar 0) (mCons (mVar 2) (mCons (mVar 5) mNil))))) (mDat (mF f_felt_of (mCons (mVar 1) (mCons (mVar 5) (mCons (mVar 3) mNil))))))
    (mIf (mAnd (mCmp dNotNone (mVar 6) (mPure .none)) (mAnd (mCmp dNotNone (mVar 7) (mPure .none)) (mOr (mCmp dIsNone (mVar 4) (mPure .none)) (mCmp dLt (mOp dAdd (mVar 6) (mVar 7)) (mOp dIx (mVar 4) (mPure (.int 1))))))) (mSet 4 (mTup (mCons (mVar 5) (mCons (mOp dAdd (mVar 6) (mVar 7)) mNil)))) mNx)))
    (mRet (mVar 4)))))))))
def f_between := runF 8 m_between
def m_least_of : MS := (mRet (mOp dIx (mF f_best_of (mCons (mVar 0) (mCons (mPure .none) (mCons (mPure .none) mNil)))) (mPure (.int 0))))
def f_least_of := runF 1 m_least_of
def m_least : MS := (mSeq (mDrop (mF f_need_evening (mCons (mVar 0) mNil)))
    (mRet (mF f_least_of (mCons (mVar 0) mNil))))
def f_least := runF 1 m_least
def m_standing : MS := (mSeq (mDrop (mF f_need_evening (mCons (mVar 0) mNil)))
    (mRet (mOp dIx (mF f_best_of (mCons (mVar 0) (mCons (mPure .none) (mCons (mPure .none) mNil)))) (mPure (.int 1)))))
def f_standing := runF 1 m_standing
def m_law_k23 : MS := (mSeq (mFor (mRange1 (mCons (mCall dMax2 (mCons (mPure (.int 4)) (mCons (mCall dMin2 (mCons (mPure (.int 24)) (mCons (mLenO 0) mNil))) mNil))) mNil)) (gN 1) (mSeq (mSetO 2 (mFS 0 f__law_well (mCons (mVar 1) mNil)))
    (mSeq (mSet 3 (mFC 2 f__law_evening (mCons (mPure (.int 3)) (mCons (mPure (.int 3)) mNil))))
    (mSeq (mSet 4 (mF f__law_all_standings (mCons (mVar 3) mNil)))
    (mSeq (mSetO 5 (mComp (mItems (mVar 4)) [7] (gN 7) (mPure true) (mF f__law_forgone (mCons (mVar 3) (mCons (mVar 7) mNil)))))
    (mFrz 5 (mSeq (mIf (mOr (mCmp dNe (mF f_least (mCons (mVar 3) mNil)) (mCall dMinL (mCons (mFz (mComp (mItems (mVar 5)) [8] (gN 8) (mPure true) (mCall dSum (mCons (mVar 8) mNil)))) mNil))) (mCmp dNe (mF f_least_each (mCons (mVar 3) mNil)) (mCall dMinL (mCons (mFz (mComp (mItems (mVar 5)) [8] (gN 8) (mPure true) (mCall dMaxL (mCons (mVar 8) mNil)))) mNil)))) (mRet (mPure (.bool false))) mNx)
    (mSeq (mIf (mOr (mCmp dNotInA (mF f_standing (mCons (mVar 3) mNil)) (mVar 4)) (mCmp dNe (mCall dSum (mCons (mF f__law_forgone (mCons (mVar 3) (mCons (mF f_standing (mCons (mVar 3) mNil)) mNil))) mNil)) (mF f_least (mCons (mVar 3) mNil)))) (mRet (mPure (.bool false))) mNx)
    (mSeq (mSet 6 (mF f_standing_each (mCons (mVar 3) mNil)))
    (mIf (mOr (mCmp dNotInA (mVar 6) (mVar 4)) (mCmp dGt (mCall dMaxL (mCons (mF f__law_forgone (mCons (mVar 3) (mCons (mVar 6) mNil))) mNil)) (mF f_least_each (mCons (mVar 3) mNil)))) (mRet (mPure (.bool false))) mNx))))))))))
    (mRet (mB (mCmp dEq (mF f_least_each (mCons (mTup (mCons (mTup (mCons (mPure (.str "a")) (mCons (mPure (.int 5)) (mCons (mPure (.int 9)) (mCons (mPure (.int 9)) (mCons (mPure (.int 2)) (mCons (mPure (.int 1)) (mCons (mPure (.int 3)) mNil)))))))) mNil)) mNil)) (mPure (.int 2))))))
def f_law_k23 := runL 9 m_law_k23
def m_put_in : MS := (mSeq (mDrop (mF f_need_evening (mCons (mVar 0) mNil)))
    (mSeq (mSet 1 (mF f_least_of (mCons (mVar 0) mNil)))
    (mRet (mFz (mComp (mRange1 (mCons (mOp dSub (mCall dLen (mCons (mVar 0) mNil)) (mPure (.int 1))) mNil)) [2] (gN 2) (mPure true) (mOp dSub (mOp dSub (mVar 1) (mF f_least_of (mCons (mSl (mVar 0) mNoP (mPart (mOp dAdd (mVar 2) (mPure (.int 1))))) mNil))) (mF f_least_of (mCons (mSl (mVar 0) (mPart (mOp dAdd (mVar 2) (mPure (.int 1)))) mNoP) mNil))))))))
def f_put_in := runF 3 m_put_in
def m_unfelt : MS := (mSeq (mPar3 3 4 5 (mDat (mF f_apart_rows (mCons (mVar 0) mNil))) (mDat (mF f_behind (mCons (mVar 0) mNil))) (mDat (mF f_least_of (mCons (mVar 0) mNil))))
    (mSeq (mSetO 1 (mLst mNil))
    (mSeq (mFor (mRange1 (mCons (mOp dSub (mCall dLen (mCons (mVar 0) mNil)) (mPure (.int 1))) mNil)) (gN 2) (mSeq (mSet 6 (mPure .none))
    (mSeq (mFor (mItems (mF f_all_runs (mCons (mCall dLen (mCons (mVar 0) mNil)) mNil))) (gN 7) (mIf (mChain dLe dLt (mOp dIx (mVar 7) (mPure (.int 0))) (mVar 2) (mOp dIx (mVar 7) (mPure (.int 2)))) (mSeq (mAsg (gTp (gCons' (gN 9) (gCons' (gN 10) gNil'))) (mF f_acts_of (mCons (mVar 7) mNil)))
    (mSeq (mSet 8 (mOp dAdd (mOp dAdd (mOp dIx (mOp dIx (mVar 3) (mVar 9)) (mPure (.int 0))) (mF f_lack_of (mCons (mVar 0) (mCons (mVar 7) mNil)))) (mOp dIx (mVar 4) (mVar 10))))
    (mSet 6 (mIfE (mCmp dIsNone (mVar 6) (mPure .none)) (mVar 8) (mCall dMax2 (mCons (mVar 6) (mCons (mVar 8) mNil))))))) mNx))
    (mMeth 1 dAppend (mCons (mOp dSub (mVar 5) (mVar 6)) mNil)))))
    (mRet (mFz (mMove 1))))))
def f_unfelt := runF 11 m_unfelt
def m_taken_out : MS := (mSeq (mDrop (mF f_need_evening (mCons (mVar 0) mNil)))
    (mRet (mFz (mComp (mEnum (mCons (mF f_unfelt (mCons (mVar 0) mNil)) mNil)) [1, 2] (gTp (gCons' (gN 1) (gCons' (gN 2) gNil'))) (mPure true) (mTup (mCons (mCall dMin2 (mCons (mVar 2) (mCons (mF f_spare (mCons (mVar 0) (mCons (mVar 1) mNil))) mNil))) (mCons (mB (mCmp dLt (mVar 2) (mF f_spare (mCons (mVar 0) (mCons (mVar 1) mNil))))) mNil)))))))
def f_taken_out := runF 3 m_taken_out
def m_guests : MS := (mSeq (mDrop (mF f_need_evening (mCons (mVar 0) mNil)))
    (mSeq (mDrop (mF f_need_number (mCons (mF f_is_whole (mCons (mVar 1) (mCons (mPure (.int 1)) (mCons (mPure (.int 200)) mNil)))) mNil)))
    (mSeq (mDrop (mF f_need_number (mCons (mF f_is_whole (mCons (mVar 2) (mCons (mPure (.int 0)) (mCons (mPure (.int 20)) mNil)))) mNil)))
    (mSeq (mPar2 3 4 (mDat (mOp dAdd (mVar 1) (mVar 2))) (mOwn (mLst mNil)))
    (mSeq (mFor (mEnum (mCons (mF f_unfelt (mCons (mVar 0) mNil)) mNil)) (gTp (gCons' (gN 5) (gCons' (gN 6) gNil'))) (mMeth 4 dAppend (mCons (mIfE (mCmp dLe (mVar 3) (mF f_spare (mCons (mVar 0) (mCons (mVar 5) mNil)))) (mCall dMax2 (mCons (mPure (.int 0)) (mCons (mOp dSub (mVar 3) (mVar 6)) mNil))) (mPure .none)) mNil)))
    (mRet (mFz (mMove 4))))))))
def f_guests := runF 7 m_guests
def m_law_k52 : MS := (mSeq (mFor (mRange1 (mCons (mCall dMax2 (mCons (mPure (.int 3)) (mCons (mCall dMin2 (mCons (mPure (.int 8)) (mCons (mLenO 0) mNil))) mNil))) mNil)) (gN 1) (mSeq (mSetO 2 (mFS 0 f__law_well (mCons (mVar 1) mNil)))
    (mSeq (mSet 3 (mFC 2 f__law_evening (mCons (mPure (.int 8)) (mCons (mPure (.int 12)) mNil))))
    (mSeq (mSet 4 (mOp dIx (mVar 3) (mUn dNeg (mPure (.int 1)))))
    (mSeq (mSet 5 (mOp dAdd (mOp dSub (mOp dAdd (mOp dIx (mVar 4) (mPure (.int 2))) (mOp dIx (mVar 4) (mPure (.int 6)))) (mOp dIx (mOp dIx (mVar 3) (mPure (.int 0))) (mPure (.int 1)))) (mFC 2 f__law_take (mCons (mPure (.int 9)) mNil))))
    (mFor (mRange1 (mCons (mPure (.int 2)) mNil)) (gN 6) (mSeq (mPar2 9 10 (mDat (mFC 2 f__law_far (mCons (mOp dMulI (mPure (.int 5)) (mOp dPow (mPure (.int 10)) (mPure (.int 14)))) mNil))) (mDat (mFC 2 f__law_far (mCons (mOp dMulI (mPure (.int 5)) (mOp dPow (mPure (.int 10)) (mPure (.int 14)))) mNil))))
    (mSeq (mSet 7 (mF f_over (mCons (mVar 3) (mCons (mVar 5) (mCons (mOp dAdd (mVar 9) (mVar 10)) mNil)))))
    (mSeq (mSet 8 (mOp dAdd (mF f_over (mCons (mVar 3) (mCons (mVar 5) (mCons (mVar 9) mNil)))) (mF f_over (mCons (mVar 3) (mCons (mVar 5) (mCons (mVar 10) mNil))))))
    (mSeq (mIf (mNot (mChain dLe dLe (mVar 8) (mVar 7) (mOp dAdd (mOp dAdd (mVar 8) (mOp dIx (mOp dIx (mVar 3) (mUn dNeg (mPure (.int 1)))) (mPure (.int 5)))) (mOp dIx (mOp dIx (mVar 3) (mPure (.int 0))) (mPure (.int 4)))))) (mRet (mPure (.bool false))) mNx)
    (mIf (mOr (mCmp dLt (mF f_over (mCons (mVar 3) (mCons (mVar 5) (mCons (mOp dAdd (mVar 9) (mPure (.int 1))) mNil)))) (mF f_over (mCons (mVar 3) (mCons (mVar 5) (mCons (mVar 9) mNil))))) (mIsi "bool" (mVar 7))) (mRet (mPure (.bool false))) mNx)))))))))))
    (mRet (mB (mCmp dEq (mF f_over (mCons (mTup (mCons (mTup (mCons (mPure (.str "a")) (mCons (mPure (.int 5)) (mCons (mPure (.int 9)) (mCons (mPure (.int 7)) (mCons (mPure (.int 2)) (mCons (mPure (.int 1)) (mCons (mPure (.int 3)) mNil)))))))) mNil)) (mCons (mPure (.int 7)) (mCons (mOp dPow (mPure (.int 10)) (mPure (.int 15))) mNil)))) (mOp dSub (mOp dMulI (mPure (.int 3)) (mOp dPow (mPure (.int 10)) (mPure (.int 15)))) (mPure (.int 3)))))))
def f_law_k52 := runL 11 m_law_k52
def m_least_with : MS := (mSeq (mSetO 3 (mComp (mItems (mVar 0)) [4] (gN 4) (mPure true) (mOp dIx (mVar 4) (mPure (.int 3)))))
    (mSeq (mSetIx 3 (mVar 2) (mVar 1))
    (mRet (mF f_least_of (mCons (mF f_with_wants (mCons (mVar 0) (mCons (mFz (mMove 3)) mNil))) mNil)))))
def f_least_with := runF 5 m_least_with
def m_wants : MS := (mSeq (mDrop (mF f_need_evening (mCons (mVar 0) mNil)))
    (mSeq (mDrop (mF f_need_place (mCons (mVar 0) (mCons (mVar 1) mNil))))
    (mSeq (mDrop (mF f_need_number (mCons (mAndV (mF f_is_any (mCons (mVar 2) mNil)) (mB (mCmp dGe (mVar 2) (mPure (.int 0))))) mNil)))
    (mSeq (mSet 3 (mOp dSub (mOp dIx (mOp dIx (mVar 0) (mVar 1)) (mPure (.int 2))) (mOp dIx (mOp dIx (mVar 0) (mVar 1)) (mPure (.int 1)))))
    (mSeq (mPar2 4 5 (mDat (mF f_least_with (mCons (mVar 0) (mCons (mVar 1) (mCons (mVar 3) mNil))))) (mDat (mOp dSub (mF f_least_with (mCons (mVar 0) (mCons (mVar 1) (mCons (mPure (.int 1000000)) mNil)))) (mPure (.int 1000000)))))
    (mSeq (mIf (mCmp dLt (mVar 2) (mVar 4)) (mRet (mPure .none)) mNx)
    (mRet (mIfE (mCmp dEq (mVar 2) (mVar 4)) (mTup (mCons (mVar 3) (mCons (mOp dSub (mVar 4) (mVar 5)) mNil))) (mTup (mCons (mOp dSub (mVar 2) (mVar 5)) (mCons (mOp dSub (mVar 2) (mVar 5)) mNil)))))))))))
def f_wants := runF 6 m_wants
def m_felt : MS := (mSeq (mDrop (mF f_need_evening (mCons (mVar 0) mNil)))
    (mSeq (mDrop (mF f_need_number (mCons (mF f_is_any (mCons (mVar 1) mNil)) mNil)))
    (mSeq (mDrop (mF f_need_number (mCons (mF f_is_any (mCons (mVar 2) mNil)) mNil)))
    (mRet (mF f_felt_of (mCons (mVar 0) (mCons (mVar 1) (mCons (mVar 2) mNil))))))))
def f_felt := runF 3 m_felt
def m__law_rows : MS := (mRet (mFz (mLst (mCons (mF f_least (mCons (mVar 0) mNil)) (mCons (mF f_least_each (mCons (mVar 0) mNil)) (mCons (mF f_how_many_lots (mCons (mVar 0) mNil)) mNil))))))
def f__law_rows := runF 1 m__law_rows
def m_law_k81 : MS := (mSeq (mFor (mRange1 (mCons (mCall dMax2 (mCons (mPure (.int 4)) (mCons (mCall dMin2 (mCons (mPure (.int 20)) (mCons (mLenO 0) mNil))) mNil))) mNil)) (gN 1) (mSeq (mSetO 2 (mFS 0 f__law_well (mCons (mVar 1) mNil)))
    (mSeq (mPar2 7 8 (mDat (mFC 2 f__law_evening (mCons (mPure (.int 6)) (mCons (mPure (.int 6)) mNil)))) (mDat (mOp dAdd (mPure (.int 1)) (mFC 2 f__law_take (mCons (mPure (.int 60)) mNil)))))
    (mSeq (mSet 3 (mF f__law_rows (mCons (mVar 7) mNil)))
    (mSeq (mSet 4 (mF f__law_later (mCons (mVar 7) (mCons (mPure (.int 0)) (mCons (mVar 8) mNil)))))
    (mSeq (mIf (mTru (mF f_is_evening (mCons (mVar 4) mNil))) (mSeq (mIf (mOr (mCmp dNe (mF f__law_rows (mCons (mVar 4) mNil)) (mVar 3)) (mCmp dNe (mF f_worst_run (mCons (mVar 4) mNil)) (mF f_worst_run (mCons (mVar 7) mNil)))) (mRet (mPure (.bool false))) mNx)
    (mSeq (mIf (mCmp dNe (mF f_earliest (mCons (mVar 4) mNil)) (mF f__law_moved (mCons (mF f_earliest (mCons (mVar 7) mNil)) (mCons (mVar 8) mNil)))) (mRet (mPure (.bool false))) mNx)
    (mSeq (mIf (mOr (mCmp dNe (mF f_latest (mCons (mVar 4) mNil)) (mF f__law_moved (mCons (mF f_latest (mCons (mVar 7) mNil)) (mCons (mVar 8) mNil)))) (mCmp dNe (mF f_run_each (mCons (mVar 4) mNil)) (mF f_run_each (mCons (mVar 7) mNil)))) (mRet (mPure (.bool false))) mNx)
    (mSeq (mIf (mOr (mCmp dNe (mF f_put_in (mCons (mVar 4) mNil)) (mF f_put_in (mCons (mVar 7) mNil))) (mCmp dNe (mF f_taken_out (mCons (mVar 4) mNil)) (mF f_taken_out (mCons (mVar 7) mNil)))) (mRet (mPure (.bool false))) mNx)
    (mIf (mCmp dNe (mF f_most_kept (mCons (mVar 4) mNil)) (mF f_most_kept (mCons (mVar 7) mNil))) (mRet (mPure (.bool false))) mNx))))) mNx)
    (mSeq (mSet 5 (mF f__law_backward (mCons (mVar 7) mNil)))
    (mSeq (mIf (mOr (mNot (mTru (mF f_is_evening (mCons (mVar 5) mNil)))) (mOr (mCmp dNe (mSl (mF f__law_rows (mCons (mVar 5) mNil)) mNoP (mPart (mPure (.int 2)))) (mSl (mVar 3) mNoP (mPart (mPure (.int 2))))) (mCmp dNe (mF f_can_stand (mCons (mVar 5) mNil)) (mF f_can_stand (mCons (mVar 7) mNil))))) (mRet (mPure (.bool false))) mNx)
    (mSeq (mIf (mOr (mCmp dNe (mF f_put_in (mCons (mVar 5) mNil)) (mUn dRev (mF f_put_in (mCons (mVar 7) mNil)))) (mCmp dNe (mF f_taken_out (mCons (mVar 5) mNil)) (mUn dRev (mF f_taken_out (mCons (mVar 7) mNil))))) (mRet (mPure (.bool false))) mNx)
    (mSeq (mSet 6 (mF f__law_longer (mCons (mVar 7) (mCons (mPure (.int 2)) mNil))))
    (mIf (mTru (mF f_is_evening (mCons (mVar 6) mNil))) (mSeq (mSet 9 (mF f__law_rows (mCons (mVar 6) mNil)))
    (mSeq (mIf (mOr (mCmp dNe (mFz (mLst (mCons (mOp dIx (mVar 9) (mPure (.int 0))) (mCons (mOp dIx (mVar 9) (mPure (.int 2))) mNil)))) (mFz (mLst (mCons (mOp dMulI (mPure (.int 2)) (mOp dIx (mVar 3) (mPure (.int 0)))) (mCons (mOp dIx (mVar 3) (mPure (.int 2))) mNil))))) (mCmp dNe (mF f_most_kept (mCons (mVar 6) mNil)) (mF f_most_kept (mCons (mVar 7) mNil)))) (mRet (mPure (.bool false))) mNx)
    (mSeq (mIf (mNot (mChain dLe dLe (mOp dSub (mOp dMulI (mPure (.int 2)) (mOp dIx (mVar 3) (mPure (.int 1)))) (mPure (.int 1))) (mOp dIx (mVar 9) (mPure (.int 1))) (mOp dMulI (mPure (.int 2)) (mOp dIx (mVar 3) (mPure (.int 1)))))) (mRet (mPure (.bool false))) mNx)
    (mIf (mOr (mCmp dNe (mF f_put_in (mCons (mVar 6) mNil)) (mFz (mComp (mItems (mF f_put_in (mCons (mVar 7) mNil))) [10] (gN 10) (mPure true) (mOp dMulI (mPure (.int 2)) (mVar 10))))) (mCmp dNe (mF f_worst_run (mCons (mVar 6) mNil)) (mF f_worst_run (mCons (mVar 7) mNil)))) (mRet (mPure (.bool false))) mNx)))) mNx)))))))))))
    (mRet (mPure (.bool true))))
def f_law_k81 := runL 11 m_law_k81
end Lw

namespace Lw
open PySem DL
def m_lowest : MS := (mSeq (mPar2 2 3 (mDat (mVar 0)) (mDat (mVar 1)))
    (mSeq (mWhile (fun _ => 64) (mCmp dNe (mVar 3) (mPure (.int 0))) (mPar2 2 3 (mDat (mVar 3)) (mDat (mOp dMod (mVar 2) (mVar 3)))))
    (mRet (mTup (mCons (mOp dDiv (mVar 0) (mVar 2)) (mCons (mOp dDiv (mVar 1) (mVar 2)) mNil))))))
def f_lowest := runF 4 m_lowest
def m_each_time : MS := (mSeq (mDrop (mF f_need_round (mCons (mVar 0) (mCons (mVar 1) mNil))))
    (mSeq (mSet 2 (mF f_table_of (mCons (mVar 0) (mCons (mVar 1) mNil))))
    (mSeq (mSet 3 (mCall dLen (mCons (mVar 2) mNil)))
    (mSeq (mSetO 4 (mLst (mCons (mOp dAdd (mFz (mLst (mCons (mPure (.int 0)) mNil))) (mFz (mRep (mCons (mPure .none) mNil) (mOp dSub (mVar 3) (mPure (.int 1)))))) mNil)))
    (mSeq (mFor (mRange1 (mCons (mVar 3) mNil)) (gN 5) (mMeth 4 dAppend (mCons (mF f_led (mCons (mIxO 4 (mUn dNeg (mPure (.int 1)))) (mCons (mVar 2) mNil))) mNil)))
    (mSeq (mSet 6 (mPure .none))
    (mSeq (mFor (mRange1 (mCons (mVar 3) mNil)) (gN 7) (mIf (mCmp dNotNone (mOp dIx (mIxO 4 (mVar 3)) (mVar 7)) (mPure .none)) (mSeq (mSet 8 (mPure .none))
    (mSeq (mFor (mRange1 (mCons (mVar 3) mNil)) (gN 5) (mIf (mCmp dNotNone (mOp dIx (mIxO 4 (mVar 5)) (mVar 7)) (mPure .none)) (mSeq (mSet 9 (mTup (mCons (mOp dSub (mOp dIx (mIxO 4 (mVar 3)) (mVar 7)) (mOp dIx (mIxO 4 (mVar 5)) (mVar 7))) (mCons (mOp dSub (mVar 3) (mVar 5)) mNil))))
    (mSet 8 (mIfE (mOr (mCmp dIsNone (mVar 8) (mPure .none)) (mCmp dLt (mOp dMulI (mOp dIx (mVar 8) (mPure (.int 0))) (mOp dIx (mVar 9) (mPure (.int 1)))) (mOp dMulI (mOp dIx (mVar 9) (mPure (.int 0))) (mOp dIx (mVar 8) (mPure (.int 1)))))) (mVar 9) (mVar 8)))) mNx))
    (mSet 6 (mIfE (mOr (mCmp dIsNone (mVar 6) (mPure .none)) (mCmp dLt (mOp dMulI (mOp dIx (mVar 8) (mPure (.int 0))) (mOp dIx (mVar 6) (mPure (.int 1)))) (mOp dMulI (mOp dIx (mVar 6) (mPure (.int 0))) (mOp dIx (mVar 8) (mPure (.int 1)))))) (mVar 8) (mVar 6))))) mNx))
    (mRet (mF f_lowest (mCons (mOp dIx (mVar 6) (mPure (.int 0))) (mCons (mOp dIx (mVar 6) (mPure (.int 1))) mNil)))))))))))
def f_each_time := runF 10 m_each_time
def m_law_k53 : MS := (mSeq (mFor (mRange1 (mCons (mCall dMax2 (mCons (mPure (.int 3)) (mCons (mCall dMin2 (mCons (mPure (.int 9)) (mCons (mLenO 0) mNil))) mNil))) mNil)) (gN 1) (mSeq (mSetO 3 (mFS 0 f__law_well (mCons (mVar 1) mNil)))
    (mSeq (mSet 4 (mFC 3 f__law_evening (mCons (mPure (.int 8)) (mCons (mPure (.int 12)) mNil))))
    (mSeq (mSet 5 (mOp dIx (mVar 4) (mUn dNeg (mPure (.int 1)))))
    (mSeq (mSet 6 (mOp dAdd (mOp dSub (mOp dAdd (mOp dIx (mVar 5) (mPure (.int 2))) (mOp dIx (mVar 5) (mPure (.int 6)))) (mOp dIx (mOp dIx (mVar 4) (mPure (.int 0))) (mPure (.int 1)))) (mFC 3 f__law_take (mCons (mPure (.int 9)) mNil))))
    (mSeq (mPar2 8 9 (mDat (mF f_each_time (mCons (mVar 4) (mCons (mVar 6) mNil)))) (mDat (mOp dAdd (mOp dIx (mVar 5) (mPure (.int 5))) (mOp dIx (mOp dIx (mVar 4) (mPure (.int 0))) (mPure (.int 4))))))
    (mSeq (mIf (mOr (mNot (mTru (mF f__law_frac_so (mCons (mVar 8) mNil)))) (mCmp dNe (mOp dIx (mVar 8) (mPure (.int 1))) (mPure (.int 1)))) (mRet (mPure (.bool false))) mNx)
    (mSeq (mFor (mItems (mFz (mLst (mCons (mPure (.int 1)) (mCons (mPure (.int 2)) (mCons (mPure (.int 3)) (mCons (mPure (.int 7)) (mCons (mPure (.int 60)) (mCons (mOp dPow (mPure (.int 10)) (mPure (.int 6))) (mCons (mOp dPow (mPure (.int 10)) (mPure (.int 15))) (mCons (mOp dAdd (mPure (.int 1)) (mFC 3 f__law_take (mCons (mOp dPow (mPure (.int 10)) (mPure (.int 9))) mNil))) mNil))))))))))) (gN 7) (mSeq (mSet 10 (mF f_over (mCons (mVar 4) (mCons (mVar 6) (mCons (mVar 7) mNil)))))
    (mIf (mOr (mCmp dGt (mOp dMulI (mVar 10) (mOp dIx (mVar 8) (mPure (.int 1)))) (mOp dMulI (mVar 7) (mOp dIx (mVar 8) (mPure (.int 0))))) (mCmp dGt (mOp dMulI (mVar 7) (mOp dIx (mVar 8) (mPure (.int 0)))) (mOp dMulI (mOp dAdd (mVar 10) (mVar 9)) (mOp dIx (mVar 8) (mPure (.int 1)))))) (mRet (mPure (.bool false))) mNx)))
    (mIf (mAnd (mCmp dEq (mF f_over (mCons (mVar 4) (mCons (mVar 6) (mCons (mOp dPow (mPure (.int 10)) (mPure (.int 15))) mNil)))) (mPure (.int 0))) (mCmp dNe (mVar 8) (mTup (mCons (mPure (.int 0)) (mCons (mPure (.int 1)) mNil))))) (mRet (mPure (.bool false))) mNx)))))))))
    (mSeq (mSet 2 (mTup (mCons (mTup (mCons (mPure (.str "a")) (mCons (mPure (.int 5)) (mCons (mPure (.int 9)) (mCons (mPure (.int 7)) (mCons (mPure (.int 2)) (mCons (mPure (.int 1)) (mCons (mPure (.int 3)) mNil)))))))) mNil)))
    (mRet (mAndV (mB (mCmp dEq (mF f_each_time (mCons (mVar 2) (mCons (mPure (.int 7)) mNil))) (mTup (mCons (mPure (.int 3)) (mCons (mPure (.int 1)) mNil))))) (mB (mCmp dEq (mF f_each_time (mCons (mVar 2) (mCons (mPure (.int 10)) mNil))) (mTup (mCons (mPure (.int 0)) (mCons (mPure (.int 1)) mNil)))))))))
def f_law_k53 := runL 11 m_law_k53
def m_law_k82 : MS := (mSeq (mFor (mRange1 (mCons (mCall dMax2 (mCons (mPure (.int 4)) (mCons (mCall dMin2 (mCons (mPure (.int 24)) (mCons (mLenO 0) mNil))) mNil))) mNil)) (gN 1) (mSeq (mSetO 2 (mFS 0 f__law_well (mCons (mVar 1) mNil)))
    (mSeq (mSet 3 (mFC 2 f__law_evening (mCons (mPure (.int 7)) (mCons (mPure (.int 12)) mNil))))
    (mSeq (mPar2 5 6 (mDat (mF f_least (mCons (mVar 3) mNil))) (mDat (mF f_least_each (mCons (mVar 3) mNil))))
    (mSeq (mPar2 7 8 (mDat (mCall dLen (mCons (mF f_most_kept (mCons (mVar 3) mNil)) mNil))) (mDat (mOp dIx (mVar 3) (mUn dNeg (mPure (.int 1))))))
    (mSeq (mFor (mItems (mFC 2 f__law_harder (mCons (mVar 3) mNil))) (gTp (gCons' (gN 9) (gCons' (gN 10) gNil'))) (mIf (mTru (mF f_is_evening (mCons (mVar 9) mNil))) (mSeq (mIf (mOr (mCmp dLt (mF f_least (mCons (mVar 9) mNil)) (mVar 5)) (mCmp dLt (mF f_least_each (mCons (mVar 9) mNil)) (mVar 6))) (mRet (mPure (.bool false))) mNx)
    (mIf (mAnd (mTru (mVar 10)) (mCmp dGt (mCall dLen (mCons (mF f_most_kept (mCons (mVar 9) mNil)) mNil)) (mVar 7))) (mRet (mPure (.bool false))) mNx)) mNx))
    (mSeq (mSet 4 (mOp dAdd (mOp dSub (mOp dAdd (mOp dIx (mVar 8) (mPure (.int 2))) (mOp dIx (mVar 8) (mPure (.int 6)))) (mOp dIx (mOp dIx (mVar 3) (mPure (.int 0))) (mPure (.int 1)))) (mFC 2 f__law_take (mCons (mPure (.int 6)) mNil))))
    (mSeq (mPar2 11 12 (mDat (mF f_each_time (mCons (mVar 3) (mCons (mVar 4) mNil)))) (mDat (mF f_each_time (mCons (mVar 3) (mCons (mOp dAdd (mVar 4) (mPure (.int 1))) mNil)))))
    (mIf (mCmp dLt (mOp dMulI (mOp dIx (mVar 11) (mPure (.int 0))) (mOp dIx (mVar 12) (mPure (.int 1)))) (mOp dMulI (mOp dIx (mVar 12) (mPure (.int 0))) (mOp dIx (mVar 11) (mPure (.int 1))))) (mRet (mPure (.bool false))) mNx)))))))))
    (mRet (mPure (.bool true))))
def f_law_k82 := runL 13 m_law_k82
end Lw

namespace DL
open PySem PySem.Spec PyProof.Rows L2
/-! ## zip of three tuples -/
def ItzT3 (K : PySem.W.Frag) (a b c : Addr) : It :=
  ⟨fun i H => ∃ (xs ys zs : List V) (x y z : V), SqT K H a xs ∧ SqT K H b ys ∧ SqT K H c zs ∧ xs[i]? = some x ∧ ys[i]? = some y ∧ zs[i]? = some z,
    fun i H v H' => ∃ T x y z, v = .ref T ∧ H T = none ∧ H' = upd H T (.tup [x, y, z]) ∧ (∀ xs, SqT K H a xs → xs[i]? = some x) ∧ (∀ ys, SqT K H b ys → ys[i]? = some y) ∧ ∀ zs, SqT K H c zs → zs[i]? = some z,
    fun i H => ∃ xs ys zs : List V, SqT K H a xs ∧ SqT K H b ys ∧ SqT K H c zs ∧ (xs.length ≤ i ∨ ys.length ≤ i ∨ zs.length ≤ i)⟩
/-- a tuple's iterator, where it stands: with more to come or at its end -/
theorem drawsT_at {prog : Program} {w : World} {A : Around} (hh : A.handled = none) (it t : Addr) (hne : t ≠ it) (items : Array Value) (i : Nat) {h : Heap} (hi : h.IsTupleIter it t i) (ht : h.IsTuple t items) :
    ∃ n St, Draws prog w A it [it, t] n (fun j v => items[j]? = some v) St ∧ St i h ∧ i ≤ n ∧ (items.size ≤ i → i = n) := by
  by_cases c : i < items.size
  · exact ⟨_, _, Draws.tuple hh it t hne items, ⟨hi, ht⟩, by omega, fun z => by omega⟩
  · exact ⟨_, _, drawsT_end hh it t hne items i (by simp; omega), ⟨rfl, hi, ht⟩, Nat.le_refl _, fun _ => rfl⟩
theorem turn_zip3 {P : Program} {w : World} {K : PySem.W.Frag} {elts : List Expr} {kk : Nat} {tpos : Pos} {a b c z TI TO i1 i2 i3 : Addr} (S : ZipSep3 z TI TO i1 i2 i3 [i1, a] [i2, b] [i3, c]) (n1 : a ≠ i1) (n2 : b ≠ i2) (n3 : c ≠ i3) :
    Turn P w K (.Tuple elts kk tpos) (ItzT3 K a b c) [z, TI, TO, i1, i2, i3] z (fun i h => IsZip h z TI TO .none ∧ IsTupOf3 h TI (.ref i1) (.ref i2) (.ref i3) ∧ (∃ x y u, IsTupOf3 h TO x y u) ∧ h.IsTupleIter i1 a i ∧ h.IsTupleIter i2 b i ∧ h.IsTupleIter i3 c i) where
  mem := by simp
  obj := fun i h st d hd => by
    obtain ⟨hz, hTI, ⟨x, y, u, hTO⟩, ⟨o1, e1, _, d1⟩, ⟨o2, e2, _, d2⟩, ⟨o3, e3, _, d3⟩⟩ := st
    have e' : d = z ∨ d = TI ∨ d = TO ∨ d = i1 ∨ d = i2 ∨ d = i3 := by simpa using hd
    rcases e' with q | q | q | q | q | q
    · rw [q]; exact ⟨_, hz, fun v q => nomatch q⟩
    · rw [q]; exact ⟨_, hTI, fun v q => nomatch q⟩
    · rw [q]; exact ⟨_, hTO, fun v q => nomatch q⟩
    · rw [q]; exact ⟨o1, e1, fun v q => by rw [d1] at q; cases q⟩
    · rw [q]; exact ⟨o2, e2, fun v q => by rw [d2] at q; cases q⟩
    · rw [q]; exact ⟨o3, e3, fun v q => by rw [d3] at q; cases q⟩
  keep := fun i h h' st k => by
    obtain ⟨hz, hTI, ⟨x, y, u, hTO⟩, h1, h2, h3⟩ := st
    exact ⟨k z (by simp) _ hz, k TI (by simp) _ hTI, ⟨x, y, u, k TO (by simp) _ hTO⟩, h1.at fun o q => k i1 (by simp) o q, h2.at fun o q => k i2 (by simp) o q, h3.at fun o q => k i3 (by simp) o q⟩
  item := by
    intro X hP hw hK hc i pins s σ H E I hf st hg
    subst hP hw hK
    obtain ⟨hz, hTI, ⟨x0, y0, u0, hTO⟩, h1, h2, h3⟩ := st
    obtain ⟨xs, ys, zs, x, y, u, hqx, hqy, hqz, hx, hy, hu0⟩ := hg
    obtain ⟨its, rv, p, _⟩ := I.tuple hqx
    obtain ⟨its2, rv2, p2, _⟩ := I.tuple hqy
    obtain ⟨its3, rv3, p3, _⟩ := I.tuple hqz
    obtain ⟨v1, hu, ru⟩ := rv.get hx
    obtain ⟨v2, hu2, ru2⟩ := rv2.get hy
    obtain ⟨v3, hu3, ru3⟩ := rv3.get hu0
    have hzl : z < s.heap.objs.size := Heap.lt_size hz
    have hh : X.A.in1.handled = none := I.ok.hd hc
    have e1 := (List.getElem?_eq_some_iff.mp hu).1
    have e2 := (List.getElem?_eq_some_iff.mp hu2).1
    have e3 := (List.getElem?_eq_some_iff.mp hu3).1
    refine wpAny_pyNext_zipD3_item S (Draws.tuple hh i1 a n1 its.toArray) (Draws.tuple hh i2 b n2 its2.toArray) (Draws.tuple hh i3 c n3 its3.toArray) hz hTI hTO ⟨h1, p⟩ ⟨h2, p2⟩ ⟨h3, p3⟩ (by simpa using e1) (by simpa using e2) (by simpa using e3) fun x1 x2 x3 h' tk y1 y2 y3 z' TO' d1 d2 d3 hT hsz hk => ?_
    have ex1 : x1 = v1 := by
      have y1 : its[i]? = some x1 := by simpa using y1
      rw [hu] at y1; exact (Option.some.inj y1).symm
    have ex2 : x2 = v2 := by
      have y2 : its2[i]? = some x2 := by simpa using y2
      rw [hu2] at y2; exact (Option.some.inj y2).symm
    have ex3 : x3 = v3 := by
      have y3 : its3[i]? = some x3 := by simpa using y3
      rw [hu3] at y3; exact (Option.some.inj y3).symm
    subst ex1 ex2 ex3
    refine ⟨_, rfl, wpAny_letOwnedTupleGo_zip (s := { s with heap := h', toks := tk }) z' fun h'' z'' sb => ?_⟩
    have hT2 : h''.get? s.heap.objs.size = some { cls := .type "tuple", data := .seq #[x1, x2, x3] } := (sb.2 _ (Nat.ne_of_gt hzl)).trans hT
    have new : ObjOk X.prog X.w (upd H s.heap.objs.size (.tup [x, y, u])) h'' s.heap.objs.size (.tup [x, y, u]) :=
      ⟨by show 3 ≤ sizeLine; decide, [x1, x2, x3], .cons ru (.cons ru2 (.cons ru3 .nil)), ⟨_, hT2, rfl, _, rfl⟩⟩
    have I1 : Inv X pins σ (upd H s.heap.objs.size (.tup [x, y, u])) { s with heap := h'', toks := tk } :=
      I.turnedNew (t' := tk) (ch := [z, TI, TO, i1, i2, i3]) (fun c o hb q => (sb.2 c (fun q' => hb (by simp [q']))).trans (hk c o (fun q' => hb (by simp [q'])) (fun q' => hb (by simp [q'])) (fun q' => hb (by simp [q'])) (fun q' => hb (by simp [q'])) (fun q' => hb (by simp [q'])) q)) hf (Nat.le_refl _) new
    refine ⟨.ref s.heap.objs.size, _, I1, rfl, ⟨_, x, y, u, rfl, I.hok.fresh (Nat.le_refl _), rfl, fun l hl => by rw [I.tuple_inj hl hqx]; exact hx, fun l hl => by rw [I.tuple_inj hl hqy]; exact hy, fun l hl => by rw [I.tuple_inj hl hqz]; exact hu0⟩, ⟨z'', ?_, ⟨x1, x2, x3, ?_⟩, ?_, ?_, ?_⟩, fun d hcm => ?_⟩
    · exact (sb.2 _ S.TIz).trans (hk _ _ S.TIz S.TITO S.TIi1 S.TIi2 S.TIi3 hTI)
    · exact (sb.2 _ S.TOz).trans TO'
    · exact d1.1.at fun o q => (sb.2 _ (Ne.symm S.zi1)).trans q
    · exact d2.1.at fun o q => (sb.2 _ (Ne.symm S.zi2)).trans q
    · exact d3.1.at fun o q => (sb.2 _ (Ne.symm S.zi3)).trans q
    · have hlt : d < s.heap.objs.size := by
        have e' : d = z ∨ d = TI ∨ d = TO ∨ d = i1 ∨ d = i2 ∨ d = i3 := by simpa using hcm
        rcases e' with q | q | q | q | q | q
        · rw [q]; exact hzl
        · rw [q]; exact Heap.lt_size hTI
        · rw [q]; exact Heap.lt_size hTO
        · rw [q]; obtain ⟨_, e1, _⟩ := h1; exact Heap.lt_size e1
        · rw [q]; obtain ⟨_, e2, _⟩ := h2; exact Heap.lt_size e2
        · rw [q]; obtain ⟨_, e3, _⟩ := h3; exact Heap.lt_size e3
      rw [upd_ne (Nat.ne_of_lt hlt)]
      exact (hf d hcm).1
  done := by
    intro X hP hw hK hc i pins s σ H E I hf st hg
    subst hP hw hK
    obtain ⟨hz, hTI, ⟨x0, y0, u0, hTO⟩, h1, h2, h3⟩ := st
    obtain ⟨xs, ys, zs, hqx, hqy, hqz, hend⟩ := hg
    obtain ⟨its, rv, p, _⟩ := I.tuple hqx
    obtain ⟨its2, rv2, p2, _⟩ := I.tuple hqy
    obtain ⟨its3, rv3, p3, _⟩ := I.tuple hqz
    have hh : X.A.in1.handled = none := I.ok.hd hc
    have l1 := rv.length
    have l2 := rv2.length
    have l3 := rv3.length
    obtain ⟨m1, St1, D1, s1, g1, k1⟩ := drawsT_at (prog := X.prog) (w := X.w) hh i1 a n1 its.toArray i h1 p
    obtain ⟨m2, St2, D2, s2, g2, k2⟩ := drawsT_at (prog := X.prog) (w := X.w) hh i2 b n2 its2.toArray i h2 p2
    obtain ⟨m3, St3, D3, s3, g3, k3⟩ := drawsT_at (prog := X.prog) (w := X.w) hh i3 c n3 its3.toArray i h3 p3
    refine wpAny_pyNext_zipD3_end S D1 D2 D3 hz hTI hTO s1 s2 s3 g1 g2 g3 ?_ fun h' tk hk => ⟨rfl, I.turnedL (t' := tk) (ch := [z, TI, TO, i1, i2, i3]) (fun d o hb q =>
        hk d o (fun q' => hb (by simp [q'])) (fun q' => hb (by simp [q'])) (fun q' => hb (by simp [q'])) (fun q' => hb (by simp [q'])) (fun q' => hb (by simp [q'])) q) hf⟩
    rcases hend with q | q | q
    · exact .inl (k1 (by simp; omega))
    · exact .inr (.inl (k2 (by simp; omega)))
    · exact .inr (.inr (k3 (by simp; omega)))
  self := fun A i s Q E st h => wpAny_pyIter_zip st.1 h
def iZip3 (K : PySem.W.Frag) (ta : TA) : TI := fun σ H R => ta σ H fun vs H1 => ∃ a b c xs ys zs, vs = [.ref a, .ref b, .ref c] ∧ SqT K H1 a xs ∧ SqT K H1 b ys ∧ SqT K H1 c zs ∧ R (ItzT3 K a b c) H1
theorem pi_zip3 {X : Cx} {e e2 e3 : Expr} {ta : TA} {p pos tpos : Pos} {elts : List Expr} {kk : Nat} (hg : Gl X "zip") (hm : X.mg "zip" = none) (ha : PA X [e, e2, e3] ta)
    (hs : starEach [e, e2, e3] X.env = (false, eval e X.env) :: starEach [e2, e3] X.env := by rfl) (hpl : (backTo pos (starEach [e2, e3] X.env)).any (·.1) = false := by rfl) :
    PI X (.Tuple elts kk tpos) (.Call (.Name "zip" p) [e, e2, e3] [] pos) (iZip3 X.K ta) := by
  refine ⟨fun pins s σ H R I h => ?_⟩
  refine Call_ (ld_blt I hg hm PyProof.Rows.boot_zip (PyProof.Rows.callWith_type1 (thn (ha.run pos pins s σ H _ I h) fun us s1 ⟨vs, H1, I1, r1, q1⟩ => ?_) hs hpl))
  obtain ⟨a, b, c, xs, ys, zs, ex, hqx, hqy, hqz, q⟩ := q1
  subst ex
  cases r1 with
  | cons r rr =>
    cases rr with
    | cons r' rr =>
      cases rr with
      | cons r'' rr =>
        cases rr
        cases r
        cases r'
        cases r''
        have fresh6 : ∀ d, d ∈ [s1.heap.objs.size + 5, s1.heap.objs.size + 3, s1.heap.objs.size + 4, s1.heap.objs.size, s1.heap.objs.size + 1, s1.heap.objs.size + 2] → FpOk X pins H1 d := fun d hcm => by
          have hle : s1.heap.objs.size ≤ d := by
            simp only [List.mem_cons, List.not_mem_nil, or_false] at hcm
            rcases hcm with z | z | z | z | z | z <;> subst z <;> first | exact Nat.le_refl _ | exact Nat.le_add_right _ _
          exact I1.fpOk hle (I1.hok.fresh hle)
        obtain ⟨its, rv, p1, _⟩ := I1.tuple hqx
        obtain ⟨its2, rv2, p2, _⟩ := I1.tuple hqy
        obtain ⟨its3, rv3, p3, _⟩ := I1.tuple hqz
        obtain ⟨o1, ho1, _⟩ := id p1
        obtain ⟨o2, ho2, _⟩ := id p2
        obtain ⟨o3, ho3, _⟩ := id p3
        have la : a < s1.heap.objs.size := Heap.lt_size ho1
        have lb : b < s1.heap.objs.size := Heap.lt_size ho2
        have lc : c < s1.heap.objs.size := Heap.lt_size ho3
        refine zip_begins3 (begins_tuple a its.toArray) (begins_tuple b its2.toArray) (begins_tuple c its3.toArray) p1 p2 p3 fun h' hz hTI hTO h1 h2 h3 hsz hk => wpAny_pyIter_zip hz ?_
        have I2 : Inv X pins σ H1 { s1 with heap := h' } := I1.kept (t' := s1.toks) hk
        exact ⟨s1.heap.objs.size + 5, [s1.heap.objs.size + 5, s1.heap.objs.size + 3, s1.heap.objs.size + 4, s1.heap.objs.size, s1.heap.objs.size + 1, s1.heap.objs.size + 2], _, _, H1, rfl, I2,
          turn_zip3 (zip_sep3 (by simpa using la) (by simpa using lb) (by simpa using lc)) (Nat.ne_of_lt la) (Nat.ne_of_lt (Nat.lt_succ_of_lt lb)) (Nat.ne_of_lt (Nat.lt_succ_of_lt (Nat.lt_succ_of_lt lc))), ⟨hz, hTI, ⟨_, _, _, hTO⟩, ⟨_, h1, rfl, rfl⟩, ⟨_, h2, rfl, rfl⟩, ⟨_, h3, rfl, rfl⟩⟩, fresh6, q⟩
theorem dtAll3 {G : Hp} {vs : List V} {d1 d2 d3 : D} (h : DtAll G vs [d1, d2, d3]) : ∃ v1 v2 v3, vs = [v1, v2, v3] ∧ Dt G v1 d1 ∧ Dt G v2 d2 ∧ Dt G v3 d3 := by
  cases h with
  | cons h1 r => cases r with
    | cons h2 r => cases r with
      | cons h3 r => cases r; exact ⟨_, _, _, rfl, h1, h2, h3⟩
def zipD3 : List D → List D → List D → List D
  | x :: xs, y :: ys, z :: zs => .tuple [x, y, z] :: zipD3 xs ys zs
  | _, _, _ => []
theorem zipD3_get : ∀ {xs ys zs : List D} {i : Nat} {d : D}, (zipD3 xs ys zs)[i]? = some d → ∃ x y z, xs[i]? = some x ∧ ys[i]? = some y ∧ zs[i]? = some z ∧ d = .tuple [x, y, z]
  | [], _, _, _, _, h => by simp [zipD3] at h
  | _ :: _, [], _, _, _, h => by simp [zipD3] at h
  | _ :: _, _ :: _, [], _, _, h => by simp [zipD3] at h
  | x :: xs, y :: ys, z :: zs, 0, d, h => by simp [zipD3] at h; exact ⟨x, y, z, rfl, rfl, rfl, h.symm⟩
  | x :: xs, y :: ys, z :: zs, i + 1, d, h => by
    have h : (zipD3 xs ys zs)[i]? = some d := by simpa [zipD3] using h
    obtain ⟨a, b, c, h1, h2, h3, e⟩ := zipD3_get h
    exact ⟨a, b, c, by simpa using h1, by simpa using h2, by simpa using h3, e⟩
theorem zipD3_len : ∀ (xs ys zs : List D), (zipD3 xs ys zs).length = min (min xs.length ys.length) zs.length
  | [], _, _ => by simp [zipD3]
  | _ :: _, [], _ => by simp [zipD3]
  | _ :: _, _ :: _, [] => by simp [zipD3]
  | x :: xs, y :: ys, z :: zs => by
    have := zipD3_len xs ys zs
    simp only [zipD3, List.length_cons]
    omega
def dZip3 : List D → Option (List D)
  | [.tuple xs, .tuple ys, .tuple zs] => some (zipD3 xs ys zs)
  | _ => none
def mZip3 (ml : M (List D)) : M (List D) := mBind ml fun ds => mOpt (dZip3 ds)
section
variable {X : Cx} {W : WX} {e e2 e3 : Expr} {ml : M (List D)} {p pos : Pos}
theorem ji_zip3 {elts : List Expr} {kk : Nat} {tpos : Pos} (hg : Gl X "zip") (hm : X.mg "zip" = none) (ha : JL X W [e, e2, e3] ml)
    (hs : starEach [e, e2, e3] X.env = (false, eval e X.env) :: starEach [e2, e3] X.env := by rfl) (hpl : (backTo pos (starEach [e2, e3] X.env)).any (·.1) = false := by rfl) : JI X W (.Tuple elts kk tpos) (.Call (.Name "zip" p) [e, e2, e3] [] pos) (mZip3 ml) := by
  refine PI.imp (pi_zip3 hg hm ha hs hpl) fun σ H R h => ?_
  obtain ⟨b, G, env, fr, h⟩ := h
  refine tL_one fr h (fun ds e1 vs G1 H1 fr1 st1 dp1 h1 => ?_) (fun c e he => he)
  obtain ⟨z, hz, h3⟩ := wpR.opt h1
  unfold dZip3 at hz
  split at hz
  · obtain ⟨v, u, w, rfl, hv, hu, hw⟩ := dtAll3 dp1
    obtain ⟨a, xs, rfl, hr, hd⟩ := dt_tup hv
    obtain ⟨b', ys, rfl, hr2, hd2⟩ := dt_tup hu
    obtain ⟨c', zs, rfl, hr3, hd3⟩ := dt_tup hw
    cases hz
    refine ⟨a, b', c', xs, ys, zs, rfl, .inl (rd_mono fr1.sub hr), .inl (rd_mono fr1.sub hr2), .inl (rd_mono fr1.sub hr3), h3 _ G1 H1 fr1 st1 ⟨fun i H s hi => ?_, fun i H s hi => ?_, fun i H G2 x H' s1 s2 hy d hdd => ?_⟩⟩
    · rw [zipD3_len] at hi
      refine ⟨xs, ys, zs, .inl (rd_mono s hr), .inl (rd_mono s hr2), .inl (rd_mono s hr3), ?_⟩
      rw [dpAll_len hd, dpAll_len hd2, dpAll_len hd3]; omega
    · rw [zipD3_len] at hi
      exact ⟨xs, ys, zs, xs[i]'(by rw [dpAll_len hd]; omega), ys[i]'(by rw [dpAll_len hd2]; omega), zs[i]'(by rw [dpAll_len hd3]; omega), .inl (rd_mono s hr), .inl (rd_mono s hr2), .inl (rd_mono s hr3), List.getElem?_eq_getElem _, List.getElem?_eq_getElem _, List.getElem?_eq_getElem _⟩
    · obtain ⟨T, x1, y1, z1, rfl, hT, rfl, q1, q2, q3⟩ := hy
      obtain ⟨dx, dy, dz, hx, hy, hz, rfl⟩ := zipD3_get hdd
      obtain ⟨v1, hv1, dv1⟩ := dpAll_get hd hx
      obtain ⟨v2, hv2, dv2⟩ := dpAll_get hd2 hy
      obtain ⟨v3, hv3, dv3⟩ := dpAll_get hd3 hz
      have e1 := q1 xs (.inl (rd_mono (s1.trans s2) hr))
      have e2 := q2 ys (.inl (rd_mono (s1.trans s2) hr2))
      have e3 := q3 zs (.inl (rd_mono (s1.trans s2) hr3))
      rw [hv1] at e1; rw [hv2] at e2; rw [hv3] at e3
      cases e1; cases e2; cases e3
      have g : Grow G2 H (upd G2 T (.tup [x1, y1, z1])) (upd H T (.tup [x1, y1, z1])) := .laid s2 hT
      exact ⟨_, g, .tup (.inl upd_same) (.cons ((dv1.mono s1).mono g.sub) (.cons ((dv2.mono s1).mono g.sub) (.cons ((dv3.mono s1).mono g.sub) .nil)))⟩
  · cases hz
end
end DL

namespace DL
open PySem PySem.Spec PyProof.Rows L2
/-! ## enumerate of a zip of two tuples: the zip's tuple stays out from turn to turn -/
/-- a zip, its first two fields open -/
abbrev ZRec (h : Heap) (z TI TO : Addr) (f0 f1 : Value) : Prop := h.get? z = some { cls := .type "zip", dict := none, data := .fields #[f0, f1, .bool false, .ref TI, .ref TO], slots := #[] }
/-- a zip between two draws: nothing out, or a tuple that may live or not -/
def ZpS (h : Heap) (z TI TO : Addr) : Prop := ZRec h z TI TO .none (.bool false) ∨ ∃ (T : Addr) (f : Bool), ZRec h z TI TO (rawInt T) (.bool f)
theorem ZpS.rec_ {h : Heap} {z TI TO : Addr} (q : ZpS h z TI TO) : ∃ f0 f1, ZRec h z TI TO f0 f1 := by
  rcases q with q | ⟨T, f, q⟩
  · exact ⟨_, _, q⟩
  · exact ⟨_, _, q⟩
theorem ZpS.at {h h' : Heap} {z TI TO : Addr} (q : ZpS h z TI TO) (k : ∀ o, h.get? z = some o → h'.get? z = some o) : ZpS h' z TI TO := by
  rcases q with q | ⟨T, f, q⟩
  · exact .inl (k _ q)
  · exact .inr ⟨T, f, k _ q⟩
structure ZOut (z TI TO i1 i2 : Addr) (St1 St2 : Nat → Heap → Prop) (i : Nat) (h h' : Heap) (x1 x2 : Value) : Prop where
  zs : ZpS h' z TI TO
  to : ∃ a b, IsTupOf2 h' TO a b
  s1 : St1 (i + 1) h'
  s2 : St2 (i + 1) h'
  new : IsTupOf2 h' h.objs.size x1 x2
  sz : h'.objs.size = h.objs.size + 1
  keep : ∀ c o, c ≠ z → c ≠ TO → c ≠ i1 → c ≠ i2 → h.get? c = some o → h'.get? c = some o
section
variable {prog : Program} {w : World} {A : Around} {E : Value → Shared → Prop} {s : Shared} {z TI TO i1 i2 : Addr} {fp1 fp2 : List Addr} {n1 n2 i : Nat} {P1 P2 : Nat → Value → Prop} {St1 St2 : Nat → Heap → Prop}
theorem gone_none {a : Addr} {Q : Option Obj → Shared → Prop} (ho : s.heap.get? a = none) (h : Q none s) : wpAny (model prog w) A (loadIfAlive a) Q E s := by
  have h' : Q (s.heap.get? a) s := by rw [ho]; exact h
  exact fun _ _ _ => h'
theorem zfree {Q : Bool → Shared → Prop} (h : ZpS s.heap z TI TO) (q1 : Q true s) (q2 : ∀ h' (T : Addr), ZRec h' z TI TO (rawInt T) (.bool true) → Heap.SameBut z s.heap h' → Q false { s with heap := h' }) :
    wpAny (model prog w) A (Builtin.SmallTypes.ownedTupleIsFree (.ref z)) Q E s := by
  rcases h with h | ⟨T, f, h⟩
  · unfold Builtin.SmallTypes.ownedTupleIsFree
    exact wpAny_bind (wpAny_field h rfl (x := .none) rfl (wpAny_pure q1))
  · cases hT : s.heap.get? T with
    | some oT => exact wpAny_tupleHeld_zip h hT fun h' a b => q2 h' T a b
    | none =>
      unfold Builtin.SmallTypes.ownedTupleIsFree
      refine wpAny_bind (wpAny_field h rfl (x := rawInt T) rfl ?_)
      show wpAny _ _ (loadIfAlive ((T : Int).toNat) >>= _) _ _ _
      rw [Int.toNat_natCast]
      refine wpAny_bind (gone_none hT ?_)
      simp only [Option.isNone_none, if_true]
      exact wpAny_pure q1
theorem zA_item {Q : Value → Shared → Prop} (S : ZipSep2 z TI TO i1 i2 fp1 fp2) (D1 : Draws prog w A i1 fp1 n1 P1 St1) (D2 : Draws prog w A i2 fp2 n2 P2 St2)
    (hz : ZpS s.heap z TI TO) (hTI : IsTupOf2 s.heap TI (.ref i1) (.ref i2)) (hTO : ∃ a b, IsTupOf2 s.heap TO a b) (st1 : St1 i s.heap) (st2 : St2 i s.heap) (l1 : i < n1) (l2 : i < n2)
    (hQ : ∀ x1 x2 h' tk, P1 i x1 → P2 i x2 → ZOut z TI TO i1 i2 St1 St2 i s.heap h' x1 x2 → Q (.ref s.heap.objs.size) { s with heap := h', toks := tk }) :
    wpAny (model prog w) A (Builtin.«zip.__next__» ⟨[.ref z], []⟩) (fun fin s' => ∃ v, fin = .done (.ret v) ∧ Q v s') E s := by
  obtain ⟨hp, g, d, tk0, os⟩ := s
  obtain ⟨f0, f1, hr⟩ := hz.rec_
  obtain ⟨a1, a2, hTO⟩ := hTO
  show wpAny _ _ (field (.ref z) 2 >>= _) _ _ _
  refine wpAny_bind (wpAny_field hr rfl (x := .bool false) rfl ?_)
  show wpAny _ _ (field (.ref z) 3 >>= _) _ _ _
  refine wpAny_bind (wpAny_field hr rfl (x := .ref TI) rfl ?_)
  refine wpAny_bind (wpAny_seqItems hTI rfl ?_)
  show wpAny _ _ (Builtin.SmallTypes.ownedTupleIsFree (.ref z) >>= _) _ _ _
  refine wpAny_bind (zfree hz ?_ fun g0 T hz0 hs0 => ?_)
  · simp only [if_true]
    refine wpAny_bind (wpAny_rule ?_)
    refine wpAny_bind (wpAny_field hr rfl (x := .ref TO) rfl ?_)
    refine wpAny_bind (wpAny_setField_rec hr (by simp) fun g0 hz0 hs0 => ?_)
    replace hz0 : ZRec g0 z TI TO .ellipsis f1 := hz0
    replace hs0 : Heap.SameBut z hp g0 := hs0
    refine wpAny_bind ?_
    simp only [List.zipIdx_cons, List.zipIdx_nil, List.forIn_cons, List.forIn_nil]
    refine wpAny_bind (wpAny_bind (wpAny_onRaise ?_))
    show wpAny _ _ (Builtin.SmallTypes.nextOf (.ref i1) >>= _) _ _ ⟨g0, g, d, tk0, os⟩
    refine wpAny_bind (D1.item i _ _ _ l1 (D1.over st1 hs0 S.zf1) fun x1 p1 tk1 hx1 sn1 hp1 => wpAny_pure ?_)
    replace hp1 : Heap.SameBut i1 g0 p1 := hp1
    have hU1 : IsTupOf2 p1 TO a1 a2 := hp1.extBut _ _ S.Ti1 (hs0.extBut _ _ S.TOz hTO)
    refine wpAny_bind (wpAny_seqItems (s := ⟨p1, g, d, tk1, os⟩) hU1 rfl ?_)
    refine wpAny_bind (updateSeq_IsTupOf2 (s := ⟨p1, g, d, tk1, os⟩) hU1 fun g1 hT1 hs1 => ?_)
    replace hT1 : IsTupOf2 g1 TO x1 a2 := hT1
    replace hs1 : Heap.SameBut TO p1 g1 := hs1
    refine wpAny_bind (wpAny_letGo (wpAny_pure ?_))
    refine wpAny_bind (wpAny_bind (wpAny_onRaise ?_))
    show wpAny _ _ (Builtin.SmallTypes.nextOf (.ref i2) >>= _) _ _ ⟨g1, g, d, tk1, os⟩
    refine wpAny_bind (D2.item i _ _ _ l2 (D2.over (D2.over (D2.over st2 hs0 S.zf2) hp1 S.sep1_2) hs1 S.Tf2) fun x2 p2 tk2 hx2 sn2 hp2 => wpAny_pure ?_)
    replace hp2 : Heap.SameBut i2 g1 p2 := hp2
    have hU2 : IsTupOf2 p2 TO x1 a2 := hp2.extBut _ _ S.Ti2 hT1
    refine wpAny_bind (wpAny_seqItems (s := ⟨p2, g, d, tk2, os⟩) hU2 rfl ?_)
    refine wpAny_bind (updateSeq_IsTupOf2 (s := ⟨p2, g, d, tk2, os⟩) hU2 fun g2 hT2 hs2 => ?_)
    replace hT2 : IsTupOf2 g2 TO x1 x2 := hT2
    replace hs2 : Heap.SameBut TO p2 g2 := hs2
    refine wpAny_bind (wpAny_letGo (wpAny_pure (wpAny_pure ?_)))
    refine wpAny_bind (wpAny_seqItems (s := ⟨g2, g, d, tk2, os⟩) hT2 rfl ?_)
    refine wpAny_bind (wpAny_newTuple ?_)
    have hsz : g2.objs.size = hp.objs.size := by rw [hs2.1, hp2.1, hs1.1, hp1.1, hs0.1]
    have hzz : ZRec g2 z TI TO .ellipsis f1 := hs2.extBut _ _ S.TOz.symm (hp2.extBut _ _ S.zi2 (hs1.extBut _ _ S.TOz.symm (hp1.extBut _ _ S.zi1 hz0)))
    have hkk : ∀ c o, c ≠ z → c ≠ TO → c ≠ i1 → c ≠ i2 → hp.get? c = some o → g2.get? c = some o := fun c o cz cT c1 c2 e =>
      hs2.extBut _ _ cT (hp2.extBut _ _ c2 (hs1.extBut _ _ cT (hp1.extBut _ _ c1 (hs0.extBut _ _ cz e))))
    have hj1 : St1 (i + 1) g2 := D1.over (D1.over (D1.over sn1 hs1 S.Tf1) hp2 S.sep2_1) hs2 S.Tf1
    have hj2 : St2 (i + 1) g2 := D2.over sn2 hs2 S.Tf2
    have hzlt : z < g2.objs.size := Heap.lt_size hzz
    show wpAny _ _ (Builtin.SmallTypes.ownedTupleHandOut (.ref z) (.ref g2.objs.size) >>= _) _ _ ⟨g2.push { cls := .type "tuple", data := .seq #[x1, x2] }, g, d, tk2, os⟩
    refine wpAny_bind ?_
    unfold Builtin.SmallTypes.ownedTupleHandOut
    have hz6 : ZRec (g2.push { cls := .type "tuple", data := .seq #[x1, x2] }) z TI TO .ellipsis f1 := Heap.get?_push_of_some _ hzz
    refine wpAny_bind (wpAny_setField_rec hz6 (by simp) fun h7 hz7 hs7 => ?_)
    replace hz7 : ZRec h7 z TI TO (rawInt g2.objs.size) f1 := hz7
    refine wpAny_setField_rec hz7 (by simp) fun h8 hz8 hs8 => ?_
    replace hz8 : ZRec h8 z TI TO (rawInt g2.objs.size) (.bool false) := hz8
    replace hs7 : Heap.SameBut z (g2.push { cls := .type "tuple", data := .seq #[x1, x2] }) h7 := hs7
    replace hs8 : Heap.SameBut z h7 h8 := hs8
    have up : ∀ c o, c ≠ z → g2.get? c = some o → h8.get? c = some o := fun c o c1 e => hs8.extBut _ _ c1 (hs7.extBut _ _ c1 (Heap.get?_push_of_some _ e))
    have hT8 : IsTupOf2 h8 g2.objs.size x1 x2 := hs8.extBut _ _ (Nat.ne_of_gt hzlt) (hs7.extBut _ _ (Nat.ne_of_gt hzlt) (Heap.get?_push_size _ rfl))
    have hn8 : h8.objs.size = g2.objs.size + 1 := by rw [hs8.1, hs7.1, Heap.size_push]
    rw [hsz] at hT8 hn8
    refine wpAny_pure ⟨_, rfl, ?_⟩
    show Q (.ref g2.objs.size) ⟨h8, g, d, tk2, os⟩
    rw [hsz]
    exact hQ x1 x2 h8 tk2 hx1 hx2 ⟨.inr ⟨_, _, hz8⟩, ⟨_, _, up _ _ S.TOz hT2⟩, D1.frame _ _ _ hj1 fun b hb o e => up b o (fun q => S.zf1 (q ▸ hb)) e, D2.frame _ _ _ hj2 fun b hb o e => up b o (fun q => S.zf2 (q ▸ hb)) e, hT8, hn8, fun c o cz cT c1 c2 e => up c o cz (hkk c o cz cT c1 c2 e)⟩
  · replace hs0 : Heap.SameBut z hp g0 := hs0
    simp only [Bool.false_eq_true, if_false]
    refine wpAny_bind ?_
    rw [← Array.forIn_toList]
    simp only [List.forIn_cons, List.forIn_nil]
    refine wpAny_bind (wpAny_bind (wpAny_holding ?_))
    show wpAny _ _ (Builtin.SmallTypes.nextOf (.ref i1) >>= _) _ _ ⟨g0, g, d, tk0, os⟩
    refine wpAny_bind (D1.item i _ _ _ l1 (D1.over st1 hs0 S.zf1) fun x1 p1 tk1 hx1 sn1 hp1 => wpAny_pure ?_)
    replace hp1 : Heap.SameBut i1 g0 p1 := hp1
    refine wpAny_pure ?_
    refine wpAny_bind (wpAny_bind (wpAny_holding ?_))
    show wpAny _ _ (Builtin.SmallTypes.nextOf (.ref i2) >>= _) _ _ ⟨p1, g, d, tk1, os⟩
    refine wpAny_bind (D2.item i _ _ _ l2 (D2.over (D2.over st2 hs0 S.zf2) hp1 S.sep1_2) fun x2 p2 tk2 hx2 sn2 hp2 => wpAny_pure ?_)
    replace hp2 : Heap.SameBut i2 p1 p2 := hp2
    refine wpAny_pure (wpAny_pure ?_)
    show wpAny _ _ (newTuple [x1, x2] >>= _) _ _ _
    refine wpAny_bind (wpAny_newTuple ?_)
    have hsz : p2.objs.size = hp.objs.size := by rw [hp2.1, hp1.1, hs0.1]
    have hz3 : ZRec p2 z TI TO (rawInt T) (.bool true) := hp2.extBut _ _ S.zi2 (hp1.extBut _ _ S.zi1 hz0)
    have hk : ∀ c o, c ≠ z → c ≠ i1 → c ≠ i2 → hp.get? c = some o → p2.get? c = some o := fun c o c1 c2 c3 e => hp2.extBut _ _ c3 (hp1.extBut _ _ c2 (hs0.extBut _ _ c1 e))
    have hj1 : St1 (i + 1) p2 := D1.over sn1 hp2 S.sep2_1
    refine wpAny_pure ⟨_, rfl, ?_⟩
    show Q (.ref p2.objs.size) _
    have hT : IsTupOf2 (p2.push { cls := .type "tuple", data := .seq #[x1, x2] }) p2.objs.size x1 x2 := Heap.get?_push_size _ rfl
    have hn : (p2.push { cls := .type "tuple", data := .seq #[x1, x2] }).objs.size = p2.objs.size + 1 := Heap.size_push ..
    rw [hsz] at hT hn ⊢
    exact hQ x1 x2 _ tk2 hx1 hx2 ⟨.inr ⟨T, true, Heap.get?_push_of_some _ hz3⟩, ⟨_, _, Heap.get?_push_of_some _ (hk _ _ S.TOz S.Ti1 S.Ti2 hTO)⟩, D1.frame _ _ _ hj1 fun b hb o e => Heap.get?_push_of_some _ e, D2.frame _ _ _ sn2 fun b hb o e => Heap.get?_push_of_some _ e, hT, hn, fun c o cz cT c1 c2 e => Heap.get?_push_of_some _ (hk c o cz c1 c2 e)⟩
theorem zA_end {Q : Fin → Shared → Prop} (S : ZipSep2 z TI TO i1 i2 fp1 fp2) (D1 : Draws prog w A i1 fp1 n1 P1 St1) (D2 : Draws prog w A i2 fp2 n2 P2 St2)
    (hz : ZpS s.heap z TI TO) (hTI : IsTupOf2 s.heap TI (.ref i1) (.ref i2)) (hTO : ∃ a b, IsTupOf2 s.heap TO a b) (st1 : St1 i s.heap) (st2 : St2 i s.heap) (l1 : i ≤ n1) (l2 : i ≤ n2) (hend : i = n1 ∨ i = n2)
    (hE : ∀ h' tk e, (∀ c o, c ≠ z → c ≠ TO → c ≠ i1 → c ≠ i2 → s.heap.get? c = some o → h'.get? c = some o) → (∃ o, h'.get? e = some o ∧ o.cls = .type "StopIteration") → E (.ref e) { s with heap := h', toks := tk }) :
    wpAny (model prog w) A (Builtin.«zip.__next__» ⟨[.ref z], []⟩) Q E s := by
  obtain ⟨hp, g, d, tk0, os⟩ := s
  obtain ⟨f0, f1, hr⟩ := hz.rec_
  obtain ⟨a1, a2, hTO⟩ := hTO
  show wpAny _ _ (field (.ref z) 2 >>= _) _ _ _
  refine wpAny_bind (wpAny_field hr rfl (x := .bool false) rfl ?_)
  show wpAny _ _ (field (.ref z) 3 >>= _) _ _ _
  refine wpAny_bind (wpAny_field hr rfl (x := .ref TI) rfl ?_)
  refine wpAny_bind (wpAny_seqItems hTI rfl ?_)
  show wpAny _ _ (Builtin.SmallTypes.ownedTupleIsFree (.ref z) >>= _) _ _ _
  refine wpAny_bind (zfree hz ?_ fun g0 T hz0 hs0 => ?_)
  · simp only [if_true]
    refine wpAny_bind (wpAny_rule ?_)
    refine wpAny_bind (wpAny_field hr rfl (x := .ref TO) rfl ?_)
    refine wpAny_bind (wpAny_setField_rec hr (by simp) fun g0 hz0 hs0 => ?_)
    replace hz0 : ZRec g0 z TI TO .ellipsis f1 := hz0
    replace hs0 : Heap.SameBut z hp g0 := hs0
    refine wpAny_bind ?_
    simp only [List.zipIdx_cons, List.zipIdx_nil, List.forIn_cons, List.forIn_nil]
    refine wpAny_bind (wpAny_bind (wpAny_onRaise ?_))
    show wpAny _ _ (Builtin.SmallTypes.nextOf (.ref i1) >>= _) _ _ ⟨g0, g, d, tk0, os⟩
    by_cases hlt1 : i < n1
    · refine wpAny_bind (D1.item i _ _ _ hlt1 (D1.over st1 hs0 S.zf1) fun x1 p1 tk1 hx1 sn1 hp1 => wpAny_pure ?_)
      replace hp1 : Heap.SameBut i1 g0 p1 := hp1
      have hU1 : IsTupOf2 p1 TO a1 a2 := hp1.extBut _ _ S.Ti1 (hs0.extBut _ _ S.TOz hTO)
      refine wpAny_bind (wpAny_seqItems (s := ⟨p1, g, d, tk1, os⟩) hU1 rfl ?_)
      refine wpAny_bind (updateSeq_IsTupOf2 (s := ⟨p1, g, d, tk1, os⟩) hU1 fun g1 hT1 hs1 => ?_)
      replace hs1 : Heap.SameBut TO p1 g1 := hs1
      refine wpAny_bind (wpAny_letGo (wpAny_pure ?_))
      have hi2 : i = n2 := by omega
      refine wpAny_bind (wpAny_bind (wpAny_onRaise ?_))
      show wpAny _ _ (Builtin.SmallTypes.nextOf (.ref i2) >>= _) _ _ ⟨g1, g, d, tk1, os⟩
      refine wpAny_bind (D2.done ⟨g1, g, d, tk1, os⟩ _ _ (by rw [← hi2]; exact D2.over (D2.over (D2.over st2 hs0 S.zf2) hp1 S.sep1_2) hs1 S.Tf2) fun q e hq he => ?_)
      replace hq : Heap.ExtBut i2 g1 q := hq
      obtain ⟨oe, hoe, hce⟩ := he
      replace hoe : q.get? e = some oe := hoe
      have hzq : ZRec q z TI TO .ellipsis f1 := hq _ _ S.zi2 (hs1.extBut _ _ S.TOz.symm (hp1.extBut _ _ S.zi1 hz0))
      have hez : e ≠ z := fun x => by subst x; rw [hzq] at hoe; cases hoe; simp at hce
      refine wpAny_setField_rec (s := ⟨q, g, d, tk1, os⟩) hzq (by simp) fun q' _ hq' => ?_
      replace hq' : Heap.SameBut z q q' := hq'
      exact hE q' tk1 e (fun c o cz cT c1 c2 x => hq'.extBut _ _ cz (hq _ _ c2 (hs1.extBut _ _ cT (hp1.extBut _ _ c1 (hs0.extBut _ _ cz x))))) ⟨oe, hq'.extBut _ _ hez hoe, hce⟩
    · have hi1 : i = n1 := by omega
      refine wpAny_bind (D1.done ⟨g0, g, d, tk0, os⟩ _ _ (by rw [← hi1]; exact D1.over st1 hs0 S.zf1) fun q e hq he => ?_)
      replace hq : Heap.ExtBut i1 g0 q := hq
      obtain ⟨oe, hoe, hce⟩ := he
      replace hoe : q.get? e = some oe := hoe
      have hzq : ZRec q z TI TO .ellipsis f1 := hq _ _ S.zi1 hz0
      have hez : e ≠ z := fun x => by subst x; rw [hzq] at hoe; cases hoe; simp at hce
      refine wpAny_setField_rec (s := ⟨q, g, d, tk0, os⟩) hzq (by simp) fun q' _ hq' => ?_
      replace hq' : Heap.SameBut z q q' := hq'
      exact hE q' tk0 e (fun c o cz cT c1 c2 x => hq'.extBut _ _ cz (hq _ _ c1 (hs0.extBut _ _ cz x))) ⟨oe, hq'.extBut _ _ hez hoe, hce⟩
  · replace hs0 : Heap.SameBut z hp g0 := hs0
    simp only [Bool.false_eq_true, if_false]
    refine wpAny_bind ?_
    rw [← Array.forIn_toList]
    simp only [List.forIn_cons, List.forIn_nil]
    refine wpAny_bind (wpAny_bind (wpAny_holding ?_))
    show wpAny _ _ (Builtin.SmallTypes.nextOf (.ref i1) >>= _) _ _ ⟨g0, g, d, tk0, os⟩
    by_cases hlt1 : i < n1
    · refine wpAny_bind (D1.item i _ _ _ hlt1 (D1.over st1 hs0 S.zf1) fun x1 p1 tk1 hx1 sn1 hp1 => wpAny_pure ?_)
      replace hp1 : Heap.SameBut i1 g0 p1 := hp1
      refine wpAny_pure ?_
      have hi2 : i = n2 := by omega
      refine wpAny_bind (wpAny_bind (wpAny_holding ?_))
      show wpAny _ _ (Builtin.SmallTypes.nextOf (.ref i2) >>= _) _ _ ⟨p1, g, d, tk1, os⟩
      refine wpAny_bind (D2.done ⟨p1, g, d, tk1, os⟩ _ _ (by rw [← hi2]; exact D2.over (D2.over st2 hs0 S.zf2) hp1 S.sep1_2) fun q e hq he => ?_)
      replace hq : Heap.ExtBut i2 p1 q := hq
      exact hE q tk1 e (fun c o cz cT c1 c2 x => hq _ _ c2 (hp1.extBut _ _ c1 (hs0.extBut _ _ cz x))) he
    · have hi1 : i = n1 := by omega
      refine wpAny_bind (D1.done ⟨g0, g, d, tk0, os⟩ _ _ (by rw [← hi1]; exact D1.over st1 hs0 S.zf1) fun q e hq he => ?_)
      replace hq : Heap.ExtBut i1 g0 q := hq
      exact hE q tk0 e (fun c o cz cT c1 c2 x => hq _ _ c1 (hs0.extBut _ _ cz x)) he
theorem zA_nextOf {Q : Value → Shared → Prop} (S : ZipSep2 z TI TO i1 i2 fp1 fp2) (D1 : Draws prog w A.in1 i1 fp1 n1 P1 St1) (D2 : Draws prog w A.in1 i2 fp2 n2 P2 St2)
    (hz : ZpS s.heap z TI TO) (hTI : IsTupOf2 s.heap TI (.ref i1) (.ref i2)) (hTO : ∃ a b, IsTupOf2 s.heap TO a b) (st1 : St1 i s.heap) (st2 : St2 i s.heap) (l1 : i < n1) (l2 : i < n2)
    (hQ : ∀ x1 x2 h' tk, P1 i x1 → P2 i x2 → ZOut z TI TO i1 i2 St1 St2 i s.heap h' x1 x2 → Q (.ref s.heap.objs.size) { s with heap := h', toks := tk }) :
    wpAny (model prog w) A (Builtin.SmallTypes.nextOf (.ref z)) Q E s := by
  obtain ⟨f0, f1, hr⟩ := hz.rec_
  have hT : s.TypeIs (.ref z) "zip" := ⟨_, hr, rfl⟩
  unfold Builtin.SmallTypes.nextOf
  exact wpAny_bind (wpAny_callSpecial?_slot (name := Str.ofString "__next__") hT F.slot_zip_next
    (wpAny_call_entry F.slot_zip_next hT F.entry_zip_next (zA_item S D1 D2 hz hTI hTO st1 st2 l1 l2 fun x1 x2 h' tk y1 y2 o => wpAny_pure (hQ x1 x2 h' tk y1 y2 o)) (F.args_zip_next_1 _)))
theorem zA_nextOf_end {Q : Value → Shared → Prop} (S : ZipSep2 z TI TO i1 i2 fp1 fp2) (D1 : Draws prog w A.in1 i1 fp1 n1 P1 St1) (D2 : Draws prog w A.in1 i2 fp2 n2 P2 St2)
    (hz : ZpS s.heap z TI TO) (hTI : IsTupOf2 s.heap TI (.ref i1) (.ref i2)) (hTO : ∃ a b, IsTupOf2 s.heap TO a b) (st1 : St1 i s.heap) (st2 : St2 i s.heap) (l1 : i ≤ n1) (l2 : i ≤ n2) (hend : i = n1 ∨ i = n2)
    (hE : ∀ h' tk e, (∀ c o, c ≠ z → c ≠ TO → c ≠ i1 → c ≠ i2 → s.heap.get? c = some o → h'.get? c = some o) → (∃ o, h'.get? e = some o ∧ o.cls = .type "StopIteration") → E (.ref e) { s with heap := h', toks := tk }) :
    wpAny (model prog w) A (Builtin.SmallTypes.nextOf (.ref z)) Q E s := by
  obtain ⟨f0, f1, hr⟩ := hz.rec_
  have hT : s.TypeIs (.ref z) "zip" := ⟨_, hr, rfl⟩
  unfold Builtin.SmallTypes.nextOf
  exact wpAny_bind (wpAny_callSpecial?_slot (name := Str.ofString "__next__") hT F.slot_zip_next
    (wpAny_call_entry F.slot_zip_next hT F.entry_zip_next (zA_end S D1 D2 hz hTI hTO st1 st2 l1 l2 hend hE) (F.args_zip_next_1 _)))
/-- enumerate's draw, of a zip -/
theorem eZ_item {e : Addr} {c : Int} {old : Value} {Q : Value → Shared → Prop} (he : IsEnum s.heap e z c old) (S : ZipSep2 z TI TO i1 i2 fp1 fp2) (D1 : Draws prog w A.in1 i1 fp1 n1 P1 St1) (D2 : Draws prog w A.in1 i2 fp2 n2 P2 St2)
    (hz : ZpS s.heap z TI TO) (hTI : IsTupOf2 s.heap TI (.ref i1) (.ref i2)) (hTO : ∃ a b, IsTupOf2 s.heap TO a b) (st1 : St1 i s.heap) (st2 : St2 i s.heap) (l1 : i < n1) (l2 : i < n2)
    (ez : e ≠ z) (eO : e ≠ TO) (e1 : e ≠ i1) (e2 : e ≠ i2)
    (hQ : ∀ x1 x2 hm h' tk, P1 i x1 → P2 i x2 → ZOut z TI TO i1 i2 St1 St2 i s.heap hm x1 x2 → IsEnumOut h' e z (c + 1) (.ref s.heap.objs.size) (s.heap.objs.size + 1) →
      h'.get? (s.heap.objs.size + 1) = some { cls := .type "tuple", data := .seq #[.int c tk, .ref s.heap.objs.size] } → (∀ b o, b ≠ e → hm.get? b = some o → h'.get? b = some o) →
      Q (.ref (s.heap.objs.size + 1)) { s with heap := h', toks := tk + 1 }) :
    wpAny (model prog w) A (Builtin.«enumerate.__next__» ⟨[.ref e], []⟩) (fun fin s' => ∃ v, fin = .done (.ret v) ∧ Q v s') E s := by
  obtain ⟨hp, g, d, tk0, os⟩ := s
  show wpAny _ _ (field (.ref e) 2 >>= _) _ _ _
  refine wpAny_bind (wpAny_field he rfl (x := .ref z) rfl ?_)
  refine wpAny_bind (zA_nextOf S D1 D2 hz hTI hTO st1 st2 l1 l2 fun x1 x2 hm tk y1 y2 o => ?_)
  have hem : IsEnum hm e z c old := o.keep e _ ez eO e1 e2 he
  show wpAny _ _ (field (.ref e) 3 >>= _) _ _ ⟨hm, g, d, tk, os⟩
  refine wpAny_bind (wpAny_field hem rfl (x := rawInt c) rfl ?_)
  show wpAny _ _ (field (.ref e) 4 >>= _) _ _ ⟨hm, g, d, tk, os⟩
  refine wpAny_bind (wpAny_field hem rfl (x := .none) rfl ?_)
  show wpAny _ _ (mkInt c >>= _) _ _ ⟨hm, g, d, tk, os⟩
  refine wpAny_bind (wpAny_mkInt ?_)
  show wpAny _ _ (setField (.ref e) 3 (rawInt (c + 1)) >>= _) _ _ ⟨hm, g, d, tk + 1, os⟩
  refine wpAny_bind (wpAny_setField_rec hem (by simp) fun h2 he2 hs2 => ?_)
  replace hs2 : Heap.SameBut e hm h2 := hs2
  replace he2 : IsEnum h2 e z (c + 1) old := he2
  show wpAny _ _ (setField (.ref e) 4 .none >>= _) _ _ ⟨h2, g, d, tk + 1, os⟩
  refine wpAny_bind (wpAny_setField_rec he2 (by simp) fun h3 he3 hs3 => ?_)
  replace hs3 : Heap.SameBut e h2 h3 := hs3
  replace he3 : IsEnum h3 e z (c + 1) old := he3
  show wpAny _ _ (newTuple [.int c tk, .ref hp.objs.size] >>= _) _ _ ⟨h3, g, d, tk + 1, os⟩
  refine wpAny_bind (wpAny_newTuple ?_)
  have hsz : h3.objs.size = hp.objs.size + 1 := by rw [hs3.1, hs2.1, o.sz]
  have hel : e < h3.objs.size := Heap.lt_size he3
  have he4 : IsEnum (h3.push { cls := .type "tuple", data := .seq #[.int c tk, .ref hp.objs.size] }) e z (c + 1) old := Heap.get?_push_of_some _ he3
  have ht4 : (h3.push { cls := .type "tuple", data := .seq #[.int c tk, .ref hp.objs.size] }).get? (hp.objs.size + 1) = some { cls := .type "tuple", data := .seq #[.int c tk, .ref hp.objs.size] } := by rw [← hsz]; exact Heap.get?_push_size _ rfl
  have hk4 : ∀ b o', b ≠ e → hm.get? b = some o' → (h3.push { cls := .type "tuple", data := .seq #[.int c tk, .ref hp.objs.size] }).get? b = some o' := fun b o' hb q => Heap.get?_push_of_some _ (hs3.extBut b o' hb (hs2.extBut b o' hb q))
  generalize h3.push { cls := .type "tuple", data := .seq #[.int c tk, .ref hp.objs.size] } = h4 at he4 ht4 hk4
  show wpAny _ _ (Builtin.SmallTypes.ownedTupleIsFree (.ref e) >>= _) _ _ ⟨h4, g, d, tk + 1, os⟩
  rw [hsz] at hel ⊢
  refine wpAny_bind ?_
  unfold Builtin.SmallTypes.ownedTupleIsFree
  refine wpAny_bind (wpAny_field he4 rfl (x := .none) rfl (wpAny_pure ?_))
  simp only [if_true]
  refine wpAny_bind (wpAny_rule ?_)
  refine wpAny_bind (wpAny_field he4 rfl (x := old) rfl ?_)
  refine wpAny_bind (wpAny_setField_rec he4 (by simp) fun h5 he5 hs5 => ?_)
  replace hs5 : Heap.SameBut e h4 h5 := hs5
  replace he5 : IsEnum h5 e z (c + 1) (.ref hp.objs.size) := he5
  show wpAny _ _ (Builtin.SmallTypes.ownedTupleHandOut (.ref e) (.ref (hp.objs.size + 1)) >>= _) _ _ ⟨h5, g, d, tk + 1, os⟩
  refine wpAny_bind ?_
  unfold Builtin.SmallTypes.ownedTupleHandOut
  refine wpAny_bind (wpAny_setField_rec he5 (by simp) fun h6 he6 hs6 => ?_)
  replace hs6 : Heap.SameBut e h5 h6 := hs6
  replace he6 : IsEnumOut h6 e z (c + 1) (.ref hp.objs.size) (hp.objs.size + 1) := he6
  refine wpAny_setField_rec he6 (by simp) fun h7 he7 hs7 => ?_
  replace hs7 : Heap.SameBut e h6 h7 := hs7
  replace he7 : IsEnumOut h7 e z (c + 1) (.ref hp.objs.size) (hp.objs.size + 1) := he7
  have up : ∀ b o', b ≠ e → h4.get? b = some o' → h7.get? b = some o' := fun b o' hb q => hs7.extBut b o' hb (hs6.extBut b o' hb (hs5.extBut b o' hb q))
  refine wpAny_bind (wpAny_letGo (wpAny_pure ⟨_, rfl, hQ x1 x2 hm h7 tk y1 y2 o he7 (up _ _ (Nat.ne_of_gt hel) ht4) fun b o' hb q => up b o' hb (hk4 b o' hb q)⟩))
theorem eZ_pyNext {e : Addr} {c : Int} {old : Value} {Q : Option Value → Shared → Prop} (he : IsEnum s.heap e z c old) (S : ZipSep2 z TI TO i1 i2 fp1 fp2) (D1 : Draws prog w A.in1.in1 i1 fp1 n1 P1 St1) (D2 : Draws prog w A.in1.in1 i2 fp2 n2 P2 St2)
    (hz : ZpS s.heap z TI TO) (hTI : IsTupOf2 s.heap TI (.ref i1) (.ref i2)) (hTO : ∃ a b, IsTupOf2 s.heap TO a b) (st1 : St1 i s.heap) (st2 : St2 i s.heap) (l1 : i < n1) (l2 : i < n2)
    (ez : e ≠ z) (eO : e ≠ TO) (e1 : e ≠ i1) (e2 : e ≠ i2)
    (hQ : ∀ x1 x2 hm h' tk, P1 i x1 → P2 i x2 → ZOut z TI TO i1 i2 St1 St2 i s.heap hm x1 x2 → IsEnumOut h' e z (c + 1) (.ref s.heap.objs.size) (s.heap.objs.size + 1) →
      h'.get? (s.heap.objs.size + 1) = some { cls := .type "tuple", data := .seq #[.int c tk, .ref s.heap.objs.size] } → (∀ b o, b ≠ e → hm.get? b = some o → h'.get? b = some o) →
      Q (some (.ref (s.heap.objs.size + 1))) { s with heap := h', toks := tk + 1 }) :
    wpAny (model prog w) A (pyNext (.ref e)) Q E s := by
  have hT : s.TypeIs (.ref e) "enumerate" := ⟨_, he, rfl⟩
  unfold pyNext
  exact wpAny_bind (wpAny_attempt (wpAny_callSpecial?_slot (name := Str.ofString "__next__") hT F.slot_enumerate_next
    (wpAny_call_entry F.slot_enumerate_next hT F.entry_enumerate_next
      (eZ_item he S D1 D2 hz hTI hTO st1 st2 l1 l2 ez eO e1 e2 fun x1 x2 hm h' tk y1 y2 o a b k => wpAny_pure (hQ x1 x2 hm h' tk y1 y2 o a b k)) (F.args_enumerate_next_1 _))))
theorem eZ_pyNext_end {e : Addr} {c : Int} {old : Value} {Q : Option Value → Shared → Prop} (he : IsEnum s.heap e z c old) (S : ZipSep2 z TI TO i1 i2 fp1 fp2) (D1 : Draws prog w A.in1.in1 i1 fp1 n1 P1 St1) (D2 : Draws prog w A.in1.in1 i2 fp2 n2 P2 St2)
    (hz : ZpS s.heap z TI TO) (hTI : IsTupOf2 s.heap TI (.ref i1) (.ref i2)) (hTO : ∃ a b, IsTupOf2 s.heap TO a b) (st1 : St1 i s.heap) (st2 : St2 i s.heap) (l1 : i ≤ n1) (l2 : i ≤ n2) (hend : i = n1 ∨ i = n2)
    (hQ : ∀ h' tk, (∀ b o, b ≠ z → b ≠ TO → b ≠ i1 → b ≠ i2 → s.heap.get? b = some o → h'.get? b = some o) → Q none { s with heap := h', toks := tk }) : wpAny (model prog w) A (pyNext (.ref e)) Q E s := by
  have hT : s.TypeIs (.ref e) "enumerate" := ⟨_, he, rfl⟩
  unfold pyNext
  refine wpAny_bind (wpAny_attempt (wpAny_callSpecial?_slot (name := Str.ofString "__next__") hT F.slot_enumerate_next
    (wpAny_call_entry F.slot_enumerate_next hT F.entry_enumerate_next ?_ (F.args_enumerate_next_1 _))))
  show wpAny _ _ (field (.ref e) 2 >>= _) _ _ _
  refine wpAny_bind (wpAny_field he rfl (x := .ref z) rfl ?_)
  refine wpAny_bind (zA_nextOf_end S D1 D2 hz hTI hTO st1 st2 l1 l2 hend fun h' tk x hk hx' => ?_)
  obtain ⟨o, ho, hc⟩ := hx'
  refine wpAny_bind (wpAny_isInstance (T := "StopIteration") (b := true) ⟨o, ho, hc⟩ isSubtype_stop ?_)
  exact wpAny_pure (hQ _ _ hk)
end
end DL

namespace DL
open PySem PySem.Spec PyProof.Rows L2
/-- enumerate(z) of what is its own iterator: one new cell -/
theorem meets_enum_self (z : Addr) (R0 : Heap → Prop) (hi : ∀ (prog : Program) (w : World) (A : Around) (E : Value → Shared → Prop) (s : Shared) (Q : Value → Shared → Prop), R0 s.heap → Q (.ref z) s → wpAny (model prog w) A (pyIter (.ref z)) Q E s) :
    Meets (Builtin.«enumerate.__new__» ⟨[.type "enumerate", .ref z], []⟩) (fun _ R s => R0 s.heap ∧
      R (.ok (.ret (.ref s.heap.objs.size))) { s with heap := s.heap.push { cls := .type "enumerate", data := .fields #[.none, .bool false, .ref z, rawInt 0, .none, .none] } }) :=
  .of_wp fun prog w A R s h => by
    obtain ⟨hp, g, d, tk, os⟩ := s; obtain ⟨h1, h⟩ := h
    have hsub := sub_enumerate
    have q1 : ∀ {A' : Around} {E : Value → Shared → Prop} {Q : Value → Shared → Prop}, Q (.ref z) ⟨hp, g, d, tk, os⟩ → wpAny (model prog w) A' (pyIter (.ref z)) Q E ⟨hp, g, d, tk, os⟩ :=
      fun q => hi prog w _ _ ⟨hp, g, d, tk, os⟩ _ h1 q
    wp_walk using q1
    refine wpAny_stack_any fun st => wpAny_pure ?_
    split
    · rename_i c _ _ _ _ _
      cases (c == Value.type "enumerate")
      · wp_walk using q1
        exact ⟨_, rfl, h⟩
      · wp_walk using q1
        exact ⟨_, rfl, h⟩
    · wp_walk using q1
      exact ⟨_, rfl, h⟩
section
variable {prog : Program} {w : World} {A : Around} {E : Value → Shared → Prop} {s : Shared}
theorem call_enum_zip {z TI TO : Addr} {Q : Value → Shared → Prop} (hz : IsZip s.heap z TI TO .none)
    (h : ∀ h', IsEnum h' s.heap.objs.size z 0 .none → h'.objs.size = s.heap.objs.size + 1 → (∀ b o, s.heap.get? b = some o → h'.get? b = some o) → Q (.ref s.heap.objs.size) { s with heap := h' }) :
    wpAny (model prog w) A (call (.type "enumerate") [.ref z]) Q E s := by
  refine callType_new F.called_enumerate (by decide) (F.typeCall_enumerate_1 _) (F.newCall_enumerate_1 _) (fun obj => F.args_object_init_2 obj _) F.entry_enumerate_new
    (meets_enum_self z (fun h => IsZip h z TI TO .none) fun prog w A E s Q hz q => wpAny_pyIter_zip hz q) ⟨hz, ?_⟩
  have he : IsEnum (s.heap.push { cls := .type "enumerate", data := .fields #[.none, .bool false, .ref z, rawInt 0, .none, .none] }) s.heap.objs.size z 0 .none := Heap.get?_push_size _ rfl
  exact ⟨⟨_, he, rfl⟩, h _ he (Heap.size_push ..) fun b o x => Heap.get?_push_of_some _ x⟩
end
def ItEz (K : PySem.W.Frag) (a b : Addr) : It :=
  ⟨fun i H => ∃ (xs ys : List V) (x y : V), SqT K H a xs ∧ SqT K H b ys ∧ xs[i]? = some x ∧ ys[i]? = some y,
    fun i H v H' => ∃ T1 T x y, v = .ref T ∧ H T1 = none ∧ H T = none ∧ T1 ≠ T ∧ H' = upd (upd H T1 (.tup [x, y])) T (.tup [.int (i : Nat), .ref T1]) ∧ (∀ xs, SqT K H a xs → xs[i]? = some x) ∧ ∀ ys, SqT K H b ys → ys[i]? = some y,
    fun i H => ∃ xs ys : List V, SqT K H a xs ∧ SqT K H b ys ∧ (xs.length ≤ i ∨ ys.length ≤ i)⟩
theorem fpOk_upd {X : Cx} {pins : List (Addr × Obj)} {H : Hp} {b p : Addr} {o : HO} (h : FpOk X pins H b) (hb : b ≠ p) : FpOk X pins (L2.upd H p o) b := ⟨by rw [upd_ne hb]; exact h.1, h.2⟩
theorem turn_eZ {P : Program} {w : World} {K : PySem.W.Frag} {elts : List Expr} {kk : Nat} {tpos : Pos} {a b e z TI TO i1 i2 : Addr} (S : ZipSep2 z TI TO i1 i2 [i1, a] [i2, b]) (n1 : a ≠ i1) (n2 : b ≠ i2)
    (ez : e ≠ z) (eT : e ≠ TI) (eO : e ≠ TO) (e1 : e ≠ i1) (e2 : e ≠ i2) :
    Turn P w K (.Tuple elts kk tpos) (ItEz K a b) [e, z, TI, TO, i1, i2] e (fun i h => (∃ old, IsEnum h e z ((i : Nat) : Int) old) ∧ ZpS h z TI TO ∧ IsTupOf2 h TI (.ref i1) (.ref i2) ∧ (∃ x y, IsTupOf2 h TO x y) ∧ h.IsTupleIter i1 a i ∧ h.IsTupleIter i2 b i) where
  mem := by simp
  obj := fun i h st c hc => by
    obtain ⟨⟨old, he⟩, hz, hTI, ⟨x, y, hTO⟩, ⟨o1, p1, _, d1⟩, ⟨o2, p2, _, d2⟩⟩ := st
    obtain ⟨f0, f1, hz⟩ := hz.rec_
    have e' : c = e ∨ c = z ∨ c = TI ∨ c = TO ∨ c = i1 ∨ c = i2 := by simpa using hc
    rcases e' with q | q | q | q | q | q
    · rw [q]; exact ⟨_, he, fun v q => nomatch q⟩
    · rw [q]; exact ⟨_, hz, fun v q => nomatch q⟩
    · rw [q]; exact ⟨_, hTI, fun v q => nomatch q⟩
    · rw [q]; exact ⟨_, hTO, fun v q => nomatch q⟩
    · rw [q]; exact ⟨o1, p1, fun v q => by rw [d1] at q; cases q⟩
    · rw [q]; exact ⟨o2, p2, fun v q => by rw [d2] at q; cases q⟩
  keep := fun i h h' st k => by
    obtain ⟨⟨old, he⟩, hz, hTI, ⟨x, y, hTO⟩, h1, h2⟩ := st
    exact ⟨⟨old, k e (by simp) _ he⟩, hz.at fun o q => k z (by simp) o q, k TI (by simp) _ hTI, ⟨x, y, k TO (by simp) _ hTO⟩, h1.at fun o q => k i1 (by simp) o q, h2.at fun o q => k i2 (by simp) o q⟩
  item := by
    intro X hP hw hK hc i pins s σ H E I hf st hg
    subst hP hw hK
    obtain ⟨⟨old, he⟩, hz, hTI, hTO, h1, h2⟩ := st
    obtain ⟨xs, ys, x, y, hqx, hqy, hx, hy⟩ := hg
    obtain ⟨its, rv, p, _⟩ := I.tuple hqx
    obtain ⟨its2, rv2, p2, _⟩ := I.tuple hqy
    obtain ⟨u, hu, ru⟩ := rv.get hx
    obtain ⟨u2, hu2, ru2⟩ := rv2.get hy
    have hzl : z < s.heap.objs.size := by obtain ⟨_, _, q⟩ := hz.rec_; exact Heap.lt_size q
    have hel : e < s.heap.objs.size := Heap.lt_size he
    have hTIl : TI < s.heap.objs.size := Heap.lt_size hTI
    have hTOl : TO < s.heap.objs.size := by obtain ⟨_, _, q⟩ := hTO; exact Heap.lt_size q
    have h1l : i1 < s.heap.objs.size := by obtain ⟨_, q, _⟩ := h1; exact Heap.lt_size q
    have h2l : i2 < s.heap.objs.size := by obtain ⟨_, q, _⟩ := h2; exact Heap.lt_size q
    have hcl : ∀ c, c ∈ [e, z, TI, TO, i1, i2] → c < s.heap.objs.size := fun c hc => by
      have e' : c = e ∨ c = z ∨ c = TI ∨ c = TO ∨ c = i1 ∨ c = i2 := by simpa using hc
      rcases e' with q | q | q | q | q | q <;> subst q <;> assumption
    have hh : X.A.in1.in1.handled = none := I.ok.hd hc
    have b1 := (List.getElem?_eq_some_iff.mp hu).1
    have b2 := (List.getElem?_eq_some_iff.mp hu2).1
    refine eZ_pyNext he S (Draws.tuple hh i1 a n1 its.toArray) (Draws.tuple hh i2 b n2 its2.toArray) hz hTI hTO ⟨h1, p⟩ ⟨h2, p2⟩ (by simpa using b1) (by simpa using b2) ez eO e1 e2 fun x1 x2 hm h' tk y1 y2 zo ho hT hk => ?_
    have ex1 : x1 = u := by
      have y1 : its[i]? = some x1 := by simpa using y1
      rw [hu] at y1; exact (Option.some.inj y1).symm
    have ex2 : x2 = u2 := by
      have y2 : its2[i]? = some x2 := by simpa using y2
      rw [hu2] at y2; exact (Option.some.inj y2).symm
    subst ex1 ex2
    refine ⟨_, rfl, wpAny_letOwnedTupleGo_enum (s := { s with heap := h', toks := tk + 1 }) ho fun h'' he' sb => ?_⟩
    have hTz : s.heap.objs.size ≠ e := Nat.ne_of_gt hel
    have hTz' : s.heap.objs.size + 1 ≠ e := Nat.ne_of_gt (Nat.lt_succ_of_lt hel)
    have km : ∀ c o, c ≠ e → hm.get? c = some o → h''.get? c = some o := fun c o q r => (sb.2 c q).trans (hk c o q r)
    have newA : ObjOk X.prog X.w (L2.upd H s.heap.objs.size (.tup [x, y])) hm s.heap.objs.size (.tup [x, y]) :=
      ⟨by show 2 ≤ sizeLine; decide, [x1, x2], .cons ru (.cons ru2 .nil), ⟨_, zo.new, rfl, _, rfl⟩⟩
    have I1 : Inv X pins σ (L2.upd H s.heap.objs.size (.tup [x, y])) { s with heap := hm, toks := tk } :=
      I.turnedNew (t' := tk) (ch := [z, TO, i1, i2]) (fun c o hb q => zo.keep c o (fun q' => hb (by simp [q'])) (fun q' => hb (by simp [q'])) (fun q' => hb (by simp [q'])) (fun q' => hb (by simp [q'])) q) (fun c hc => hf c (by simp only [List.mem_cons, List.not_mem_nil, or_false] at hc ⊢; rcases hc with q | q | q | q <;> simp [q])) (Nat.le_refl _) newA
    have hT2 : h''.get? (s.heap.objs.size + 1) = some { cls := .type "tuple", data := .seq #[.int i tk, .ref s.heap.objs.size] } := (sb.2 _ hTz').trans hT
    have newB : ObjOk X.prog X.w (L2.upd (L2.upd H s.heap.objs.size (.tup [x, y])) (s.heap.objs.size + 1) (.tup [.int (i : Nat), .ref s.heap.objs.size])) h'' (s.heap.objs.size + 1) (.tup [.int (i : Nat), .ref s.heap.objs.size]) :=
      ⟨by show 2 ≤ sizeLine; decide, [.int i tk, .ref s.heap.objs.size], .cons ⟨_, rfl⟩ (.cons rfl .nil), ⟨_, hT2, rfl, _, rfl⟩⟩
    have I2 : Inv X pins σ (L2.upd (L2.upd H s.heap.objs.size (.tup [x, y])) (s.heap.objs.size + 1) (.tup [.int (i : Nat), .ref s.heap.objs.size])) { s with heap := h'', toks := tk + 1 } :=
      I1.turnedNew (t' := tk + 1) (ch := [e]) (fun c o hb q => km c o (fun q' => hb (by simp [q'])) q) (fun c hc => by
        have hc : c = e := by simpa using hc
        subst hc
        exact fpOk_upd (hf c (by simp)) (Ne.symm hTz)) (Nat.le_of_eq zo.sz) newB
    refine ⟨.ref (s.heap.objs.size + 1), _, I2, rfl, ⟨s.heap.objs.size, s.heap.objs.size + 1, x, y, rfl, I.hok.fresh (Nat.le_refl _), I.hok.fresh (Nat.le_succ _), Nat.ne_of_lt (Nat.lt_succ_self _), rfl, fun l hl => by rw [I.tuple_inj hl hqx]; exact hx, fun l hl => by rw [I.tuple_inj hl hqy]; exact hy⟩, ⟨⟨.ref s.heap.objs.size, ?_⟩, ?_, ?_, ?_, ?_, ?_⟩, fun c hcm => ?_⟩
    · have e1 : ((i + 1 : Nat) : Int) = (i : Int) + 1 := by omega
      rw [e1]; exact he'
    · exact zo.zs.at fun o q => km z o (Ne.symm ez) q
    · exact km _ _ (Ne.symm eT) (zo.keep _ _ S.TIz S.TITO S.TIi1 S.TIi2 hTI)
    · obtain ⟨x, y, q⟩ := zo.to
      exact ⟨x, y, km _ _ (Ne.symm eO) q⟩
    · exact zo.s1.1.at fun o q => km _ _ (Ne.symm e1) q
    · exact zo.s2.1.at fun o q => km _ _ (Ne.symm e2) q
    · have := hcl c hcm
      rw [upd_ne (Nat.ne_of_lt (Nat.lt_succ_of_lt this)), upd_ne (Nat.ne_of_lt this)]
      exact (hf c hcm).1
  done := by
    intro X hP hw hK hc i pins s σ H E I hf st hg
    subst hP hw hK
    obtain ⟨⟨old, he⟩, hz, hTI, hTO, h1, h2⟩ := st
    obtain ⟨xs, ys, hqx, hqy, hend⟩ := hg
    obtain ⟨its, rv, p, _⟩ := I.tuple hqx
    obtain ⟨its2, rv2, p2, _⟩ := I.tuple hqy
    have hh : X.A.in1.in1.handled = none := I.ok.hd hc
    have l1 := rv.length
    have l2 := rv2.length
    obtain ⟨m1, St1, D1, s1, g1, k1⟩ := drawsT_at (prog := X.prog) (w := X.w) hh i1 a n1 its.toArray i h1 p
    obtain ⟨m2, St2, D2, s2, g2, k2⟩ := drawsT_at (prog := X.prog) (w := X.w) hh i2 b n2 its2.toArray i h2 p2
    refine eZ_pyNext_end he S D1 D2 hz hTI hTO s1 s2 g1 g2 ?_ fun h' tk hk => ⟨rfl, I.turnedL (t' := tk) (ch := [e, z, TI, TO, i1, i2]) (fun d o hb q =>
        hk d o (fun q' => hb (by simp [q'])) (fun q' => hb (by simp [q'])) (fun q' => hb (by simp [q'])) (fun q' => hb (by simp [q'])) q) hf⟩
    rcases hend with q | q
    · exact .inl (k1 (by simp; omega))
    · exact .inr (k2 (by simp; omega))
  self := fun A i s Q E st h => let ⟨⟨_, he⟩, _⟩ := st; wpAny_pyIter_enum he h
def iEnumZip (K : PySem.W.Frag) (ta : TA) : TI := fun σ H R => ta σ H fun vs H1 => ∃ a b xs ys, vs = [.ref a, .ref b] ∧ SqT K H1 a xs ∧ SqT K H1 b ys ∧ R (ItEz K a b) H1
theorem pi_enumZip {X : Cx} {e e2 : Expr} {ta : TA} {p p0 pos pos0 tpos : Pos} {elts : List Expr} {kk : Nat} (hg0 : Gl X "enumerate") (hm0 : X.mg "enumerate" = none) (hg : Gl X "zip") (hm : X.mg "zip" = none) (ha : PA X [e, e2] ta)
    (hs : starEach [e, e2] X.env = (false, eval e X.env) :: starEach [e2] X.env := by rfl) (hpl : (backTo pos (starEach [e2] X.env)).any (·.1) = false := by rfl)
    (hs0 : starEach [.Call (.Name "zip" p) [e, e2] [] pos] X.env = [(false, eval (.Call (.Name "zip" p) [e, e2] [] pos) X.env)] := by rfl) :
    PI X (.Tuple elts kk tpos) (.Call (.Name "enumerate" p0) [.Call (.Name "zip" p) [e, e2] [] pos] [] pos0) (iEnumZip X.K ta) := by
  refine ⟨fun pins s σ H R I h => ?_⟩
  refine Call_ (ld_blt I hg0 hm0 boot_enumerate (PyProof.Rows.callWith_type1 ?_ hs0 rfl))
  rw [hs0]
  refine Calls.spliced_cons ?_
  refine Call_ (ld_blt I hg hm PyProof.Rows.boot_zip (PyProof.Rows.callWith_type1 (thn (ha.run pos pins s σ H _ I h) fun us s1 ⟨vs, H1, I1, r1, q1⟩ => ?_) hs hpl))
  obtain ⟨a, b, xs, ys, ex, hqx, hqy, q⟩ := q1
  subst ex
  cases r1 with
  | cons r rr =>
    cases rr with
    | cons r' rr =>
      cases rr
      cases r
      cases r'
      have fresh6 : ∀ d, d ∈ [s1.heap.objs.size + 5, s1.heap.objs.size + 4, s1.heap.objs.size + 2, s1.heap.objs.size + 3, s1.heap.objs.size, s1.heap.objs.size + 1] → FpOk X pins H1 d := fun d hcm => by
        have hle : s1.heap.objs.size ≤ d := by
          simp only [List.mem_cons, List.not_mem_nil, or_false] at hcm
          rcases hcm with z | z | z | z | z | z <;> subst z <;> first | exact Nat.le_refl _ | exact Nat.le_add_right _ _
        exact I1.fpOk hle (I1.hok.fresh hle)
      obtain ⟨its, rv, p1, _⟩ := I1.tuple hqx
      obtain ⟨its2, rv2, p2, _⟩ := I1.tuple hqy
      obtain ⟨o1, ho1, _⟩ := id p1
      obtain ⟨o2, ho2, _⟩ := id p2
      have la : a < s1.heap.objs.size := Heap.lt_size ho1
      have lb : b < s1.heap.objs.size := Heap.lt_size ho2
      refine zip_begins2 (begins_tuple a its.toArray) (begins_tuple b its2.toArray) p1 p2 fun h' hz hTI hTO h1 h2 hsz hk => Calls.spliced_nil ?_
      refine call_enum_zip (s := { s1 with heap := h' }) hz fun h2' he hsz2 hk2 => wpAny_pyIter_enum he ?_
      replace hk2 : ∀ b o, h'.get? b = some o → h2'.get? b = some o := hk2
      replace he : IsEnum h2' h'.objs.size (s1.heap.objs.size + 4) 0 .none := he
      rw [hsz] at he
      have I2 : Inv X pins σ H1 { s1 with heap := h2' } := I1.kept (t' := s1.toks) fun b o q => hk2 b o (hk b o q)
      show PIE X pins σ (.Tuple elts kk tpos) R (.ref h'.objs.size) { s1 with heap := h2' }
      rw [hsz]
      have ne5 : ∀ k : Nat, k < 5 → (s1.heap.objs.size + 5 : Nat) ≠ s1.heap.objs.size + k := by intro k hk; omega
      exact ⟨s1.heap.objs.size + 5, [s1.heap.objs.size + 5, s1.heap.objs.size + 4, s1.heap.objs.size + 2, s1.heap.objs.size + 3, s1.heap.objs.size, s1.heap.objs.size + 1], _, _, H1, rfl, I2,
        turn_eZ (e := s1.heap.objs.size + 5) (z := s1.heap.objs.size + 4) (TI := s1.heap.objs.size + 2) (TO := s1.heap.objs.size + 3) (i1 := s1.heap.objs.size) (i2 := s1.heap.objs.size + 1) (zip_sep2 (by simpa using la) (by simpa using lb)) (Nat.ne_of_lt la) (Nat.ne_of_lt (Nat.lt_succ_of_lt lb)) (ne5 4 (by decide)) (ne5 2 (by decide)) (ne5 3 (by decide)) (ne5 0 (by decide)) (ne5 1 (by decide)),
        ⟨⟨_, he⟩, .inl (hk2 _ _ hz), hk2 _ _ hTI, ⟨_, _, hk2 _ _ hTO⟩, ⟨_, hk2 _ _ h1, rfl, rfl⟩, ⟨_, hk2 _ _ h2, rfl, rfl⟩⟩, fresh6, q⟩
def dZipTT2 : List D → Option (List D)
  | [.tuple xs, .tuple ys] => some (zipD xs ys)
  | _ => none
def mEnumZip (ml : M (List D)) : M (List D) := mBind ml fun ds => mOpt ((dZipTT2 ds).map enumD)
section
variable {X : Cx} {W : WX} {e e2 : Expr} {ml : M (List D)} {p p0 pos pos0 : Pos}
theorem enumD_get {ds : List D} {i : Nat} {d : D} (h : (enumD ds)[i]? = some d) : ∃ x, ds[i]? = some x ∧ d = .tuple [.int (i : Nat), x] := by
  unfold enumD at h
  obtain ⟨dx, dy, hx, hy, rfl⟩ := zipD_get h
  rw [List.getElem?_map] at hx
  obtain ⟨j, hj, rfl⟩ := Option.map_eq_some_iff.mp hx
  have := List.getElem?_eq_some_iff.mp hj
  obtain ⟨hlt, e⟩ := this
  rw [List.getElem_range] at e
  subst e
  exact ⟨dy, hy, rfl⟩
theorem ji_enumZip {elts : List Expr} {kk : Nat} {tpos : Pos} (hg0 : Gl X "enumerate") (hm0 : X.mg "enumerate" = none) (hg : Gl X "zip") (hm : X.mg "zip" = none) (ha : JL X W [e, e2] ml)
    (hs : starEach [e, e2] X.env = (false, eval e X.env) :: starEach [e2] X.env := by rfl) (hpl : (backTo pos (starEach [e2] X.env)).any (·.1) = false := by rfl)
    (hs0 : starEach [.Call (.Name "zip" p) [e, e2] [] pos] X.env = [(false, eval (.Call (.Name "zip" p) [e, e2] [] pos) X.env)] := by rfl) :
    JI X W (.Tuple elts kk tpos) (.Call (.Name "enumerate" p0) [.Call (.Name "zip" p) [e, e2] [] pos] [] pos0) (mEnumZip ml) := by
  refine PI.imp (pi_enumZip hg0 hm0 hg hm ha hs hpl hs0) fun σ H R h => ?_
  obtain ⟨b, G, env, fr, h⟩ := h
  refine tL_one fr h (fun ds e1 vs G1 H1 fr1 st1 dp1 h1 => ?_) (fun c e he => he)
  obtain ⟨z, hz, h3⟩ := wpR.opt h1
  obtain ⟨w, hw, rfl⟩ := Option.map_eq_some_iff.mp hz
  unfold dZipTT2 at hw
  split at hw
  · obtain ⟨v, u, rfl, hv, hu⟩ := dtAll2 dp1
    obtain ⟨a, xs, rfl, hr, hd⟩ := dt_tup hv
    obtain ⟨b', ys, rfl, hr2, hd2⟩ := dt_tup hu
    cases hw
    refine ⟨a, b', xs, ys, rfl, .inl (rd_mono fr1.sub hr), .inl (rd_mono fr1.sub hr2), h3 _ G1 H1 fr1 st1 ⟨fun i H s hi => ?_, fun i H s hi => ?_, fun i H G2 x H' s1 s2 hy d hdd => ?_⟩⟩
    · rw [enumD_len, zipD_len] at hi
      refine ⟨xs, ys, .inl (rd_mono s hr), .inl (rd_mono s hr2), ?_⟩
      rw [dpAll_len hd, dpAll_len hd2]; omega
    · rw [enumD_len, zipD_len] at hi
      exact ⟨xs, ys, xs[i]'(by rw [dpAll_len hd]; omega), ys[i]'(by rw [dpAll_len hd2]; omega), .inl (rd_mono s hr), .inl (rd_mono s hr2), List.getElem?_eq_getElem _, List.getElem?_eq_getElem _⟩
    · obtain ⟨T1, T, x1, y1, rfl, hT1, hT, hne, rfl, q1, q2⟩ := hy
      obtain ⟨dp, hdp, rfl⟩ := enumD_get hdd
      obtain ⟨dx, dy, hx, hy, rfl⟩ := zipD_get hdp
      obtain ⟨v1, hv1, dv1⟩ := dpAll_get hd hx
      obtain ⟨v2, hv2, dv2⟩ := dpAll_get hd2 hy
      have e1 := q1 xs (.inl (rd_mono (s1.trans s2) hr))
      have e2 := q2 ys (.inl (rd_mono (s1.trans s2) hr2))
      rw [hv1] at e1; rw [hv2] at e2
      cases e1; cases e2
      have g1 : Grow G2 H (upd G2 T1 (.tup [x1, y1])) (upd H T1 (.tup [x1, y1])) := .laid s2 hT1
      have hT' : upd H T1 (.tup [x1, y1]) T = none := by rw [upd_ne (Ne.symm hne)]; exact hT
      have g2 : Grow (upd G2 T1 (.tup [x1, y1])) (upd H T1 (.tup [x1, y1])) _ (upd (upd H T1 (.tup [x1, y1])) T (.tup [.int (i : Nat), .ref T1])) := .laid g1.in' hT'
      exact ⟨_, g1.trans g2, .tup (.inl upd_same) (.cons (.int _) (.cons (.tup (rd_mono g2.sub (.inl upd_same)) (.cons (((dv1.mono s1).mono g1.sub).mono g2.sub) (.cons (((dv2.mono s1).mono g1.sub).mono g2.sub) .nil))) .nil))⟩
  · cases hw
end
end DL

namespace Lw
open PySem DL
def m_law_k12 : MS := (mSeq (mFor (mRange1 (mCons (mCall dMax2 (mCons (mPure (.int 6)) (mCons (mCall dMin2 (mCons (mPure (.int 50)) (mCons (mLenO 0) mNil))) mNil))) mNil)) (gN 1) (mSeq (mSetO 3 (mFS 0 f__law_well (mCons (mVar 1) mNil)))
    (mSeq (mSet 4 (mFC 3 f__law_evening (mCons (mPure (.int 6)) (mCons (mPure (.int 12)) mNil))))
    (mSeq (mPar2 6 7 (mDat (mF f_earliest (mCons (mVar 4) mNil))) (mDat (mF f_latest (mCons (mVar 4) mNil))))
    (mSeq (mIf (mOr (mCmp dIsNone (mVar 6) (mPure .none)) (mCmp dIsNone (mVar 7) (mPure .none))) (mPure .ct) mNx)
    (mSeq (mFor (mEnumZip (mCons (mVar 6) (mCons (mVar 7) mNil))) (gTp (gCons' (gN 8) (gCons' (gTp (gCons' (gN 13) (gCons' (gN 14) gNil'))) gNil'))) (mSeq (mIf (mOr (mCmp dGt (mOp dIx (mVar 13) (mPure (.int 0))) (mOp dIx (mVar 14) (mPure (.int 0)))) (mCmp dGt (mOp dIx (mVar 13) (mPure (.int 1))) (mOp dIx (mVar 14) (mPure (.int 1))))) (mRet (mPure (.bool false))) mNx)
    (mSeq (mSet 9 (mOp dAdd (mOp dIx (mVar 13) (mPure (.int 0))) (mFC 3 f__law_take (mCons (mOp dAdd (mOp dSub (mOp dIx (mVar 14) (mPure (.int 0))) (mOp dIx (mVar 13) (mPure (.int 0)))) (mPure (.int 1))) mNil))))
    (mSeq (mSet 10 (mF f_earliest (mCons (mF f__law_held_from (mCons (mVar 4) (mCons (mVar 8) (mCons (mVar 9) mNil)))) mNil)))
    (mSeq (mIf (mOr (mNot (mTru (mF f__law_is_whole (mCons (mVar 4) (mCons (mVar 10) mNil))))) (mCmp dNe (mOp dIx (mOp dIx (mVar 10) (mVar 8)) (mPure (.int 0))) (mVar 9))) (mRet (mPure (.bool false))) mNx)
    (mSeq (mSet 9 (mOp dAdd (mOp dIx (mVar 13) (mPure (.int 1))) (mFC 3 f__law_take (mCons (mOp dAdd (mOp dSub (mOp dIx (mVar 14) (mPure (.int 1))) (mOp dIx (mVar 13) (mPure (.int 1)))) (mPure (.int 1))) mNil))))
    (mSeq (mSet 10 (mF f_latest (mCons (mF f__law_held_to (mCons (mVar 4) (mCons (mVar 8) (mCons (mVar 9) mNil)))) mNil)))
    (mSeq (mIf (mOr (mNot (mTru (mF f__law_is_whole (mCons (mVar 4) (mCons (mVar 10) mNil))))) (mCmp dNe (mOp dIx (mOp dIx (mVar 10) (mVar 8)) (mPure (.int 1))) (mVar 9))) (mRet (mPure (.bool false))) mNx)
    (mSeq (mSet 11 (mOp dIx (mVar 4) (mVar 8)))
    (mSeq (mIf (mAnd (mCmp dLt (mOp dIx (mVar 14) (mPure (.int 0))) (mOp dIx (mVar 11) (mPure (.int 1)))) (mTru (mF f_can_stand (mCons (mF f__law_held_from (mCons (mVar 4) (mCons (mVar 8) (mCons (mOp dAdd (mOp dIx (mVar 14) (mPure (.int 0))) (mPure (.int 1))) mNil)))) mNil)))) (mRet (mPure (.bool false))) mNx)
    (mIf (mAnd (mCmp dGt (mOp dIx (mVar 13) (mPure (.int 1))) (mOp dIx (mVar 11) (mPure (.int 2)))) (mTru (mF f_can_stand (mCons (mF f__law_held_to (mCons (mVar 4) (mCons (mVar 8) (mCons (mOp dSub (mOp dIx (mVar 13) (mPure (.int 1))) (mPure (.int 1))) mNil)))) mNil)))) (mRet (mPure (.bool false))) mNx)))))))))))
    (mFor (mRange1 (mCons (mPure (.int 6)) mNil)) (gN 5) (mSeq (mSet 12 (mFC 3 f__law_some_standing (mCons (mVar 4) mNil)))
    (mIf (mTru (mF f__law_is_whole (mCons (mVar 4) (mCons (mVar 12) mNil)))) (mFor (mZip3 (mCons (mVar 12) (mCons (mVar 6) (mCons (mVar 7) mNil)))) (gTp (gCons' (gN 15) (gCons' (gN 13) (gCons' (gN 14) gNil')))) (mIf (mOr (mNot (mChain dLe dLe (mOp dIx (mVar 13) (mPure (.int 0))) (mOp dIx (mVar 15) (mPure (.int 0))) (mOp dIx (mVar 14) (mPure (.int 0))))) (mNot (mChain dLe dLe (mOp dIx (mVar 13) (mPure (.int 1))) (mOp dIx (mVar 15) (mPure (.int 1))) (mOp dIx (mVar 14) (mPure (.int 1)))))) (mRet (mPure (.bool false))) mNx)) mNx)))))))))
    (mSeq (mSet 2 (mTup (mCons (mTup (mCons (mPure (.str "a")) (mCons (mPure (.int 10)) (mCons (mPure (.int 12)) (mCons (mPure (.int 3)) (mCons (mPure (.int 4)) (mCons (mPure (.int 4)) (mCons (mPure (.int 2)) mNil)))))))) (mCons (mTup (mCons (mPure (.str "b")) (mCons (mPure (.int 16)) (mCons (mPure (.int 18)) (mCons (mPure (.int 4)) (mCons (mPure (.int 4)) (mCons (mPure (.int 4)) (mCons (mPure (.int 0)) mNil)))))))) mNil))))
    (mRet (mAndV (mB (mCmp dEq (mF f_earliest (mCons (mVar 2) mNil)) (mTup (mCons (mTup (mCons (mPure (.int 6)) (mCons (mPure (.int 12)) mNil))) (mCons (mTup (mCons (mPure (.int 14)) (mCons (mPure (.int 18)) mNil))) mNil))))) (mB (mCmp dEq (mF f_latest (mCons (mVar 2) mNil)) (mTup (mCons (mTup (mCons (mPure (.int 10)) (mCons (mPure (.int 14)) mNil))) (mCons (mTup (mCons (mPure (.int 16)) (mCons (mPure (.int 22)) mNil))) mNil)))))))))
def f_law_k12 := runL 16 m_law_k12
end Lw

namespace Lw
open PySem DL
local macro_rules | `(tactic| walk_at "ev") => `(tactic| simp only [ok_ok, ok_bind, ok_pure, ok_opt, ok_var, ok_op, ok_opO, ok_un, ok_cmp, ok_B, ok_ite, ok_chain, ok_and, ok_or, ok_not, ok_ifE, ok_tru, ok_andV, ok_orV, ok_notV, ok_nil, ok_cons, ok_tup, ok_lst, ok_fz, ok_isi, ok_call, ok_callO, ok_noP, ok_part, ok_sl, ok_slAt, ok_ixO, ok_lenO, ok_move, ok_seq, ok_nx, ok_if, ok_ret, ok_retO, ok_drop, ok_store, ok_set, ok_setO, ok_asg, ok_dat, ok_own, ok_par2, ok_par3, ok_meth, ok_setIx, ok_extend, ok_frz, ok_cmpO, ok_rep, ok_listRg, ok_F, ok_FO, ok_FC, ok_FS, ok_items, ok_signs, ok_range1, ok_range2, ok_range3, ok_zip, ok_enum, ok_for, ok_comp,
  okO_some, okO_none, okF_ok, okC_ok, slD_dat, slL_own, slL_cel, ixP_own, ixP_cel, ixP_scr, isL_own, isL_cel, isL_scr, lenP_own, lenP_cel, lenP_scr, seqP_nx, seqP_rt, seqP_ro, seqP_ct, seqP_bk, wrS_un, wrS_dat, wrS_own, wrS_scr, okO_gN, okO_gTp, okO_gCons, okO_gNil, chgP_own, chgP_cel, okO_chg, ownB_own, ownB_cel, celP_own, celP_cel, scrP_scr, putSl_eq,
  v_addII, v_addIB, v_addTT, v_addLL, v_addSS, v_catLL, v_sub, v_mul, v_mod, v_div, v_pow, v_neg, v_cmp, v_eqII, v_neII, v_eqSS, v_neSS, v_isNone_n, v_isNone_b, v_isNone_i, v_isNone_s, v_isNone_l, v_isNone_t, v_notNone_n, v_notNone_b, v_notNone_i, v_notNone_s, v_notNone_l, v_notNone_t, v_isBl, v_in, v_notIn, v_inS, v_notInS, v_ixL, v_ixT, v_ixS, v_slL, v_slT, v_revL, v_revT, v_lenL, v_lenT, v_lenS, v_max2, v_min2, v_intB, v_intI, v_tupL, v_tupT, v_listL, v_listT, v_truB, v_truI, v_truN, v_blB, v_int, v_itL, v_itT, v_sig, v_rng1, v_rng2, v_lrg, v_zipL, v_zipT, v_zipTT, ok_lenSet, ok_listZip, sizeLine_eq, Nat.reduceLeDiff, Int.reduceLT, Int.reduceLE, atI0, atI1, atI2, atI3, atI4, atI5, atI6, atI_c, ixN0, ixN1, ixN2, okO_celAt, v_notBlT, v_notBlF, v_notBlG, v_notBlH, Int.reduceEq, Int.reduceNe, Int.cast_ofNat_Int, not_true_eq_false, not_false_eq_true, pow9, pow18, natAbs10, Bool.true_eq_false, cut_1, cut_nn, v_enum, v_app, v_setAt,
  List.getElem?_cons_zero, List.getElem?_cons_succ, List.set_cons_zero, List.set_cons_succ, List.length_cons, List.length_nil, List.map_cons, List.map_nil, envOf, List.cons_append, List.nil_append, List.replicate, wipeE, restE, keepS,
  decide_eq_true_eq, true_and, and_true, if_true, if_false, Bool.false_eq_true, Nat.reduceAdd, Nat.reduceSub, Nat.zero_add, Nat.sub_zero, Bool.not_true, Bool.not_false, Bool.not_eq_true', decide_eq_false_iff_not])
local macro_rules | `(tactic| walk_at "en") => `(tactic| simp only [ok_ok, ok_bind, ok_pure, ok_opt, ok_var, ok_op, ok_opO, ok_un, ok_cmp, ok_B, ok_ite, ok_chain, ok_and, ok_or, ok_not, ok_ifE, ok_tru, ok_andV, ok_orV, ok_notV, ok_nil, ok_cons, ok_tup, ok_lst, ok_fz, ok_isi, ok_call, ok_callO, ok_noP, ok_part, ok_sl, ok_slAt, ok_ixO, ok_lenO, ok_move, ok_seq, ok_nx, ok_if, ok_ret, ok_retO, ok_drop, ok_store, ok_set, ok_setO, ok_asg, ok_dat, ok_own, ok_par2, ok_par3, ok_meth, ok_setIx, ok_extend, ok_frz, ok_cmpO, ok_rep, ok_listRg, ok_F, ok_FO, ok_FC, ok_FS, ok_items, ok_signs, ok_range1, ok_range2, ok_range3, ok_zip, ok_enum, ok_for, ok_comp,
  okO_some, okO_none, okF_ok, okC_ok, slD_dat, slL_own, slL_cel, ixP_own, ixP_cel, ixP_scr, isL_own, isL_cel, isL_scr, lenP_own, lenP_cel, lenP_scr, seqP_nx, seqP_rt, seqP_ro, seqP_ct, seqP_bk, wrS_un, wrS_dat, wrS_own, wrS_scr, okO_gN, okO_gTp, okO_gCons, okO_gNil, chgP_own, chgP_cel, okO_chg, ownB_own, ownB_cel, celP_own, celP_cel, scrP_scr, putSl_eq,
  v_addII, v_addIB, v_addTT, v_addLL, v_addSS, v_catLL, v_sub, v_mul, v_mod, v_div, v_pow, v_neg, v_cmp, v_eqII, v_neII, v_eqSS, v_neSS, v_isNone_n, v_isNone_b, v_isNone_i, v_isNone_s, v_isNone_l, v_isNone_t, v_notNone_n, v_notNone_b, v_notNone_i, v_notNone_s, v_notNone_l, v_notNone_t, v_isBl, v_in, v_notIn, v_inS, v_notInS, v_ixL, v_ixT, v_ixS, v_slL, v_slT, v_revL, v_revT, v_lenL, v_lenT, v_lenS, v_max2, v_min2, v_intB, v_intI, v_tupL, v_tupT, v_listL, v_listT, v_truB, v_truI, v_truN, v_blB, v_int, v_itL, v_itT, v_sig, v_rng1, v_rng2, v_lrg, v_zipL, v_zipT, v_zipTT, ok_lenSet, ok_listZip, sizeLine_eq, Nat.reduceLeDiff, Int.reduceLT, Int.reduceLE, atI0, atI1, atI2, atI3, atI4, atI5, atI6, atI_c, ixN0, ixN1, ixN2, okO_celAt, v_notBlT, v_notBlF, v_notBlG, v_notBlH, Int.reduceEq, Int.reduceNe, Int.cast_ofNat_Int, not_true_eq_false, not_false_eq_true, pow9, pow18, natAbs10, Bool.true_eq_false, cut_1, cut_nn, v_enum, v_app, v_setAt,
  List.getElem?_cons_zero, List.getElem?_cons_succ, List.set_cons_zero, List.set_cons_succ, List.length_cons, List.length_nil, List.map_cons, List.map_nil, envOf, List.cons_append, List.nil_append, List.replicate, wipeE, restE, keepS,
  decide_eq_true_eq, true_and, and_true, if_true, if_false, Bool.false_eq_true, Nat.reduceAdd, Nat.reduceSub, Nat.zero_add, Nat.sub_zero, Bool.not_true, Bool.not_false, Bool.not_eq_true', decide_eq_false_iff_not,
  ok_par2N, ok_nApp, ok_nSet, ok_nIx, ok_frzN, nstB_nst, nstP_nst, onlyN_s, onlyN_z, noN_un, noN_dat, noN_own, noN_cel, noN_scr, allN_cons, allN_nil, Bool.and_true, Bool.true_and, Int.reduceNeg, ok_zipM, v_zipM])
local macro_rules | `(tactic| walk_at "rn") => `(tactic| simp only [ok_ok, ok_bind, ok_pure, ok_opt, ok_var, ok_op, ok_opO, ok_un, ok_cmp, ok_B, ok_ite, ok_chain, ok_and, ok_or, ok_not, ok_ifE, ok_tru, ok_andV, ok_orV, ok_notV, ok_nil, ok_cons, ok_tup, ok_lst, ok_fz, ok_isi, ok_call, ok_callO, ok_noP, ok_part, ok_sl, ok_slAt, ok_ixO, ok_lenO, ok_move, ok_seq, ok_nx, ok_if, ok_ret, ok_retO, ok_drop, ok_store, ok_set, ok_setO, ok_asg, ok_dat, ok_own, ok_par2, ok_par3, ok_meth, ok_setIx, ok_extend, ok_frz, ok_cmpO, ok_rep, ok_listRg, ok_F, ok_FO, ok_FC, ok_FS, ok_items, ok_signs, ok_range1, ok_range2, ok_range3, ok_zip, ok_enum, ok_for, ok_comp,
  okO_some, okO_none, okF_ok, okC_ok, slD_dat, slL_own, slL_cel, ixP_own, ixP_cel, ixP_scr, isL_own, isL_cel, isL_scr, lenP_own, lenP_cel, lenP_scr, seqP_nx, seqP_rt, seqP_ro, seqP_ct, seqP_bk, wrS_un, wrS_dat, wrS_own, wrS_scr, okO_gN, okO_gTp, okO_gCons, okO_gNil, chgP_own, chgP_cel, okO_chg, ownB_own, ownB_cel, celP_own, celP_cel, scrP_scr, putSl_eq,
  v_addII, v_addIB, v_addTT, v_addLL, v_addSS, v_catLL, v_sub, v_mul, v_mod, v_div, v_pow, v_neg, v_cmp, v_eqII, v_neII, v_eqSS, v_neSS, v_isNone_n, v_isNone_b, v_isNone_i, v_isNone_s, v_isNone_l, v_isNone_t, v_notNone_n, v_notNone_b, v_notNone_i, v_notNone_s, v_notNone_l, v_notNone_t, v_isBl, v_in, v_notIn, v_inS, v_notInS, v_ixL, v_ixT, v_ixS, v_slL, v_slT, v_revL, v_revT, v_lenL, v_lenT, v_lenS, v_max2, v_min2, v_intB, v_intI, v_tupL, v_tupT, v_listL, v_listT, v_truB, v_truI, v_truN, v_blB, v_int, v_itL, v_itT, v_sig, v_rng1, v_rng2, v_lrg, v_zipL, v_zipT, v_zipTT, ok_lenSet, ok_listZip, sizeLine_eq, Nat.reduceLeDiff, Int.reduceLT, Int.reduceLE, atI0, atI1, atI2, atI3, atI4, atI5, atI6, atI_c, ixN0, ixN1, ixN2, okO_celAt, v_notBlT, v_notBlF, v_notBlG, v_notBlH, Int.reduceEq, Int.reduceNe, Int.cast_ofNat_Int, not_true_eq_false, not_false_eq_true, pow9, pow18, natAbs10, Bool.true_eq_false, cut_1, cut_nn, v_enum, v_app, v_setAt,
  List.getElem?_cons_zero, List.getElem?_cons_succ, List.set_cons_zero, List.set_cons_succ, List.length_cons, List.length_nil, List.map_cons, List.map_nil, envOf, List.cons_append, List.nil_append, List.replicate, wipeE, restE, keepS,
  decide_eq_true_eq, true_and, and_true, if_true, if_false, Bool.false_eq_true, Nat.reduceAdd, Nat.reduceSub, Nat.zero_add, Nat.sub_zero, Bool.not_true, Bool.not_false, Bool.not_eq_true', decide_eq_false_iff_not,
  ok_par2N, ok_nApp, ok_nSet, ok_nIx, ok_frzN, nstB_nst, nstP_nst, onlyN_s, onlyN_z, noN_un, noN_dat, noN_own, noN_cel, noN_scr, allN_cons, allN_nil, Bool.and_true, Bool.true_and, Int.reduceNeg, ok_zipM, v_zipM, shEarly, shEnd, shBegin, shLate, neEE, neEE2, neBL, neBL2, eq_self, if_neg_f, decide_true, decide_false, Bool.and_false, Bool.false_and])
theorem set_at {α : Type} {l : List α} {i : Nat} {x y : α} (h : l[i]? = some x) : (l.set i y)[i]? = some y := by
  rw [List.getElem?_set]; simp [(List.getElem?_eq_some_iff.mp h).1]
theorem ok_enumZip {m : M (List D)} {e : Ev} {Q : List D → Ev → Prop} : Ok (mEnumZip m e) Q = Ok (m e) (fun ds e1 => okO ((dZipTT2 ds).map enumD) fun z => Q z e1) := by
  unfold mEnumZip; simp only [ok_bind, ok_opt]
theorem v_enumZip {xs ys : List D} {P : List D → Prop} : okO ((dZipTT2 [.tuple xs, .tuple ys]).map enumD) P = P (enumD (zipD xs ys)) := rfl
theorem ok_zip3 {m : M (List D)} {e : Ev} {Q : List D → Ev → Prop} : Ok (mZip3 m e) Q = Ok (m e) (fun ds e1 => okO (dZip3 ds) fun z => Q z e1) := by
  unfold mZip3; simp only [ok_bind, ok_opt]
theorem v_zip3 {xs ys zs : List D} {P : List D → Prop} : okO (dZip3 [.tuple xs, .tuple ys, .tuple zs]) P = P (zipD3 xs ys zs) := rfl
theorem zip_self {α : Type} : ∀ l : List α, l.zip l = l.map fun a => (a, a)
  | [] => rfl
  | a :: l => by rw [List.zip_cons_cons, zip_self l]; rfl
theorem enum_rng {n : Nat} {f : Nat → D} : enumD ((List.range n).map f) = (List.range n).map fun i => .tuple [.int ((i : Nat) : Int), f i] := by
  unfold enumD
  rw [List.length_map, List.length_range, zipD_map, zip_self, List.map_map]; rfl
theorem zip3_map {α : Type} {f g h : α → D} : ∀ l : List α, zipD3 (l.map f) (l.map g) (l.map h) = l.map fun i => .tuple [f i, g i, h i]
  | [] => rfl
  | a :: l => by simp only [List.map_cons, zipD3, zip3_map l]
theorem zip2_map {α : Type} {f g : α → D} (l : List α) : zipD (l.map f) (l.map g) = l.map fun i => .tuple [f i, g i] := by
  rw [zipD_map, zip_self, List.map_map]; rfl
/-- a list by its places -/
theorem map_rng {α : Type} (d : α) (g : α → D) (xs : List α) : xs.map g = (List.range xs.length).map fun i => g (xs.getD i d) := by
  refine List.ext_getElem? fun i => ?_
  rw [List.getElem?_map, List.getElem?_map]
  by_cases h : i < xs.length
  · rw [List.getElem?_eq_getElem h, List.getElem?_range h]
    simp [List.getD_eq_getElem?_getD, h]
  · rw [List.getElem?_eq_none (by omega), List.getElem?_eq_none (by simp; omega)]; rfl
theorem whole_told {E : List Act} (hE : EvOk E) {T : List Pt} (e : acts T = E) (s : Sd (-1000000000) T) : f__law_is_whole [evD E, stD (moms T)] = .ok (.bool (decide (cost T = 0))) := by
  have l : T.length ≤ sizeLine := by have := hE.hi; rw [← e] at this; simp only [acts, List.length_map] at this; rw [sizeLine_eq]; omega
  have := law_whole_good l s
  rw [e] at this
  exact this
theorem held_from_ok {E : List Act} {i : Nat} {a : Act} {m : Int} (ha : E[i]? = some a) (hl : E.length ≤ 1000) : f__law_held_from [evD E, .int i, .int m] = .ok (evD (E.set i (setA a 4 (a.b - m)))) := by
  refine okF_eq ?_
  unfold f__law_held_from runF m__law_held_from
  rw [okF_ret]
  walk_at "ev"
  simp only [evD]
  walk_at "ev"
  rw [act_at ha]
  walk_at "ev"
  have := law_with_act (v := a.b - m) (k := 4) ha (by omega) hl
  simp only [evD] at this
  rw [show (PyData.int 4) = PyData.int ((4 : Nat) : Int) from rfl, this]
  walk_at "ev"
theorem held_to_ok {E : List Act} {i : Nat} {a : Act} {m : Int} (ha : E[i]? = some a) (hl : E.length ≤ 1000) : f__law_held_to [evD E, .int i, .int m] = .ok (evD (E.set i (setA a 5 (m - a.e)))) := by
  refine okF_eq ?_
  unfold f__law_held_to runF m__law_held_to
  rw [okF_ret]
  walk_at "ev"
  simp only [evD]
  walk_at "ev"
  rw [act_at ha]
  walk_at "ev"
  have := law_with_act (v := m - a.e) (k := 5) ha (by omega) hl
  simp only [evD] at this
  rw [show (PyData.int 5) = PyData.int ((5 : Nat) : Int) from rfl, this]
  walk_at "ev"
/-- the one standing up to a place, the other behind it, anything between at the place -/
theorem splice : ∀ {T1 T2 : List Pt} {r1 r2 : Int} {i : Nat} {t1 t2 : Pt} {x y : Int}, acts T1 = acts T2 → Sd r1 T1 → Sd r2 T2 → Wh T1 → Wh T2 → T1[i]? = some t1 → T2[i]? = some t2 →
    t1.2.1 ≤ x → x ≤ t1.1.b → t1.1.e ≤ y → y ≤ t2.2.2 → t1.1.w ≤ y - x → ∃ T, acts T = acts T1 ∧ Sd r1 T ∧ Wh T ∧ T[i]? = some (t1.1, x, y)
  | [], _, _, _, _, _, _, _, _, _, _, _, _, _, h, _, _, _, _, _, _ => by simp at h
  | u1 :: T1, [], _, _, _, _, _, _, _, _, _, _, _, _, _, h, _, _, _, _, _ => by simp at h
  | u1 :: T1, u2 :: T2, r1, r2, 0, t1, t2, x, y, e, s1, s2, w1, w2, h1, h2, x1, x2, y1, y2, w => by
    simp only [List.getElem?_cons_zero, Option.some.injEq] at h1 h2
    subst h1 h2
    simp only [acts, List.map_cons, List.cons.injEq] at e
    obtain ⟨e0, e1⟩ := e
    obtain ⟨⟨a1, a2, a3, a4, a5⟩, a6⟩ := s1
    obtain ⟨⟨b1, b2, b3, b4, b5⟩, b6⟩ := s2
    rw [← e0] at b1 b2 b3 b4 b6
    refine ⟨(u1.1, x, y) :: T2, by show u1.1 :: acts T2 = u1.1 :: acts T1; rw [show acts T2 = acts T1 from e1.symm], ⟨⟨by dsimp only; omega, by dsimp only; omega, by dsimp only; omega, by dsimp only; omega, by dsimp only; omega⟩, ?_⟩, fun t ht => ?_, rfl⟩
    · exact Sd.mono (by dsimp only; omega) b6
    · rcases List.mem_cons.mp ht with rfl | ht
      · dsimp only; omega
      · exact w2 t (.tail _ ht)
  | u1 :: T1, u2 :: T2, r1, r2, i + 1, t1, t2, x, y, e, s1, s2, w1, w2, h1, h2, x1, x2, y1, y2, w => by
    simp only [List.getElem?_cons_succ] at h1 h2
    simp only [acts, List.map_cons, List.cons.injEq] at e
    obtain ⟨e0, e1⟩ := e
    obtain ⟨T, k1, k2, k3, k4⟩ := splice (T1 := T1) (T2 := T2) e1 s1.2 s2.2 (fun t ht => w1 t (.tail _ ht)) (fun t ht => w2 t (.tail _ ht)) h1 h2 x1 x2 y1 y2 w
    refine ⟨u1 :: T, by show u1.1 :: acts T = u1.1 :: acts T1; rw [k1], ⟨s1.1, k2⟩, fun t ht => ?_, by simpa using k4⟩
    rcases List.mem_cons.mp ht with rfl | ht
    · exact w1 _ (.head _)
    · exact k3 t ht
/-- held from a moment between, the earliest has just it -/
theorem from_ok {E : List Act} (hE : EvOk E) {T1 T2 : List Pt} (s1 : St E T1) (w1 : Wh T1) (s2 : St E T2) (w2 : Wh T2) {i : Nat} {t1 t2 : Pt} (h1 : T1[i]? = some t1) (h2 : T2[i]? = some t2) (e1 : t1.1 = t2.1) {m : Int} (m1 : t1.2.1 ≤ m) (m2 : m ≤ t2.2.1) :
    EvOk (E.set i (setA t1.1 4 (t1.1.b - m))) ∧ ∃ T', firstW (E.set i (setA t1.1 4 (t1.1.b - m))) = some T' ∧ (∃ T, acts T = E ∧ moms T = moms T' ∧ Sd (-1000000000) T ∧ Wh T) ∧ ∃ t', T'[i]? = some t' ∧ t'.2.1 = m := by
  obtain ⟨a1, d1⟩ := (st_sd hE.low).mp s1
  obtain ⟨a2, d2⟩ := (st_sd hE.low).mp s2
  have ha : E[i]? = some t1.1 := by rw [← a1]; unfold acts; rw [List.getElem?_map, h1]; rfl
  have aok := hE.act t1.1 (List.mem_of_getElem? ha)
  have b1 := s1.bd t1 (List.mem_of_getElem? h1)
  have b2 := s2.bd t2 (List.mem_of_getElem? h2)
  have q2 := w2 t2 (List.mem_of_getElem? h2)
  unfold Bd at b1 b2
  rw [← e1] at b2 q2
  have n : Nar E (E.set i (setA t1.1 4 (t1.1.b - m))) := nar_set (nar_refl hE) ha ⟨rfl, rfl, rfl, rfl, rfl, ⟨by show 0 ≤ t1.1.b - m; omega, by show t1.1.b - m ≤ t1.1.ea; omega⟩, aok.la.1, Int.le_refl _⟩
  have ok := nar_ok hE n
  obtain ⟨S, k1, k2, k3, k4⟩ := splice (x := m) (y := t2.2.2) (a1.trans a2.symm) d1 d2 w1 w2 h1 h2 m1 (by omega) (by omega) (by omega) (by omega)
  have sS : St E S := (st_sd hE.low).mpr ⟨k1.trans a1, k2⟩
  have sS' := st_set (a' := setA t1.1 4 (t1.1.b - m)) sS k4 rfl ⟨by show t1.1.b - (t1.1.b - m) ≤ m; omega, by show m ≤ t1.1.b; omega, by show t1.1.e ≤ t2.2.2; omega, by show t2.2.2 ≤ t1.1.e + t1.1.la; omega⟩
  have wS' := wh_set (a' := setA t1.1 4 (t1.1.b - m)) k3 k4 rfl
  refine ⟨ok, ?_⟩
  cases hf : firstW (E.set i (setA t1.1 4 (t1.1.b - m))) with
  | none => exact (first_none ok.low hf sS' wS').elim
  | some T' =>
    obtain ⟨f1, f2, f3⟩ := first_some ok.low hf
    obtain ⟨g1, g2⟩ := (st_sd ok.low).mp f1
    obtain ⟨T, x1, x2, x3, x4⟩ := nar_sd (by rw [g1]; exact n) g2
    obtain ⟨t', ht', et'⟩ := pt_at g1 (a := setA t1.1 4 (t1.1.b - m)) (set_at ha)
    refine ⟨T', rfl, ⟨T, x1, x2, x3, x4 f2⟩, t', ht', ?_⟩
    have bd := f1.bd t' (List.mem_of_getElem? ht')
    unfold Bd at bd
    rw [et'] at bd
    have l1 : t1.1.b - (t1.1.b - m) ≤ t'.2.1 := bd.1
    have l2 := (LeT.iff.mp (f3 _ sS' wS')).2 i t' _ ht' (set_at k4)
    have l3 : t'.2.1 ≤ m := l2.1
    omega
theorem to_ok {E : List Act} (hE : EvOk E) {T1 T2 : List Pt} (s1 : St E T1) (w1 : Wh T1) (s2 : St E T2) (w2 : Wh T2) {i : Nat} {t1 t2 : Pt} (h1 : T1[i]? = some t1) (h2 : T2[i]? = some t2) (e1 : t1.1 = t2.1) {m : Int} (m1 : t1.2.2 ≤ m) (m2 : m ≤ t2.2.2) :
    EvOk (E.set i (setA t1.1 5 (m - t1.1.e))) ∧ ∃ T', lastW (E.set i (setA t1.1 5 (m - t1.1.e))) = some T' ∧ (∃ T, acts T = E ∧ moms T = moms T' ∧ Sd (-1000000000) T ∧ Wh T) ∧ ∃ t', T'[i]? = some t' ∧ t'.2.2 = m := by
  obtain ⟨a1, d1⟩ := (st_sd hE.low).mp s1
  obtain ⟨a2, d2⟩ := (st_sd hE.low).mp s2
  have ha : E[i]? = some t1.1 := by rw [← a1]; unfold acts; rw [List.getElem?_map, h1]; rfl
  have aok := hE.act t1.1 (List.mem_of_getElem? ha)
  have b1 := s1.bd t1 (List.mem_of_getElem? h1)
  have b2 := s2.bd t2 (List.mem_of_getElem? h2)
  have q1 := w1 t1 (List.mem_of_getElem? h1)
  unfold Bd at b1 b2
  rw [← e1] at b2
  have n : Nar E (E.set i (setA t1.1 5 (m - t1.1.e))) := nar_set (nar_refl hE) ha ⟨rfl, rfl, rfl, rfl, rfl, ⟨aok.ea.1, Int.le_refl _⟩, by show 0 ≤ m - t1.1.e; omega, by show m - t1.1.e ≤ t1.1.la; omega⟩
  have ok := nar_ok hE n
  obtain ⟨S, k1, k2, k3, k4⟩ := splice (x := t1.2.1) (y := m) (a1.trans a2.symm) d1 d2 w1 w2 h1 h2 (by omega) (by omega) (by omega) (by omega) (by omega)
  have sS : St E S := (st_sd hE.low).mpr ⟨k1.trans a1, k2⟩
  have sS' := st_set (a' := setA t1.1 5 (m - t1.1.e)) sS k4 rfl ⟨by show t1.1.b - t1.1.ea ≤ t1.2.1; omega, by show t1.2.1 ≤ t1.1.b; omega, by show t1.1.e ≤ m; omega, by show m ≤ t1.1.e + (m - t1.1.e); omega⟩
  have wS' := wh_set (a' := setA t1.1 5 (m - t1.1.e)) k3 k4 rfl
  refine ⟨ok, ?_⟩
  cases hf : lastW (E.set i (setA t1.1 5 (m - t1.1.e))) with
  | none => exact (last_none ok.low hf sS' wS').elim
  | some T' =>
    obtain ⟨f1, f2, f3⟩ := last_some ok.low hf
    obtain ⟨g1, g2⟩ := (st_sd ok.low).mp f1
    obtain ⟨T, x1, x2, x3, x4⟩ := nar_sd (by rw [g1]; exact n) g2
    obtain ⟨t', ht', et'⟩ := pt_at g1 (a := setA t1.1 5 (m - t1.1.e)) (set_at ha)
    refine ⟨T', rfl, ⟨T, x1, x2, x3, x4 f2⟩, t', ht', ?_⟩
    have bd := f1.bd t' (List.mem_of_getElem? ht')
    unfold Bd at bd
    rw [et'] at bd
    have l1 : t'.2.2 ≤ t1.1.e + (m - t1.1.e) := bd.2.2.2
    have l2 := (LeT.iff.mp (f3 _ sS' wS')).2 i _ t' (set_at k4) ht'
    have l3 : m ≤ t'.2.2 := l2.2
    omega
/-- held from beyond the latest, none -/
theorem from_none {E : List Act} (hE : EvOk E) {T2 : List Pt} (mo : ∀ T, St E T → Wh T → LeT T T2) {i : Nat} {t2 : Pt} (s2 : St E T2) (h2 : T2[i]? = some t2) (hb : t2.2.1 < t2.1.b) :
    EvOk (E.set i (setA t2.1 4 (t2.1.b - (t2.2.1 + 1)))) ∧ (firstW (E.set i (setA t2.1 4 (t2.1.b - (t2.2.1 + 1))))).isSome = false := by
  have ha : E[i]? = some t2.1 := by rw [← s2.ac]; unfold acts; rw [List.getElem?_map, h2]; rfl
  have aok := hE.act t2.1 (List.mem_of_getElem? ha)
  have b2 := s2.bd t2 (List.mem_of_getElem? h2)
  unfold Bd at b2
  have n : Nar E (E.set i (setA t2.1 4 (t2.1.b - (t2.2.1 + 1)))) := nar_set (nar_refl hE) ha ⟨rfl, rfl, rfl, rfl, rfl, ⟨by show 0 ≤ t2.1.b - (t2.2.1 + 1); omega, by show t2.1.b - (t2.2.1 + 1) ≤ t2.1.ea; omega⟩, aok.la.1, Int.le_refl _⟩
  have ok := nar_ok hE n
  refine ⟨ok, ?_⟩
  cases hf : firstW (E.set i (setA t2.1 4 (t2.1.b - (t2.2.1 + 1)))) with
  | none => rfl
  | some T' =>
    exfalso
    obtain ⟨f1, f2, _⟩ := first_some ok.low hf
    obtain ⟨g1, g2⟩ := (st_sd ok.low).mp f1
    obtain ⟨T, x1, x2, x3, x4⟩ := nar_sd (by rw [g1]; exact n) g2
    obtain ⟨t', ht', et'⟩ := pt_at g1 (a := setA t2.1 4 (t2.1.b - (t2.2.1 + 1))) (set_at ha)
    have bd := f1.bd t' (List.mem_of_getElem? ht')
    unfold Bd at bd
    rw [et'] at bd
    have l1 : t2.1.b - (t2.1.b - (t2.2.1 + 1)) ≤ t'.2.1 := bd.1
    have le := mo T ((st_sd hE.low).mpr ⟨x1, x3⟩) (x4 f2)
    obtain ⟨u, hu, _⟩ := pt_at x1 ha
    have eq : u.2 = t'.2 := by
      have := congrArg (fun l => l[i]?) x2
      simp only [moms, List.getElem?_map, hu, ht', Option.map_some, Option.some.injEq] at this
      exact this
    have := ((LeT.iff.mp le).2 i u t2 hu h2).1
    rw [eq] at this
    omega
theorem to_none {E : List Act} (hE : EvOk E) {T1 : List Pt} (le0 : ∀ T, St E T → Wh T → LeT T1 T) {i : Nat} {t1 : Pt} (s1 : St E T1) (h1 : T1[i]? = some t1) (hb : t1.1.e < t1.2.2) :
    EvOk (E.set i (setA t1.1 5 (t1.2.2 - 1 - t1.1.e))) ∧ (firstW (E.set i (setA t1.1 5 (t1.2.2 - 1 - t1.1.e)))).isSome = false := by
  have ha : E[i]? = some t1.1 := by rw [← s1.ac]; unfold acts; rw [List.getElem?_map, h1]; rfl
  have aok := hE.act t1.1 (List.mem_of_getElem? ha)
  have b2 := s1.bd t1 (List.mem_of_getElem? h1)
  unfold Bd at b2
  have n : Nar E (E.set i (setA t1.1 5 (t1.2.2 - 1 - t1.1.e))) := nar_set (nar_refl hE) ha ⟨rfl, rfl, rfl, rfl, rfl, ⟨aok.ea.1, Int.le_refl _⟩, by show 0 ≤ t1.2.2 - 1 - t1.1.e; omega, by show t1.2.2 - 1 - t1.1.e ≤ t1.1.la; omega⟩
  have ok := nar_ok hE n
  refine ⟨ok, ?_⟩
  cases hf : firstW (E.set i (setA t1.1 5 (t1.2.2 - 1 - t1.1.e))) with
  | none => rfl
  | some T' =>
    exfalso
    obtain ⟨f1, f2, _⟩ := first_some ok.low hf
    obtain ⟨g1, g2⟩ := (st_sd ok.low).mp f1
    obtain ⟨T, x1, x2, x3, x4⟩ := nar_sd (by rw [g1]; exact n) g2
    obtain ⟨t', ht', et'⟩ := pt_at g1 (a := setA t1.1 5 (t1.2.2 - 1 - t1.1.e)) (set_at ha)
    have bd := f1.bd t' (List.mem_of_getElem? ht')
    unfold Bd at bd
    rw [et'] at bd
    have l1 : t'.2.2 ≤ t1.1.e + (t1.2.2 - 1 - t1.1.e) := bd.2.2.2
    have le := le0 T ((st_sd hE.low).mpr ⟨x1, x3⟩) (x4 f2)
    obtain ⟨u, hu, _⟩ := pt_at x1 ha
    have eq : u.2 = t'.2 := by
      have := congrArg (fun l => l[i]?) x2
      simp only [moms, List.getElem?_map, hu, ht', Option.map_some, Option.some.injEq] at this
      exact this
    have := ((LeT.iff.mp le).2 i t1 u h1 hu).2
    rw [eq] at this
    omega
theorem mom_d {T : List Pt} {i : Nat} {t : Pt} (h : T[i]? = some t) : (moms T).getD i (0, 0) = t.2 := by
  unfold moms
  rw [List.getD_eq_getElem?_getD, List.getElem?_map, h]; rfl
theorem law_ok (ns : List Int) : f_law_k12 ns = .ok (.bool true) := by
  refine okF_eq ?_
  unfold f_law_k12 runL m_law_k12
  rw [okF_ret]
  walk_at "ev"
  refine ⟨rng_small (by omega), ?_⟩
  unfold rangeD
  refine forA (fun (R : List Nat) e => (∀ k ∈ R, (k : Int) < 1000) ∧ ∃ (s1 s2 s3 s4 s5 s6 s7 s8 s9 s10 s11 s12 s13 s14 s15 : Sl), e = [.scr ns, s1, s2, s3, s4, s5, s6, s7, s8, s9, s10, s11, s12, s13, s14, s15] ∧ wrS (some s1) = true ∧ wrS (some s2) = true ∧ wrS (some s3) = true ∧ wrS (some s4) = true ∧ wrS (some s5) = true ∧ wrS (some s6) = true ∧ wrS (some s7) = true ∧ wrS (some s8) = true ∧ wrS (some s9) = true ∧ wrS (some s10) = true ∧ wrS (some s11) = true ∧ wrS (some s12) = true ∧ wrS (some s13) = true ∧ wrS (some s14) = true ∧ wrS (some s15) = true) _ ?_ ?_ ?_
  · exact ⟨fun k hk => by have := List.mem_range.mp hk; omega, _, _, _, _, _, _, _, _, _, _, _, _, _, _, _, rfl, rfl, rfl, rfl, rfl, rfl, rfl, rfl, rfl, rfl, rfl, rfl, rfl, rfl, rfl, rfl⟩
  · rintro k R e ⟨hk, s1, s2, s3, s4, s5, s6, s7, s8, s9, s10, s11, s12, s13, s14, s15, rfl, h1, h2, h3, h4, h5, h6, h7, h8, h9, h10, h11, h12, h13, h14, h15⟩
    have hk0 := hk k (.head _)
    have hkR : ∀ k ∈ R, (k : Int) < 1000 := fun x hx => hk x (.tail _ hx)
    rw [Int.zero_add]
    walk_at "ev"
    simp only [h1, h2, h3, h4, h5, h6, h7, h8, h9, h10, h11, h12, h13, h14, h15]
    walk_at "ev"
    refine cellOf_ok ns (by omega) fun W hW => ?_
    try walk_at "ev"
    refine evening_ok hW (by omega) (by omega) fun E W1 dr hW1 => ?_
    have hE := dr.ok
    have l8 := hE.hi
    walk_at "ev"
    rw [earliest_good hE]
    walk_at "ev"
    rw [latest_good hE]
    walk_at "ev"
    cases hf : firstW E with
    | none =>
      rw [show okO (dIsNone (optD none) PyData.none) = fun R => R true from rfl]
      try walk_at "ev"
      try simp only [h1, h2, h3, h4, h5, h6, h7, h8, h9, h10, h11, h12, h13, h14, h15]
      try walk_at "ev"
      exact ⟨hkR, _, _, _, _, _, _, _, _, _, _, _, _, _, _, _, rfl, by and_intros <;> first | rfl | assumption⟩
    | some T1 =>
    cases hl : lastW E with
    | none =>
      obtain ⟨a1, a2, _⟩ := first_some hE.low hf
      exact (last_none hE.low hl a1 a2).elim
    | some T2 =>
    rw [show okO (dIsNone (optD (some T1)) PyData.none) = fun R => R false from rfl]
    walk_at "ev"
    rw [show okO (dIsNone (optD (some T2)) PyData.none) = fun R => R false from rfl]
    walk_at "ev"
    obtain ⟨st1, w1, le1⟩ := first_some hE.low hf
    obtain ⟨st2, w2, le2⟩ := last_some hE.low hl
    have n1 : (moms T1).length = E.length := by rw [← st1.ac]; simp [moms, acts]
    have n2 : (moms T2).length = E.length := by rw [← st2.ac]; simp [moms, acts]
    have hz : okO ((dZipTT2 [optD (some T1), optD (some T2)]).map enumD) = fun P => P ((List.range E.length).map fun i => .tuple [.int ((i : Nat) : Int), .tuple [prD ((moms T1).getD i (0, 0)), prD ((moms T2).getD i (0, 0))]]) := by
      funext P
      simp only [optD, stD]
      rw [v_enumZip, map_rng (0, 0) prD (moms T1), map_rng (0, 0) prD (moms T2), n1, n2, zip2_map, enum_rng]
    simp only [ok_enumZip]
    walk_at "ev"
    rw [hz]
    refine forA (fun (R' : List Nat) e => (∀ i ∈ R', i < E.length) ∧ ∃ (W' : List D) (s8 s9 s10 s11 s13 s14 : Sl), e = [.scr ns, .dat (.int k), s2, .own W', .dat (evD E), s5, .dat (optD (some T1)), .dat (optD (some T2)), s8, s9, s10, s11, s12, s13, s14, s15] ∧ WOk W' ∧ wrS (some s8) = true ∧ wrS (some s9) = true ∧ wrS (some s10) = true ∧ wrS (some s11) = true ∧ wrS (some s13) = true ∧ wrS (some s14) = true) _ ?_ ?_ ?_
    · exact ⟨fun i hi => List.mem_range.mp hi, W1, s8, s9, s10, s11, s13, s14, rfl, hW1, h8, h9, h10, h11, h13, h14⟩
    · clear h8 h9 h10 h11 h13 h14
      clear s8 s9 s10 s11 s13 s14
      rintro i R' e ⟨hi, W2, s8, s9, s10, s11, s13, s14, rfl, hW2, h8, h9, h10, h11, h13, h14⟩
      have hiR : ∀ i ∈ R', i < E.length := fun x hx => hi x (.tail _ hx)
      have hi := hi i (.head _)
      obtain ⟨t1, ht1, q1⟩ := pt_at st1.ac (List.getElem?_eq_getElem hi)
      obtain ⟨t2, ht2, q2⟩ := pt_at st2.ac (List.getElem?_eq_getElem hi)
      have ha : E[i]? = some t1.1 := by rw [q1]; exact List.getElem?_eq_getElem hi
      have hq : t1.1 = t2.1 := q1.trans q2.symm
      rw [mom_d ht1, mom_d ht2]
      obtain ⟨c1, c2⟩ := (LeT.iff.mp (le1 T2 st2 w2)).2 i t1 t2 ht1 ht2
      have b1 := st1.bd t1 (List.mem_of_getElem? ht1)
      have b2 := st2.bd t2 (List.mem_of_getElem? ht2)
      unfold Bd at b1 b2
      rw [← hq] at b2
      have aok := hE.act t1.1 (List.mem_of_getElem? ha)
      have aea := aok.ea
      have ala := aok.la
      simp only [prD]
      try walk_at "ev"
      simp only [h8, h13, h14]
      try walk_at "ev"
      rw [if_neg (by omega), if_neg (by omega)]
      try walk_at "ev"
      refine take_ok hW2 (by omega) (by omega) fun r W3 r0 r1 hW3 => ?_
      try walk_at "ev"
      simp only [h9]
      try walk_at "ev"
      rw [held_from_ok ha (by omega)]
      try walk_at "ev"
      obtain ⟨okF1, T', hT', ⟨S, x1, x2, x3, x4⟩, t', ht', em⟩ := from_ok hE st1 w1 st2 w2 ht1 ht2 hq (m := t1.2.1 + r) (by omega) (by omega)
      rw [earliest_good okF1, hT']
      try walk_at "ev"
      simp only [h10]
      try walk_at "ev"
      simp only [optD]
      rw [← x2, whole_told hE x1 x3, cost_zero.mpr x4]
      have hS : ((moms S).map prD)[i]? = some (.tuple [.int t'.2.1, .int t'.2.2]) := by rw [x2]; exact mom_at ht'
      simp only [stD]
      try walk_at "ev"
      rw [hS]
      try walk_at "ev"
      rw [em]
      try walk_at "ev"
      refine take_ok hW3 (by omega) (by omega) fun u W4 u0 u1 hW4 => ?_
      try walk_at "ev"
      rw [held_to_ok ha (by omega)]
      try walk_at "ev"
      obtain ⟨okF2, T'', hT'', ⟨S2, y1, y2, y3, y4⟩, t'', ht'', em2⟩ := to_ok hE st1 w1 st2 w2 ht1 ht2 hq (m := t1.2.2 + u) (by omega) (by omega)
      rw [latest_good okF2, hT'']
      try walk_at "ev"
      simp only [optD]
      rw [← y2, whole_told hE y1 y3, cost_zero.mpr y4]
      have hS2 : ((moms S2).map prD)[i]? = some (.tuple [.int t''.2.1, .int t''.2.2]) := by rw [y2]; exact mom_at ht''
      simp only [stD]
      try walk_at "ev"
      rw [hS2]
      try walk_at "ev"
      rw [em2]
      simp only [evD]
      try walk_at "ev"
      rw [act_at ha]
      try walk_at "ev"
      simp only [h11]
      try walk_at "ev"
      rw [show PyData.tuple (E.map actD) = evD E from rfl]
      by_cases g1 : t2.2.1 < t1.1.b
      · rw [if_pos g1]
        try walk_at "ev"
        rw [held_from_ok ha (by omega)]
        try walk_at "ev"
        obtain ⟨k1, k2⟩ := from_none hE le2 st2 ht2 (by rw [← hq]; exact g1)
        rw [← hq] at k1 k2
        rw [can_stand_ok k1, k2]
        try walk_at "ev"
        by_cases g2 : t1.1.e < t1.2.2
        · rw [if_pos g2, held_to_ok ha (by omega)]
          try walk_at "ev"
          obtain ⟨k1, k2⟩ := to_none hE le1 st1 ht1 g2
          rw [can_stand_ok k1, k2]
          try walk_at "ev"
          exact ⟨hiR, W4, _, _, _, _, _, _, rfl, hW4, rfl, rfl, rfl, rfl, rfl, rfl⟩
        · rw [if_neg g2]
          exact ⟨hiR, W4, _, _, _, _, _, _, rfl, hW4, rfl, rfl, rfl, rfl, rfl, rfl⟩
      · rw [if_neg g1]
        try walk_at "ev"
        by_cases g2 : t1.1.e < t1.2.2
        · rw [if_pos g2, held_to_ok ha (by omega)]
          try walk_at "ev"
          obtain ⟨k1, k2⟩ := to_none hE le1 st1 ht1 g2
          rw [can_stand_ok k1, k2]
          try walk_at "ev"
          exact ⟨hiR, W4, _, _, _, _, _, _, rfl, hW4, rfl, rfl, rfl, rfl, rfl, rfl⟩
        · rw [if_neg g2]
          exact ⟨hiR, W4, _, _, _, _, _, _, rfl, hW4, rfl, rfl, rfl, rfl, rfl, rfl⟩
    · clear h8 h9 h10 h11 h13 h14
      clear s8 s9 s10 s11 s13 s14
      rintro e ⟨-, W2, s8, s9, s10, s11, s13, s14, rfl, hW2, h8, h9, h10, h11, h13, h14⟩
      try walk_at "ev"
      refine ⟨by decide, ?_⟩
      unfold rangeD
      refine forA (fun (R' : List Nat) e => ∃ (W' : List D) (s5 s8 s9 s10 s11 s12 s13 s14 s15 : Sl), e = [.scr ns, .dat (.int k), s2, .own W', .dat (evD E), s5, .dat (optD (some T1)), .dat (optD (some T2)), s8, s9, s10, s11, s12, s13, s14, s15] ∧ WOk W' ∧ wrS (some s5) = true ∧ wrS (some s8) = true ∧ wrS (some s9) = true ∧ wrS (some s10) = true ∧ wrS (some s11) = true ∧ wrS (some s12) = true ∧ wrS (some s13) = true ∧ wrS (some s14) = true ∧ wrS (some s15) = true) _ ?_ ?_ ?_
      · exact ⟨W2, s5, s8, s9, s10, s11, s12, s13, s14, s15, rfl, hW2, h5, h8, h9, h10, h11, h12, h13, h14, h15⟩
      · clear h5 h8 h9 h10 h11 h12 h13 h14 h15
        clear s5 s8 s9 s10 s11 s12 s13 s14 s15
        rintro j R' e ⟨W3, s5, s8, s9, s10, s11, s12, s13, s14, s15, rfl, hW3, h5, h8, h9, h10, h11, h12, h13, h14, h15⟩
        try walk_at "ev"
        simp only [h5]
        try walk_at "ev"
        refine some_standing_ok hW3 hE fun T W4 ea es hW4 => ?_
        try walk_at "ev"
        simp only [h12]
        try walk_at "ev"
        rw [whole_told hE ea es]
        try walk_at "ev"
        by_cases g : cost T = 0
        · rw [if_pos g]
          have sT := (st_sd hE.low).mpr ⟨ea, es⟩
          have wT := cost_zero.mp g
          have l1 := LeT.iff.mp (le1 T sT wT)
          have l2 := LeT.iff.mp (le2 T sT wT)
          have n0 : (moms T).length = E.length := by rw [← ea]; simp [moms, acts]
          have hz3 : okO (dZip3 [stD (moms T), optD (some T1), optD (some T2)]) = fun P => P ((List.range E.length).map fun i => .tuple [prD ((moms T).getD i (0, 0)), prD ((moms T1).getD i (0, 0)), prD ((moms T2).getD i (0, 0))]) := by
            funext P
            simp only [optD, stD]
            rw [v_zip3, map_rng (0, 0) prD (moms T), map_rng (0, 0) prD (moms T1), map_rng (0, 0) prD (moms T2), n0, n1, n2, zip3_map]
          simp only [ok_zip3]
          try walk_at "ev"
          rw [hz3]
          refine forA (fun (R' : List Nat) e => (∀ i ∈ R', i < E.length) ∧ ∃ (s13 s14 s15 : Sl), e = [.scr ns, .dat (.int k), s2, .own W4, .dat (evD E), .dat (.int (0 + (j : Int))), .dat (optD (some T1)), .dat (optD (some T2)), s8, s9, s10, s11, .dat (stD (moms T)), s13, s14, s15] ∧ wrS (some s13) = true ∧ wrS (some s14) = true ∧ wrS (some s15) = true) _ ?_ ?_ ?_
          · exact ⟨fun i hi => List.mem_range.mp hi, s13, s14, s15, rfl, h13, h14, h15⟩
          · clear h13 h14 h15
            clear s13 s14 s15
            rintro i R' e ⟨hi, s13, s14, s15, rfl, h13, h14, h15⟩
            have hiR : ∀ i ∈ R', i < E.length := fun x hx => hi x (.tail _ hx)
            have hi := hi i (.head _)
            obtain ⟨t, ht, q⟩ := pt_at ea (List.getElem?_eq_getElem hi)
            obtain ⟨t1, ht1, q1⟩ := pt_at st1.ac (List.getElem?_eq_getElem hi)
            obtain ⟨t2, ht2, q2⟩ := pt_at st2.ac (List.getElem?_eq_getElem hi)
            rw [mom_d ht, mom_d ht1, mom_d ht2]
            obtain ⟨c1, c2⟩ := l1.2 i t1 t ht1 ht
            obtain ⟨d1, d2⟩ := l2.2 i t t2 ht ht2
            simp only [prD]
            try walk_at "ev"
            simp only [h13, h14, h15]
            try walk_at "ev"
            simp only [c1, c2, d1, d2, if_true, decide_true, Bool.not_true, Bool.false_eq_true, if_false]
            try walk_at "ev"
            exact ⟨hiR, _, _, _, rfl, rfl, rfl, rfl⟩
          · rintro e ⟨-, s13, s14, s15, rfl, h13, h14, h15⟩
            exact ⟨W4, _, _, _, _, _, _, _, _, _, rfl, hW4, rfl, h8, h9, h10, h11, rfl, h13, h14, h15⟩
        · rw [if_neg g]
          exact ⟨W4, _, _, _, _, _, _, _, _, _, rfl, hW4, rfl, h8, h9, h10, h11, rfl, h13, h14, h15⟩
      · rintro e ⟨W3, s5, s8, s9, s10, s11, s12, s13, s14, s15, rfl, hW3, h5, h8, h9, h10, h11, h12, h13, h14, h15⟩
        exact ⟨hkR, _, _, _, _, _, _, _, _, _, _, _, _, _, _, _, rfl, by and_intros <;> first | rfl | assumption⟩
  · rintro e ⟨-, s1, s2, s3, s4, s5, s6, s7, s8, s9, s10, s11, s12, s13, s14, s15, rfl, h1, h2, h3, h4, h5, h6, h7, h8, h9, h10, h11, h12, h13, h14, h15⟩
    walk_at "ev"
    simp only [h2]
    try walk_at "ev"
    have h0 : EvOk [⟨"a", 10, 12, 3, 4, 4, 2⟩, ⟨"b", 16, 18, 4, 4, 4, 0⟩] := by
      refine ⟨by simp, by simp, fun a ha => ?_, by decide +kernel, by simp [Fol]⟩
      simp only [List.mem_cons, List.not_mem_nil, or_false] at ha
      rcases ha with rfl | rfl
      · exact ⟨⟨by decide +kernel, by decide +kernel, by decide +kernel⟩, by dsimp only; omega, by dsimp only; omega, by dsimp only; omega, by dsimp only; omega, by dsimp only; omega⟩
      · exact ⟨⟨by decide +kernel, by decide +kernel, by decide +kernel⟩, by dsimp only; omega, by dsimp only; omega, by dsimp only; omega, by dsimp only; omega, by dsimp only; omega⟩
    have e1 := earliest_good h0
    have e2 := latest_good h0
    have x1 : optD (firstW [⟨"a", 10, 12, 3, 4, 4, 2⟩, ⟨"b", 16, 18, 4, 4, 4, 0⟩]) = .tuple [.tuple [.int 6, .int 12], .tuple [.int 14, .int 18]] := by rfl
    have x2 : optD (lastW [⟨"a", 10, 12, 3, 4, 4, 2⟩, ⟨"b", 16, 18, 4, 4, 4, 0⟩]) = .tuple [.tuple [.int 10, .int 14], .tuple [.int 16, .int 22]] := by rfl
    rw [x1] at e1
    rw [x2] at e2
    simp only [evD, actD, List.map_cons, List.map_nil] at e1 e2
    rw [e1]
    walk_at "ev"
    rw [v_eq]
    refine ⟨⟨by decide +kernel, by decide +kernel⟩, ?_⟩
    rw [if_pos (by decide +kernel), e2]
    walk_at "ev"
    rw [v_eq]
    exact ⟨⟨by decide +kernel, by decide +kernel⟩, congrArg PyData.bool (by decide +kernel)⟩
end Lw

namespace Lw
open PySem PySem.Spec PyProof.Rows L2 DL
def topS (i : Nat) : Stmt := PySem.Challenge.pw_lackruns_k12_whole_all_between_earliest.main.body.getD i (.Pass ⟨0, 0, 0, 0⟩)
structure Bt (K : PySem.W.Frag) (mg : Str → Option Value) : Prop where
  b_all : mg "all" = none
  b_bool : mg "bool" = none
  b_enumerate : mg "enumerate" = none
  b_int : mg "int" = none
  b_isinstance : mg "isinstance" = none
  b_len : mg "len" = none
  b_max : mg "max" = none
  b_min : mg "min" = none
  b_range : mg "range" = none
  b_set : mg "set" = none
  b_str : mg "str" = none
  b_sum : mg "sum" = none
  b_tuple : mg "tuple" = none
  b_zip : mg "zip" = none
  c_LETTERS : ∃ t, mg "LETTERS" = some (.str "abcdefghijklmnopqrstuvwxyz" t)
  c_MOST_MOMENT : ∃ t, mg "MOST_MOMENT" = some (.int 300 t)
  c_MOST_WANT : ∃ t, mg "MOST_WANT" = some (.int 200 t)
  c_MOST_ROOM : ∃ t, mg "MOST_ROOM" = some (.int 12 t)
  c_MOST_CHANGE : ∃ t, mg "MOST_CHANGE" = some (.int 20 t)
  c_MOST_ACTS : ∃ t, mg "MOST_ACTS" = some (.int 8 t)
  x_StageError : Ex K mg "StageError"
  x_NoEvening : Ex K mg "NoEvening"
section
variable {P : Program} {w : World} {K : PySem.W.Frag} {mg : Str → Option Value} {base : Heap}
abbrev N__law_well : List Str := ["script", "k", "cell", "primes", "seed"]
theorem sc__law_well : FnScope N__law_well ["script", "k"] (defScope (topS 23)) := ⟨rfl, rfl, rfl, by decide +kernel, rfl, by decide +kernel, by decide +kernel⟩
theorem ok__law_well (T : Bt K mg) {f : Addr} {fd : FuncData} (F : FnP K "_law_well" (topS 23) f fd) : FnOk P w K mg base (L2.CX P w) 1 f fd ["script", "k"] (spS K 2 (runS 5 m__law_well)) := by
  have sc := sc__law_well
  exact fn_scr F sc (by decide) (fun cdv A outer s H E hr => ((jss_cons (js_set 2 sc.nd (.inl rfl) je_int)
    (jss_cons (js_if (jt_cmp op_lt dCmp_ok (je_var 1) (je_lenO 0 (by rfl) T.b_len PySem.boot_len) (nomark _)) (jss_one (js_set 2 sc.nd (.inl rfl) (je_ixO 0 (je_var 1)))) jss_nil)
    (jss_cons (js_set 3 sc.nd (.inl rfl) (je_fz (jo_lst (jl_cons je_int (jl_cons je_int (jl_cons je_int (jl_cons je_int (jl_cons je_int (jl_cons je_int (jl_cons je_int (jl_cons je_int jl_nil)))))))))))
    (jss_cons (js_set 4 sc.nd (.inl rfl) (je_op op_mod dMod_ok (je_op op_mul dMulI_ok (je_op op_addD dAdd_ok (je_op op_mod dMod_ok (je_var 2) je_int) je_int) (je_op op_addD dAdd_ok je_int (je_op op_mul dMulI_ok je_int (je_var 1)))) je_int))
    (jss_cons (js_set 4 sc.nd (.inl rfl) (je_op op_addD dAdd_ok (je_op op_addD dAdd_ok (je_op op_mod dMod_ok (je_op op_mul dMulI_ok (je_var 4) (je_var 4)) je_int) (je_var 1)) je_int))
    (jss_cons (js_if (jt_cmp op_ge dCmp_ok (je_var 2) (je_op op_pow dPow_ok je_int je_int) (nomark _)) (jss_one (js_retO (jo_lst (jl_cons (je_var 2) (jl_cons (je_var 4) (jl_cons (je_ix (je_var 3) (je_op op_mod dMod_ok (je_var 1) je_int)) jl_nil)))))) jss_nil)
    (jss_one (js_retO (jo_lst (jl_cons je_int (jl_cons (je_var 4) (jl_cons (je_ix (je_var 3) (je_op op_mod dMod_ok (je_var 1) je_int)) jl_nil))))))))))))))
abbrev N__law_take : List Str := ["well", "many", "drew"]
theorem sc__law_take : FnScope N__law_take ["well", "many"] (defScope (topS 24)) := ⟨rfl, rfl, rfl, by decide +kernel, rfl, by decide +kernel, by decide +kernel⟩
theorem ok__law_take (T : Bt K mg) {f : Addr} {fd : FuncData} (F : FnP K "_law_take" (topS 24) f fd) : FnOk P w K mg base (L2.CX P w) 1 f fd ["well", "many"] (spC K 2 (runC 3 m__law_take)) := by
  have sc := sc__law_take
  exact fn_cell F sc (by decide) (fun cdv A outer s H E hr => ((jss_cons (js_if (jt_cmp op_gt dCmp_ok (je_ixO 0 je_int) je_int (nomark _)) (jss_cons (js_set 2 sc.nd (.inl rfl) (je_op op_mod dMod_ok (je_ixO 0 je_int) (je_var 1)))
    (jss_cons (js_setIx 0 (je_op op_fdiv dDiv_ok (je_ixO 0 je_int) (je_var 1)) je_int)
    (jss_one (js_ret (je_var 2))))) jss_nil)
    (jss_cons (js_setIx 0 (je_op op_addD dAdd_ok (je_op op_mod dMod_ok (je_op op_mul dMulI_ok (je_ixO 0 je_int) je_int) (je_ixO 0 je_int)) je_int) je_int)
    (jss_one (js_ret (je_op op_mod dMod_ok (je_op op_fdiv dDiv_ok (je_op op_mod dMod_ok (je_op op_mul dMulI_ok (je_ixO 0 je_int) (je_ixO 0 je_int)) je_int) je_int) (je_var 1))))))))
abbrev N__law_evening : List Str := ["well", "most", "wide", "easy", "name", "found", "at", "begin", "end", "want", "change"]
theorem sc__law_evening : FnScope N__law_evening ["well", "most", "wide"] (defScope (topS 26)) := ⟨rfl, rfl, rfl, by decide +kernel, rfl, by decide +kernel, by decide +kernel⟩
theorem ok__law_evening (T : Bt K mg) (G__law_take : Gd P w K mg base "_law_take" 1 (spC K 2 f__law_take)) {f : Addr} {fd : FuncData} (F : FnP K "_law_evening" (topS 26) f fd) : FnOk P w K mg base (L2.CX P w) 2 f fd ["well", "most", "wide"] (spC K 3 (runC 11 m__law_evening)) := by
  have sc := sc__law_evening
  exact fn_cell F sc (by decide) (fun cdv A outer s H E hr => ((jss_cons (js_par2 (i := 5) (j := 6) rfl sc.nd (by decide) rfl rfl (jv_o (jo_lst jl_nil)) (jv_e (je_fnC' 0 G__law_take hr (by rfl) (takes_of rfl rfl rfl rfl) (jl_cons je_int jl_nil) (len_cons len_nil))) rfl)
    (jss_cons (js_set 3 sc.nd (.inl rfl) (je_fnC' 0 G__law_take hr (by rfl) (takes_of rfl rfl rfl rfl) (jl_cons je_int jl_nil) (len_cons len_nil)))
    (jss_cons (js_for (passes_of rfl) rfl (ji_seq (je_sl (je_fz (jo_lst (jl_cons je_str (jl_cons je_str (jl_cons je_str (jl_cons je_str (jl_cons je_str (jl_cons je_str (jl_cons je_str (jl_cons je_str jl_nil)))))))))) jp_none (jp_some (je_op op_addD dAdd_ok je_int (je_fnC' 0 G__law_take hr (by rfl) (takes_of rfl rfl rfl rfl) (jl_cons (je_var 1) jl_nil) (len_cons len_nil)))))) (jg_name 4 sc.nd (.inl rfl)) (jss_cons (js_set 7 sc.nd (.inl rfl) (je_op op_addD dAdd_ok (je_var 6) (je_fnC' 0 G__law_take hr (by rfl) (takes_of rfl rfl rfl rfl) (jl_cons (je_ix (je_fz (jo_lst (jl_cons je_int (jl_cons je_int (jl_cons je_int jl_nil))))) (je_fnC' 0 G__law_take hr (by rfl) (takes_of rfl rfl rfl rfl) (jl_cons je_int jl_nil) (len_cons len_nil))) jl_nil) (len_cons len_nil))))
    (jss_cons (js_set 8 sc.nd (.inl rfl) (je_op op_addD dAdd_ok (je_op op_addD dAdd_ok (je_var 7) je_int) (je_fnC' 0 G__law_take hr (by rfl) (takes_of rfl rfl rfl rfl) (jl_cons (je_ix (je_fz (jo_lst (jl_cons je_int (jl_cons je_int (jl_cons je_int jl_nil))))) (je_fnC' 0 G__law_take hr (by rfl) (takes_of rfl rfl rfl rfl) (jl_cons je_int jl_nil) (len_cons len_nil))) jl_nil) (len_cons len_nil))))
    (jss_cons (js_set 9 sc.nd (.inl rfl) (je_op op_addD dAdd_ok (je_op op_sub dSub_ok (je_var 8) (je_var 7)) (je_fnC' 0 G__law_take hr (by rfl) (takes_of rfl rfl rfl rfl) (jl_cons (je_ix (je_fz (jo_lst (jl_cons je_int (jl_cons je_int (jl_cons je_int jl_nil))))) (je_var 3)) jl_nil) (len_cons len_nil))))
    (jss_cons (js_set 10 sc.nd (.inl rfl) (je_fnC' 0 G__law_take hr (by rfl) (takes_of rfl rfl rfl rfl) (jl_cons (je_ix (je_fz (jo_lst (jl_cons je_int (jl_cons je_int (jl_cons je_int jl_nil))))) (je_fnC' 0 G__law_take hr (by rfl) (takes_of rfl rfl rfl rfl) (jl_cons je_int jl_nil) (len_cons len_nil))) jl_nil) (len_cons len_nil)))
    (jss_cons (js_meth 5 PySem.F.slot_list_append PySem.F.type_list_append mt_append dAppend_ok (jl_cons (je_tup (jl_cons (je_var 4) (jl_cons (je_var 7) (jl_cons (je_var 8) (jl_cons (je_var 9) (jl_cons (je_fnC' 0 G__law_take hr (by rfl) (takes_of rfl rfl rfl rfl) (jl_cons (je_op op_addD dAdd_ok (je_var 2) je_int) jl_nil) (len_cons len_nil)) (jl_cons (je_fnC' 0 G__law_take hr (by rfl) (takes_of rfl rfl rfl rfl) (jl_cons (je_op op_addD dAdd_ok (je_var 2) je_int) jl_nil) (len_cons len_nil)) (jl_cons (je_var 10) jl_nil)))))))) jl_nil))
    (jss_one (js_set 6 sc.nd (.inl rfl) (je_op op_addD dAdd_ok (je_var 8) (je_var 10))))))))))
    (jss_one (js_ret (je_callTy call_tuple_of dTupC_ok (by rfl) T.b_tuple PyProof.Rows.boot_tuple (jl_cons (je_fz (jo_var 5)) jl_nil)))))))))
abbrev N_follow : List Str := ["acts", "one", "other"]
theorem sc_follow : FnScope N_follow ["acts"] (defScope (topS 13)) := ⟨rfl, rfl, rfl, by decide +kernel, rfl, by decide +kernel, by decide +kernel⟩
theorem ok_follow (T : Bt K mg) {f : Addr} {fd : FuncData} (F : FnP K "follow" (topS 13) f fd) : FnOk P w K mg base (L2.CX P w) 1 f fd ["acts"] (spF K 1 (runF 3 m_follow)) := by
  have sc := sc_follow
  exact fn_pure F sc (by decide) (fun cdv A outer s H E hr => ((jss_one (js_ret (je_callB (cr_all rfl) dAll_ok (by rfl) T.b_all (by decide +kernel) (jl_cons (je_fz (jo_comp (own := [("one", 1), ("other", 2)]) rfl sc.nd (ji_zip (by rfl) T.b_zip (jl_cons (je_var 0) (jl_cons (je_sl (je_var 0) (jp_some je_int) jp_none) jl_nil))) (blkOk_by (N := N_follow) (sc := defScope (topS 13)) (by decide +kernel)) (fun _ _ _ _ _ => (jg_tup rfl (jgs_cons (jg_name 1 sc.nd (.inl rfl)) (jgs_cons (jg_name 2 sc.nd (.inl rfl)) jgs_nil)) (gl_cons (gl_cons gl_nil)))) (fun _ _ _ _ _ => jts_nil) (fun _ _ _ _ _ => (je_cmp op_le dCmp_ok (je_op op_addD dAdd_ok (je_ix (je_var 1) je_int) (je_ix (je_var 1) je_int)) (je_ix (je_var 2) je_int) (nomark _))) (by decide) (tg_tup (tgs_cons (tg_name 1) (tgs_cons (tg_name 2) tgs_nil))))) jl_nil))))))
abbrev N_is_whole : List Str := ["thing", "low", "high"]
theorem sc_is_whole : FnScope N_is_whole ["thing", "low", "high"] (defScope (topS 10)) := ⟨rfl, rfl, rfl, by decide +kernel, rfl, by decide +kernel, by decide +kernel⟩
theorem ok_is_whole (T : Bt K mg) {f : Addr} {fd : FuncData} (F : FnP K "is_whole" (topS 10) f fd) : FnOk P w K mg base (L2.CX P w) 1 f fd ["thing", "low", "high"] (spF K 3 (runF 3 m_is_whole)) := by
  have sc := sc_is_whole
  exact fn_pure F sc (by decide) (fun cdv A outer s H E hr => ((jss_one (js_ret (je_and (je_isi "int" isiOk_int (by rfl) T.b_isinstance (by rfl) T.b_int PyProof.Rows.boot_int (je_var 0)) (je_and (je_not (je_isi "bool" isiOk_bool (by rfl) T.b_isinstance (by rfl) T.b_bool PyProof.Rows.boot_bool (je_var 0))) (je_one (je_chain op_le dCmp_ok op_le dCmp_ok (je_var 1) (je_var 0) (je_var 2)))))))))
abbrev N_is_name : List Str := ["thing", "sign"]
theorem sc_is_name : FnScope N_is_name ["thing"] (defScope (topS 11)) := ⟨rfl, rfl, rfl, by decide +kernel, rfl, by decide +kernel, by decide +kernel⟩
theorem ok_is_name (T : Bt K mg) {f : Addr} {fd : FuncData} (F : FnP K "is_name" (topS 11) f fd) : FnOk P w K mg base (L2.CX P w) 1 f fd ["thing"] (spF K 1 (runF 2 m_is_name)) := by
  have sc := sc_is_name
  exact fn_pure F sc (by decide) (fun cdv A outer s H E hr => ((jss_one (js_ret (je_and (je_isi "str" isiOk_str (by rfl) T.b_isinstance (by rfl) T.b_str PyProof.Rows.boot_str (je_var 0)) (je_and (je_chain op_le dCmp_ok op_le dCmp_ok je_int (je_callB call_len dLen_ok (by rfl) T.b_len PySem.boot_len (jl_cons (je_var 0) jl_nil)) je_int) (je_one (je_callB (cr_all rfl) dAll_ok (by rfl) T.b_all (by decide +kernel) (jl_cons (je_fz (jo_comp (own := [("sign", 1)]) rfl sc.nd (ji_str (je_var 0)) (blkOk_by (N := N_is_name) (sc := defScope (topS 11)) (by decide +kernel)) (fun _ _ _ _ _ => (jg_name 1 sc.nd (.inl rfl))) (fun _ _ _ _ _ => jts_nil) (fun _ _ _ _ _ => (je_cmp (op_inA (u65 hr)) dInA_ok (je_var 1) (je_globS (by rfl) T.c_LETTERS) (by with_unfolding_all rfl))) (by decide) (tg_name 1))) jl_nil)))))))))
abbrev N_is_act : List Str := ["thing"]
theorem sc_is_act : FnScope N_is_act ["thing"] (defScope (topS 12)) := ⟨rfl, rfl, rfl, by decide +kernel, rfl, by decide +kernel, by decide +kernel⟩
theorem ok_is_act (T : Bt K mg) (G_is_name : Gd P w K mg base "is_name" 1 (spF K 1 f_is_name)) (G_is_whole : Gd P w K mg base "is_whole" 1 (spF K 3 f_is_whole)) {f : Addr} {fd : FuncData} (F : FnP K "is_act" (topS 12) f fd) : FnOk P w K mg base (L2.CX P w) 2 f fd ["thing"] (spF K 1 (runF 1 m_is_act)) := by
  have sc := sc_is_act
  exact fn_pure F sc (by decide) (fun cdv A outer s H E hr => ((jss_cons (js_if (jw_pt (jw_or (jt_not (jt_isi "tuple" isiOk_tuple (by rfl) T.b_isinstance (by rfl) T.b_tuple PyProof.Rows.boot_tuple (je_var 0))) (jw_or (jt_cmp (op_neD hr.units) dNe_ok (je_callB call_len dLen_ok (by rfl) T.b_len PySem.boot_len (jl_cons (je_var 0) jl_nil)) je_int (nomark _)) (jw_or1 (jt_not (jt_tru (je_fn' G_is_name hr (by rfl) (takes_of rfl rfl rfl rfl) (jl_cons (je_ix (je_var 0) je_int) jl_nil) (len_cons len_nil)))))))) (jss_one (js_ret je_bl)) jss_nil)
    (jss_cons (js_if (jw_pt (jw_or (jt_not (jt_tru (je_fn' G_is_whole hr (by rfl) (takes_of rfl rfl rfl rfl) (jl_cons (je_ix (je_var 0) je_int) (jl_cons je_int (jl_cons (je_glob (by rfl) T.c_MOST_MOMENT) jl_nil))) (len_cons (len_cons (len_cons len_nil)))))) (jw_or1 (jt_not (jt_tru (je_fn' G_is_whole hr (by rfl) (takes_of rfl rfl rfl rfl) (jl_cons (je_ix (je_var 0) je_int) (jl_cons (je_op op_addD dAdd_ok (je_ix (je_var 0) je_int) je_int) (jl_cons (je_glob (by rfl) T.c_MOST_MOMENT) jl_nil))) (len_cons (len_cons (len_cons len_nil))))))))) (jss_one (js_ret je_bl)) jss_nil)
    (jss_cons (js_if (jw_pt (jw_or (jt_not (jt_tru (je_fn' G_is_whole hr (by rfl) (takes_of rfl rfl rfl rfl) (jl_cons (je_ix (je_var 0) je_int) (jl_cons (je_op op_sub dSub_ok (je_ix (je_var 0) je_int) (je_ix (je_var 0) je_int)) (jl_cons (je_glob (by rfl) T.c_MOST_WANT) jl_nil))) (len_cons (len_cons (len_cons len_nil)))))) (jw_or1 (jt_not (jt_tru (je_fn' G_is_whole hr (by rfl) (takes_of rfl rfl rfl rfl) (jl_cons (je_ix (je_var 0) je_int) (jl_cons je_int (jl_cons (je_glob (by rfl) T.c_MOST_CHANGE) jl_nil))) (len_cons (len_cons (len_cons len_nil))))))))) (jss_one (js_ret je_bl)) jss_nil)
    (jss_one (js_ret (je_and (je_fn' G_is_whole hr (by rfl) (takes_of rfl rfl rfl rfl) (jl_cons (je_ix (je_var 0) je_int) (jl_cons je_int (jl_cons (je_glob (by rfl) T.c_MOST_ROOM) jl_nil))) (len_cons (len_cons (len_cons len_nil)))) (je_one (je_fn' G_is_whole hr (by rfl) (takes_of rfl rfl rfl rfl) (jl_cons (je_ix (je_var 0) je_int) (jl_cons je_int (jl_cons (je_glob (by rfl) T.c_MOST_ROOM) jl_nil))) (len_cons (len_cons (len_cons len_nil)))))))))))))
abbrev N_is_evening : List Str := ["thing", "names", "one"]
theorem sc_is_evening : FnScope N_is_evening ["thing"] (defScope (topS 14)) := ⟨rfl, rfl, rfl, by decide +kernel, rfl, by decide +kernel, by decide +kernel⟩
theorem ok_is_evening (T : Bt K mg) (G_is_act : Gd P w K mg base "is_act" 2 (spF K 1 f_is_act)) (G_follow : Gd P w K mg base "follow" 1 (spF K 1 f_follow)) {f : Addr} {fd : FuncData} (F : FnP K "is_evening" (topS 14) f fd) : FnOk P w K mg base (L2.CX P w) 3 f fd ["thing"] (spF K 1 (runF 3 m_is_evening)) := by
  have sc := sc_is_evening
  exact fn_pure F sc (by decide) (fun cdv A outer s H E hr => ((jss_cons (js_if (jw_pt (jw_or (jt_not (jt_isi "tuple" isiOk_tuple (by rfl) T.b_isinstance (by rfl) T.b_tuple PyProof.Rows.boot_tuple (je_var 0))) (jw_or (jt_not (jt_chain op_le dCmp_ok op_le dCmp_ok je_int (je_callB call_len dLen_ok (by rfl) T.b_len PySem.boot_len (jl_cons (je_var 0) jl_nil)) (je_glob (by rfl) T.c_MOST_ACTS))) (jw_or1 (jt_not (jt_tru (je_callB (cr_all rfl) dAll_ok (by rfl) T.b_all (by decide +kernel) (jl_cons (je_fz (jo_comp (own := [("one", 2)]) rfl sc.nd (ji_seq (je_var 0)) (blkOk_by (N := N_is_evening) (sc := defScope (topS 14)) (by decide +kernel)) (fun _ _ _ _ _ => (jg_name 2 sc.nd (.inl rfl))) (fun _ _ _ _ _ => jts_nil) (fun _ _ _ _ _ => (je_fn' G_is_act hr (by rfl) takes0 (jl_cons (je_var 2) jl_nil) (len_cons len_nil))) (by decide) (tg_name 2))) jl_nil)))))))) (jss_one (js_ret je_bl)) jss_nil)
    (jss_cons (js_setComp 1 (own := [("one", 2)]) rfl sc.nd rfl (sw_true rfl rfl rfl (by decide +kernel)) (ji_seq (je_var 0)) (blkOk_by (N := N_is_evening) (sc := defScope (topS 14)) (by decide +kernel)) (fun _ _ _ _ _ => (jg_name 2 sc.nd (.inl rfl))) (fun _ _ _ _ _ => jts_nil) (fun _ _ _ _ _ => (je_ix (je_var 2) je_int)) (by decide) (tg_name 2))
    (jss_frz 1 (jss_one (js_ret (je_and (je_cmp (op_eqD hr.units) dEq_ok (je_lenSet (by rfl) T.b_len (by rfl) T.b_set (je_var 1)) (je_callB call_len dLen_ok (by rfl) T.b_len PySem.boot_len (jl_cons (je_var 1) jl_nil)) (nomark _)) (je_one (je_fn' G_follow (hr.mono (by decide)) (by rfl) (takes_of rfl rfl rfl rfl) (jl_cons (je_var 0) jl_nil) (len_cons len_nil)))))))))))
abbrev N_need_evening : List Str := ["evening"]
theorem sc_need_evening : FnScope N_need_evening ["evening"] (defScope (topS 15)) := ⟨rfl, rfl, rfl, by decide +kernel, rfl, by decide +kernel, by decide +kernel⟩
theorem ok_need_evening (T : Bt K mg) (G_is_evening : Gd P w K mg base "is_evening" 3 (spF K 1 f_is_evening)) {f : Addr} {fd : FuncData} (F : FnP K "need_evening" (topS 15) f fd) : FnOk P w K mg base (L2.CX P w) 4 f fd ["evening"] (spF K 1 (runF 1 m_need_evening)) := by
  have sc := sc_need_evening
  exact fn_pure F sc (by decide) (fun cdv A outer s H E hr => ((jss_one (js_if (jt_not (jt_tru (je_fn' G_is_evening hr (by rfl) (takes_of rfl rfl rfl rfl) (jl_cons (je_var 0) jl_nil) (len_cons len_nil)))) (jss_one (js_raiseX T.x_NoEvening (takes_of rfl rfl rfl rfl))) jss_nil))))
abbrev N_first_whole : List Str := ["evening", "found", "free", "name", "begin", "end", "want", "early", "late", "change", "since", "to"]
theorem sc_first_whole : FnScope N_first_whole ["evening"] (defScope (topS 17)) := ⟨rfl, rfl, rfl, by decide +kernel, rfl, by decide +kernel, by decide +kernel⟩
theorem ok_first_whole (T : Bt K mg) {f : Addr} {fd : FuncData} (F : FnP K "first_whole" (topS 17) f fd) : FnOk P w K mg base (L2.CX P w) 1 f fd ["evening"] (spF K 1 (runF 12 m_first_whole)) := by
  have sc := sc_first_whole
  exact fn_pure F sc (by decide) (fun cdv A outer s H E hr => ((jss_cons (js_par2 (i := 1) (j := 2) rfl sc.nd (by decide) rfl rfl (jv_o (jo_lst jl_nil)) (jv_e je_non) rfl)
    (jss_cons (js_for (passes_of rfl) rfl (ji_seq (je_var 0)) (jg_tup rfl (jgs_cons (jg_name 3 sc.nd (.inl rfl)) (jgs_cons (jg_name 4 sc.nd (.inl rfl)) (jgs_cons (jg_name 5 sc.nd (.inl rfl)) (jgs_cons (jg_name 6 sc.nd (.inl rfl)) (jgs_cons (jg_name 7 sc.nd (.inl rfl)) (jgs_cons (jg_name 8 sc.nd (.inl rfl)) (jgs_cons (jg_name 9 sc.nd (.inl rfl)) jgs_nil))))))) (gl_cons (gl_cons (gl_cons (gl_cons (gl_cons (gl_cons (gl_cons gl_nil)))))))) (jss_cons (js_set 10 sc.nd (.inl rfl) (je_ifE (jt_cmp op_isN dIsNone_ok (je_var 2) je_non (nomark _)) (je_op op_sub dSub_ok (je_var 4) (je_var 7)) (je_callB (call_max2 rfl) dMax2_ok (by rfl) T.b_max (by decide +kernel) (jl_cons (je_op op_sub dSub_ok (je_var 4) (je_var 7)) (jl_cons (je_var 2) jl_nil)))))
    (jss_cons (js_set 11 sc.nd (.inl rfl) (je_callB (call_max2 rfl) dMax2_ok (by rfl) T.b_max (by decide +kernel) (jl_cons (je_var 5) (jl_cons (je_op op_addD dAdd_ok (je_var 10) (je_var 6)) jl_nil))))
    (jss_cons (js_if (jw_pt (jw_or (jt_cmp op_gt dCmp_ok (je_var 10) (je_var 4) (nomark _)) (jw_or1 (jt_cmp op_gt dCmp_ok (je_var 11) (je_op op_addD dAdd_ok (je_var 5) (je_var 8)) (nomark _))))) (jss_one (js_ret je_non)) jss_nil)
    (jss_cons (js_meth 1 PySem.F.slot_list_append PySem.F.type_list_append mt_append dAppend_ok (jl_cons (je_tup (jl_cons (je_var 10) (jl_cons (je_var 11) jl_nil))) jl_nil))
    (jss_one (js_set 2 sc.nd (.inl rfl) (je_op op_addD dAdd_ok (je_var 11) (je_var 9)))))))))
    (jss_one (js_ret (je_callTy call_tuple_of dTupC_ok (by rfl) T.b_tuple PyProof.Rows.boot_tuple (jl_cons (je_fz (jo_var 1)) jl_nil))))))))
abbrev N_earliest : List Str := ["evening"]
theorem sc_earliest : FnScope N_earliest ["evening"] (defScope (topS 20)) := ⟨rfl, rfl, rfl, by decide +kernel, rfl, by decide +kernel, by decide +kernel⟩
theorem ok_earliest (T : Bt K mg) (G_need_evening : Gd P w K mg base "need_evening" 4 (spF K 1 f_need_evening)) (G_first_whole : Gd P w K mg base "first_whole" 1 (spF K 1 f_first_whole)) {f : Addr} {fd : FuncData} (F : FnP K "earliest" (topS 20) f fd) : FnOk P w K mg base (L2.CX P w) 5 f fd ["evening"] (spF K 1 (runF 1 m_earliest)) := by
  have sc := sc_earliest
  exact fn_pure F sc (by decide) (fun cdv A outer s H E hr => ((jss_cons (js_expr (je_fn' G_need_evening hr (by rfl) (takes_of rfl rfl rfl rfl) (jl_cons (je_var 0) jl_nil) (len_cons len_nil)))
    (jss_one (js_ret (je_fn' G_first_whole (hr.mono (by decide)) (by rfl) (takes_of rfl rfl rfl rfl) (jl_cons (je_var 0) jl_nil) (len_cons len_nil)))))))
abbrev N_last_whole : List Str := ["evening", "found", "need", "name", "begin", "end", "want", "early", "late", "change", "to", "since"]
theorem sc_last_whole : FnScope N_last_whole ["evening"] (defScope (topS 18)) := ⟨rfl, rfl, rfl, by decide +kernel, rfl, by decide +kernel, by decide +kernel⟩
theorem ok_last_whole (T : Bt K mg) {f : Addr} {fd : FuncData} (F : FnP K "last_whole" (topS 18) f fd) : FnOk P w K mg base (L2.CX P w) 1 f fd ["evening"] (spF K 1 (runF 12 m_last_whole)) := by
  have sc := sc_last_whole
  exact fn_pure F sc (by decide) (fun cdv A outer s H E hr => ((jss_cons (js_par2 (i := 1) (j := 2) rfl sc.nd (by decide) rfl rfl (jv_o (jo_lst jl_nil)) (jv_e je_non) rfl)
    (jss_cons (js_for (passes_of rfl) rfl (ji_seq (je_rev (je_var 0))) (jg_tup rfl (jgs_cons (jg_name 3 sc.nd (.inl rfl)) (jgs_cons (jg_name 4 sc.nd (.inl rfl)) (jgs_cons (jg_name 5 sc.nd (.inl rfl)) (jgs_cons (jg_name 6 sc.nd (.inl rfl)) (jgs_cons (jg_name 7 sc.nd (.inl rfl)) (jgs_cons (jg_name 8 sc.nd (.inl rfl)) (jgs_cons (jg_name 9 sc.nd (.inl rfl)) jgs_nil))))))) (gl_cons (gl_cons (gl_cons (gl_cons (gl_cons (gl_cons (gl_cons gl_nil)))))))) (jss_cons (js_set 10 sc.nd (.inl rfl) (je_ifE (jt_cmp op_isN dIsNone_ok (je_var 2) je_non (nomark _)) (je_op op_addD dAdd_ok (je_var 5) (je_var 8)) (je_callB (call_min2 rfl) dMin2_ok (by rfl) T.b_min (by decide +kernel) (jl_cons (je_op op_addD dAdd_ok (je_var 5) (je_var 8)) (jl_cons (je_op op_sub dSub_ok (je_var 2) (je_var 9)) jl_nil)))))
    (jss_cons (js_set 11 sc.nd (.inl rfl) (je_callB (call_min2 rfl) dMin2_ok (by rfl) T.b_min (by decide +kernel) (jl_cons (je_var 4) (jl_cons (je_op op_sub dSub_ok (je_var 10) (je_var 6)) jl_nil))))
    (jss_cons (js_if (jw_pt (jw_or (jt_cmp op_lt dCmp_ok (je_var 10) (je_var 5) (nomark _)) (jw_or1 (jt_cmp op_lt dCmp_ok (je_var 11) (je_op op_sub dSub_ok (je_var 4) (je_var 7)) (nomark _))))) (jss_one (js_ret je_non)) jss_nil)
    (jss_cons (js_meth 1 PySem.F.slot_list_append PySem.F.type_list_append mt_append dAppend_ok (jl_cons (je_tup (jl_cons (je_var 11) (jl_cons (je_var 10) jl_nil))) jl_nil))
    (jss_one (js_set 2 sc.nd (.inl rfl) (je_var 11))))))))
    (jss_one (js_ret (je_callTy call_tuple_of dTupC_ok (by rfl) T.b_tuple PyProof.Rows.boot_tuple (jl_cons (je_rev (je_fz (jo_var 1))) jl_nil))))))))
abbrev N_latest : List Str := ["evening"]
theorem sc_latest : FnScope N_latest ["evening"] (defScope (topS 21)) := ⟨rfl, rfl, rfl, by decide +kernel, rfl, by decide +kernel, by decide +kernel⟩
theorem ok_latest (T : Bt K mg) (G_need_evening : Gd P w K mg base "need_evening" 4 (spF K 1 f_need_evening)) (G_last_whole : Gd P w K mg base "last_whole" 1 (spF K 1 f_last_whole)) {f : Addr} {fd : FuncData} (F : FnP K "latest" (topS 21) f fd) : FnOk P w K mg base (L2.CX P w) 5 f fd ["evening"] (spF K 1 (runF 1 m_latest)) := by
  have sc := sc_latest
  exact fn_pure F sc (by decide) (fun cdv A outer s H E hr => ((jss_cons (js_expr (je_fn' G_need_evening hr (by rfl) (takes_of rfl rfl rfl rfl) (jl_cons (je_var 0) jl_nil) (len_cons len_nil)))
    (jss_one (js_ret (je_fn' G_last_whole (hr.mono (by decide)) (by rfl) (takes_of rfl rfl rfl rfl) (jl_cons (je_var 0) jl_nil) (len_cons len_nil)))))))
abbrev N__law_some_standing : List Str := ["well", "evening", "act", "need", "at", "found", "ready", "begin", "end", "pair"]
theorem sc__law_some_standing : FnScope N__law_some_standing ["well", "evening"] (defScope (topS 31)) := ⟨rfl, rfl, rfl, by decide +kernel, rfl, by decide +kernel, by decide +kernel⟩
theorem ok__law_some_standing (T : Bt K mg) (G__law_take : Gd P w K mg base "_law_take" 1 (spC K 2 f__law_take)) {f : Addr} {fd : FuncData} (F : FnP K "_law_some_standing" (topS 31) f fd) : FnOk P w K mg base (L2.CX P w) 2 f fd ["well", "evening"] (spC K 2 (runC 10 m__law_some_standing)) := by
  have sc := sc__law_some_standing
  exact fn_cell F sc (by decide) (fun cdv A outer s H E hr => ((jss_cons (js_par2N (i := 5) (j := 6) rfl sc.nd (by decide) rfl rfl (je_un un_neg dNeg_ok (je_op op_pow dPow_ok je_int je_int)) rfl)
    (jss_cons (js_for (passes_of rfl) rfl (ji_seq (je_var 1)) (jg_name 2 sc.nd (.inl rfl)) (jss_cons (js_set 7 sc.nd (.inl rfl) (je_callB (call_max2 rfl) dMax2_ok (by rfl) T.b_max (by decide +kernel) (jl_cons (je_op op_sub dSub_ok (je_ix (je_var 2) je_int) (je_ix (je_var 2) je_int)) (jl_cons (je_var 6) jl_nil))))
    (jss_cons (js_set 7 sc.nd (.inl rfl) (je_op op_addD dAdd_ok (je_var 7) (je_op op_mul dMulI_ok (je_fnC' 0 G__law_take hr (by rfl) (takes_of rfl rfl rfl rfl) (jl_cons (je_op op_addD dAdd_ok (je_op op_sub dSub_ok (je_ix (je_var 2) je_int) (je_var 7)) je_int) jl_nil) (len_cons len_nil)) (je_callTy call_int1 dIntC_ok (by rfl) T.b_int PyProof.Rows.boot_int (jl_cons (je_cmp (op_eqD hr.units) dEq_ok (je_fnC' 0 G__law_take hr (by rfl) (takes_of rfl rfl rfl rfl) (jl_cons je_int jl_nil) (len_cons len_nil)) je_int (nomark _)) jl_nil)))))
    (jss_cons (js_nApp 5 (jl_cons (je_var 7) (jl_cons (je_op op_addD dAdd_ok (je_ix (je_var 2) je_int) (je_ix (je_var 2) je_int)) jl_nil)))
    (jss_one (js_set 6 sc.nd (.inl rfl) (je_op op_addD dAdd_ok (je_ix (je_var 2) je_int) (je_ix (je_var 2) je_int))))))))
    (jss_cons (js_set 3 sc.nd (.inl rfl) (je_op op_pow dPow_ok je_int je_int))
    (jss_cons (js_for (passes_of rfl) rfl (ji_range3 (by rfl) T.b_range (jl_cons (je_op op_sub dSub_ok (je_callB call_len dLen_ok (by rfl) T.b_len PySem.boot_len (jl_cons (je_var 1) jl_nil)) je_int) (jl_cons (je_un un_neg dNeg_ok je_int) (jl_cons (je_un un_neg dNeg_ok je_int) jl_nil)))) (jg_name 4 sc.nd (.inl rfl)) (jss_cons (js_set 2 sc.nd (.inl rfl) (je_ix (je_var 1) (je_var 4)))
    (jss_cons (js_set 8 sc.nd (.inl rfl) (je_callB (call_min2 rfl) dMin2_ok (by rfl) T.b_min (by decide +kernel) (jl_cons (je_op op_addD dAdd_ok (je_ix (je_var 2) je_int) (je_ix (je_var 2) je_int)) (jl_cons (je_op op_sub dSub_ok (je_var 3) (je_ix (je_var 2) je_int)) jl_nil))))
    (jss_cons (js_set 8 sc.nd (.inl rfl) (je_op op_sub dSub_ok (je_var 8) (je_op op_mul dMulI_ok (je_fnC' 0 G__law_take hr (by rfl) (takes_of rfl rfl rfl rfl) (jl_cons (je_op op_addD dAdd_ok (je_op op_sub dSub_ok (je_var 8) (je_ix (je_var 2) je_int)) je_int) jl_nil) (len_cons len_nil)) (je_callTy call_int1 dIntC_ok (by rfl) T.b_int PyProof.Rows.boot_int (jl_cons (je_cmp (op_eqD hr.units) dEq_ok (je_fnC' 0 G__law_take hr (by rfl) (takes_of rfl rfl rfl rfl) (jl_cons je_int jl_nil) (len_cons len_nil)) je_int (nomark _)) jl_nil)))))
    (jss_cons (js_nSet 5 (je_var 8) (je_var 4))
    (jss_one (js_set 3 sc.nd (.inl rfl) (je_nIx 5 (je_var 4)))))))))
    (jss_frzN 5 (jss_one (js_ret (je_callTy call_tuple_of dTupC_ok (by rfl) T.b_tuple PyProof.Rows.boot_tuple (jl_cons (je_fz (jo_comp (own := [("pair", 9)]) rfl sc.nd (ji_seq (je_var 5)) (blkOk_by (N := N__law_some_standing) (sc := defScope (topS 31)) (by decide +kernel)) (fun _ _ _ _ _ => (jg_name 9 sc.nd (.inl rfl))) (fun _ _ _ _ _ => jts_nil) (fun _ _ _ _ _ => (je_callTy call_tuple_of dTupC_ok (by rfl) T.b_tuple PyProof.Rows.boot_tuple (jl_cons (je_var 9) jl_nil))) (by decide) (tg_name 9))) jl_nil)))))))))))
abbrev N__law_is_int : List Str := ["thing", "bottom", "top"]
theorem sc__law_is_int : FnScope N__law_is_int ["thing", "bottom", "top"] (defScope (topS 25)) := ⟨rfl, rfl, rfl, by decide +kernel, rfl, by decide +kernel, by decide +kernel⟩
theorem ok__law_is_int (T : Bt K mg) {f : Addr} {fd : FuncData} (F : FnP K "_law_is_int" (topS 25) f fd) : FnOk P w K mg base (L2.CX P w) 1 f fd ["thing", "bottom", "top"] (spF K 3 (runF 3 m__law_is_int)) := by
  have sc := sc__law_is_int
  exact fn_pure F sc (by decide) (fun cdv A outer s H E hr => ((jss_one (js_ret (je_and (je_isi "int" isiOk_int (by rfl) T.b_isinstance (by rfl) T.b_int PyProof.Rows.boot_int (je_var 0)) (je_and (je_not (je_isi "bool" isiOk_bool (by rfl) T.b_isinstance (by rfl) T.b_bool PyProof.Rows.boot_bool (je_var 0))) (je_and (je_cmp op_le dCmp_ok (je_var 1) (je_var 0) (nomark _)) (je_one (je_cmp op_le dCmp_ok (je_var 0) (je_var 2) (nomark _))))))))))
abbrev N__law_are_standing : List Str := ["evening", "thing", "ready", "act", "pair"]
theorem sc__law_are_standing : FnScope N__law_are_standing ["evening", "thing"] (defScope (topS 27)) := ⟨rfl, rfl, rfl, by decide +kernel, rfl, by decide +kernel, by decide +kernel⟩
theorem ok__law_are_standing (T : Bt K mg) (G__law_is_int : Gd P w K mg base "_law_is_int" 1 (spF K 3 f__law_is_int)) {f : Addr} {fd : FuncData} (F : FnP K "_law_are_standing" (topS 27) f fd) : FnOk P w K mg base (L2.CX P w) 2 f fd ["evening", "thing"] (spF K 2 (runF 5 m__law_are_standing)) := by
  have sc := sc__law_are_standing
  exact fn_pure F sc (by decide) (fun cdv A outer s H E hr => ((jss_cons (js_if (jw_pt (jw_or (jt_not (jt_isi "tuple" isiOk_tuple (by rfl) T.b_isinstance (by rfl) T.b_tuple PyProof.Rows.boot_tuple (je_var 1))) (jw_or1 (jt_cmp (op_neD hr.units) dNe_ok (je_callB call_len dLen_ok (by rfl) T.b_len PySem.boot_len (jl_cons (je_var 1) jl_nil)) (je_callB call_len dLen_ok (by rfl) T.b_len PySem.boot_len (jl_cons (je_var 0) jl_nil)) (nomark _))))) (jss_one (js_ret je_bl)) jss_nil)
    (jss_cons (js_set 2 sc.nd (.inl rfl) (je_un un_neg dNeg_ok (je_op op_pow dPow_ok je_int je_int)))
    (jss_cons (js_for (passes_of rfl) rfl (ji_zip (by rfl) T.b_zip (jl_cons (je_var 0) (jl_cons (je_var 1) jl_nil))) (jg_tup rfl (jgs_cons (jg_name 3 sc.nd (.inl rfl)) (jgs_cons (jg_name 4 sc.nd (.inl rfl)) jgs_nil)) (gl_cons (gl_cons gl_nil))) (jss_cons (js_if (jw_pt (jw_or (jt_not (jt_isi "tuple" isiOk_tuple (by rfl) T.b_isinstance (by rfl) T.b_tuple PyProof.Rows.boot_tuple (je_var 4))) (jw_or1 (jt_cmp (op_neD hr.units) dNe_ok (je_callB call_len dLen_ok (by rfl) T.b_len PySem.boot_len (jl_cons (je_var 4) jl_nil)) je_int (nomark _))))) (jss_one (js_ret je_bl)) jss_nil)
    (jss_cons (js_if (jw_pt (jw_or (jt_not (jt_tru (je_fn' G__law_is_int hr (by rfl) (takes_of rfl rfl rfl rfl) (jl_cons (je_ix (je_var 4) je_int) (jl_cons (je_op op_sub dSub_ok (je_ix (je_var 3) je_int) (je_ix (je_var 3) je_int)) (jl_cons (je_ix (je_var 3) je_int) jl_nil))) (len_cons (len_cons (len_cons len_nil)))))) (jw_or1 (jt_not (jt_tru (je_fn' G__law_is_int hr (by rfl) (takes_of rfl rfl rfl rfl) (jl_cons (je_ix (je_var 4) je_int) (jl_cons (je_ix (je_var 3) je_int) (jl_cons (je_op op_addD dAdd_ok (je_ix (je_var 3) je_int) (je_ix (je_var 3) je_int)) jl_nil))) (len_cons (len_cons (len_cons len_nil))))))))) (jss_one (js_ret je_bl)) jss_nil)
    (jss_cons (js_if (jt_cmp op_lt dCmp_ok (je_ix (je_var 4) je_int) (je_var 2) (nomark _)) (jss_one (js_ret je_bl)) jss_nil)
    (jss_one (js_set 2 sc.nd (.inl rfl) (je_op op_addD dAdd_ok (je_ix (je_var 4) je_int) (je_ix (je_var 3) je_int))))))))
    (jss_one (js_ret je_bl)))))))
abbrev N__law_forgone : List Str := ["evening", "some", "act", "pair"]
theorem sc__law_forgone : FnScope N__law_forgone ["evening", "some"] (defScope (topS 28)) := ⟨rfl, rfl, rfl, by decide +kernel, rfl, by decide +kernel, by decide +kernel⟩
theorem ok__law_forgone (T : Bt K mg) {f : Addr} {fd : FuncData} (F : FnP K "_law_forgone" (topS 28) f fd) : FnOk P w K mg base (L2.CX P w) 1 f fd ["evening", "some"] (spF K 2 (runF 4 m__law_forgone)) := by
  have sc := sc__law_forgone
  exact fn_pure F sc (by decide) (fun cdv A outer s H E hr => ((jss_one (js_ret (je_fz (jo_comp (own := [("act", 2), ("pair", 3)]) rfl sc.nd (ji_zip (by rfl) T.b_zip (jl_cons (je_var 0) (jl_cons (je_var 1) jl_nil))) (blkOk_by (N := N__law_forgone) (sc := defScope (topS 28)) (by decide +kernel)) (fun _ _ _ _ _ => (jg_tup rfl (jgs_cons (jg_name 2 sc.nd (.inl rfl)) (jgs_cons (jg_name 3 sc.nd (.inl rfl)) jgs_nil)) (gl_cons (gl_cons gl_nil)))) (fun _ _ _ _ _ => jts_nil) (fun _ _ _ _ _ => (je_callB (call_max2 rfl) dMax2_ok (by rfl) T.b_max (by decide +kernel) (jl_cons je_int (jl_cons (je_op op_sub dSub_ok (je_ix (je_var 2) je_int) (je_op op_sub dSub_ok (je_ix (je_var 3) je_int) (je_ix (je_var 3) je_int))) jl_nil)))) (by decide) (tg_tup (tgs_cons (tg_name 2) (tgs_cons (tg_name 3) tgs_nil)))))))))
abbrev N__law_is_whole : List Str := ["evening", "thing"]
theorem sc__law_is_whole : FnScope N__law_is_whole ["evening", "thing"] (defScope (topS 29)) := ⟨rfl, rfl, rfl, by decide +kernel, rfl, by decide +kernel, by decide +kernel⟩
theorem ok__law_is_whole (T : Bt K mg) (G__law_are_standing : Gd P w K mg base "_law_are_standing" 2 (spF K 2 f__law_are_standing)) (G__law_forgone : Gd P w K mg base "_law_forgone" 1 (spF K 2 f__law_forgone)) {f : Addr} {fd : FuncData} (F : FnP K "_law_is_whole" (topS 29) f fd) : FnOk P w K mg base (L2.CX P w) 3 f fd ["evening", "thing"] (spF K 2 (runF 2 m__law_is_whole)) := by
  have sc := sc__law_is_whole
  exact fn_pure F sc (by decide) (fun cdv A outer s H E hr => ((jss_one (js_ret (je_and (je_fn' G__law_are_standing hr (by rfl) (takes_of rfl rfl rfl rfl) (jl_cons (je_var 0) (jl_cons (je_var 1) jl_nil)) (len_cons (len_cons len_nil))) (je_one (je_cmp (op_eqD hr.units) dEq_ok (je_callB (cr_sum rfl) dSum_ok (by rfl) T.b_sum (by decide +kernel) (jl_cons (je_fn' G__law_forgone (hr.mono (by decide)) (by rfl) (takes_of rfl rfl rfl rfl) (jl_cons (je_var 0) (jl_cons (je_var 1) jl_nil)) (len_cons (len_cons len_nil))) jl_nil)) je_int (nomark _))))))))
abbrev N__law_with : List Str := ["evening", "place", "at", "number", "act"]
theorem sc__law_with : FnScope N__law_with ["evening", "place", "at", "number"] (defScope (topS 30)) := ⟨rfl, rfl, rfl, by decide +kernel, rfl, by decide +kernel, by decide +kernel⟩
theorem ok__law_with (T : Bt K mg) {f : Addr} {fd : FuncData} (F : FnP K "_law_with" (topS 30) f fd) : FnOk P w K mg base (L2.CX P w) 1 f fd ["evening", "place", "at", "number"] (spF K 4 (runF 5 m__law_with)) := by
  have sc := sc__law_with
  exact fn_pure F sc (by decide) (fun cdv A outer s H E hr => ((jss_cons (js_set 4 sc.nd (.inl rfl) (je_ix (je_var 0) (je_var 1)))
    (jss_one (js_ret (je_op op_addD dAdd_ok (je_op op_addD dAdd_ok (je_sl (je_var 0) jp_none (jp_some (je_var 1))) (je_tup (jl_cons (je_op op_addD dAdd_ok (je_op op_addD dAdd_ok (je_sl (je_var 4) jp_none (jp_some (je_var 2))) (je_tup (jl_cons (je_var 3) jl_nil))) (je_sl (je_var 4) (jp_some (je_op op_addD dAdd_ok (je_var 2) je_int)) jp_none)) jl_nil))) (je_sl (je_var 0) (jp_some (je_op op_addD dAdd_ok (je_var 1) je_int)) jp_none)))))))
abbrev N__law_held_from : List Str := ["evening", "place", "moment"]
theorem sc__law_held_from : FnScope N__law_held_from ["evening", "place", "moment"] (defScope (topS 32)) := ⟨rfl, rfl, rfl, by decide +kernel, rfl, by decide +kernel, by decide +kernel⟩
theorem ok__law_held_from (T : Bt K mg) (G__law_with : Gd P w K mg base "_law_with" 1 (spF K 4 f__law_with)) {f : Addr} {fd : FuncData} (F : FnP K "_law_held_from" (topS 32) f fd) : FnOk P w K mg base (L2.CX P w) 2 f fd ["evening", "place", "moment"] (spF K 3 (runF 3 m__law_held_from)) := by
  have sc := sc__law_held_from
  exact fn_pure F sc (by decide) (fun cdv A outer s H E hr => ((jss_one (js_ret (je_fn' G__law_with hr (by rfl) (takes_of rfl rfl rfl rfl) (jl_cons (je_var 0) (jl_cons (je_var 1) (jl_cons je_int (jl_cons (je_op op_sub dSub_ok (je_ix (je_ix (je_var 0) (je_var 1)) je_int) (je_var 2)) jl_nil)))) (len_cons (len_cons (len_cons (len_cons len_nil)))))))))
abbrev N__law_held_to : List Str := ["evening", "place", "moment"]
theorem sc__law_held_to : FnScope N__law_held_to ["evening", "place", "moment"] (defScope (topS 33)) := ⟨rfl, rfl, rfl, by decide +kernel, rfl, by decide +kernel, by decide +kernel⟩
theorem ok__law_held_to (T : Bt K mg) (G__law_with : Gd P w K mg base "_law_with" 1 (spF K 4 f__law_with)) {f : Addr} {fd : FuncData} (F : FnP K "_law_held_to" (topS 33) f fd) : FnOk P w K mg base (L2.CX P w) 2 f fd ["evening", "place", "moment"] (spF K 3 (runF 3 m__law_held_to)) := by
  have sc := sc__law_held_to
  exact fn_pure F sc (by decide) (fun cdv A outer s H E hr => ((jss_one (js_ret (je_fn' G__law_with hr (by rfl) (takes_of rfl rfl rfl rfl) (jl_cons (je_var 0) (jl_cons (je_var 1) (jl_cons je_int (jl_cons (je_op op_sub dSub_ok (je_var 2) (je_ix (je_ix (je_var 0) (je_var 1)) je_int)) jl_nil)))) (len_cons (len_cons (len_cons (len_cons len_nil)))))))))
abbrev N_can_stand : List Str := ["evening"]
theorem sc_can_stand : FnScope N_can_stand ["evening"] (defScope (topS 19)) := ⟨rfl, rfl, rfl, by decide +kernel, rfl, by decide +kernel, by decide +kernel⟩
theorem ok_can_stand (T : Bt K mg) (G_need_evening : Gd P w K mg base "need_evening" 4 (spF K 1 f_need_evening)) (G_first_whole : Gd P w K mg base "first_whole" 1 (spF K 1 f_first_whole)) {f : Addr} {fd : FuncData} (F : FnP K "can_stand" (topS 19) f fd) : FnOk P w K mg base (L2.CX P w) 5 f fd ["evening"] (spF K 1 (runF 1 m_can_stand)) := by
  have sc := sc_can_stand
  exact fn_pure F sc (by decide) (fun cdv A outer s H E hr => ((jss_cons (js_expr (je_fn' G_need_evening hr (by rfl) (takes_of rfl rfl rfl rfl) (jl_cons (je_var 0) jl_nil) (len_cons len_nil)))
    (jss_one (js_ret (je_cmp op_notN dNotNone_ok (je_fn' G_first_whole (hr.mono (by decide)) (by rfl) (takes_of rfl rfl rfl rfl) (jl_cons (je_var 0) jl_nil) (len_cons len_nil)) je_non (nomark _)))))))
abbrev N_law : List Str := ["script", "k", "two", "well", "evening", "turn", "first", "last", "place", "moment", "there", "act", "some", "one", "other", "pair"]
theorem sc_law : FnScope N_law ["script"] (defScope (topS 34)) := ⟨rfl, rfl, rfl, by decide +kernel, rfl, by decide +kernel, by decide +kernel⟩
theorem ok_law (T : Bt K mg) (G__law_well : Gd P w K mg base "_law_well" 1 (spS K 2 f__law_well)) (G__law_evening : Gd P w K mg base "_law_evening" 2 (spC K 3 f__law_evening)) (G_earliest : Gd P w K mg base "earliest" 5 (spF K 1 f_earliest)) (G_latest : Gd P w K mg base "latest" 5 (spF K 1 f_latest)) (G__law_take : Gd P w K mg base "_law_take" 1 (spC K 2 f__law_take)) (G__law_held_from : Gd P w K mg base "_law_held_from" 2 (spF K 3 f__law_held_from)) (G__law_is_whole : Gd P w K mg base "_law_is_whole" 3 (spF K 2 f__law_is_whole)) (G__law_held_to : Gd P w K mg base "_law_held_to" 2 (spF K 3 f__law_held_to)) (G_can_stand : Gd P w K mg base "can_stand" 5 (spF K 1 f_can_stand)) (G__law_some_standing : Gd P w K mg base "_law_some_standing" 2 (spC K 2 f__law_some_standing)) {f : Addr} {fd : FuncData} (F : FnP K "law" (topS 34) f fd) : FnOk P w K mg base (L2.CX P w) 6 f fd ["script"] (spL K (runL 16 m_law_k12)) := by
  have sc := sc_law
  exact fn_law F sc rfl (by decide) (fun cdv A outer s H E hr => ((jss_cons (js_for (passes_of rfl) rfl (ji_range1 (by rfl) T.b_range (jl_cons (je_callB (call_max2 rfl) dMax2_ok (by rfl) T.b_max (by decide +kernel) (jl_cons je_int (jl_cons (je_callB (call_min2 rfl) dMin2_ok (by rfl) T.b_min (by decide +kernel) (jl_cons je_int (jl_cons (je_lenO 0 (by rfl) T.b_len PySem.boot_len) jl_nil))) jl_nil))) jl_nil)) (jg_name 1 sc.nd (.inl rfl)) (jss_cons (js_setO 3 sc.nd (.inl rfl) (jo_fnS' 0 G__law_well (hr.mono (by decide)) (by rfl) (takes_of rfl rfl rfl rfl) (jl_cons (je_var 1) jl_nil) (len_cons len_nil)))
    (jss_cons (js_set 4 sc.nd (.inl rfl) (je_fnC' 3 G__law_evening (hr.mono (by decide)) (by rfl) (takes_of rfl rfl rfl rfl) (jl_cons je_int (jl_cons je_int jl_nil)) (len_cons (len_cons len_nil))))
    (jss_cons (js_par2 (i := 6) (j := 7) rfl sc.nd (by decide) rfl rfl (jv_e (je_fn' G_earliest hr (by rfl) (takes_of rfl rfl rfl rfl) (jl_cons (je_var 4) jl_nil) (len_cons len_nil))) (jv_e (je_fn' G_latest hr (by rfl) (takes_of rfl rfl rfl rfl) (jl_cons (je_var 4) jl_nil) (len_cons len_nil))) rfl)
    (jss_cons (js_if (jw_pt (jw_or (jt_cmp op_isN dIsNone_ok (je_var 6) je_non (nomark _)) (jw_or1 (jt_cmp op_isN dIsNone_ok (je_var 7) je_non (nomark _))))) (jss_one js_cont) jss_nil)
    (jss_cons (js_for (passes_of rfl) rfl (ji_enumZip (by rfl) T.b_enumerate (by rfl) T.b_zip (jl_cons (je_var 6) (jl_cons (je_var 7) jl_nil))) (jg_tup rfl (jgs_cons (jg_name 8 sc.nd (.inl rfl)) (jgs_cons (jg_tup rfl (jgs_cons (jg_name 13 sc.nd (.inl rfl)) (jgs_cons (jg_name 14 sc.nd (.inl rfl)) jgs_nil)) (gl_cons (gl_cons gl_nil))) jgs_nil)) (gl_cons (gl_cons gl_nil))) (jss_cons (js_if (jw_pt (jw_or (jt_cmp op_gt dCmp_ok (je_ix (je_var 13) je_int) (je_ix (je_var 14) je_int) (nomark _)) (jw_or1 (jt_cmp op_gt dCmp_ok (je_ix (je_var 13) je_int) (je_ix (je_var 14) je_int) (nomark _))))) (jss_one (js_ret je_bl)) jss_nil)
    (jss_cons (js_set 9 sc.nd (.inl rfl) (je_op op_addD dAdd_ok (je_ix (je_var 13) je_int) (je_fnC' 3 G__law_take (hr.mono (by decide)) (by rfl) (takes_of rfl rfl rfl rfl) (jl_cons (je_op op_addD dAdd_ok (je_op op_sub dSub_ok (je_ix (je_var 14) je_int) (je_ix (je_var 13) je_int)) je_int) jl_nil) (len_cons len_nil))))
    (jss_cons (js_set 10 sc.nd (.inl rfl) (je_fn' G_earliest hr (by rfl) (takes_of rfl rfl rfl rfl) (jl_cons (je_fn' G__law_held_from (hr.mono (by decide)) (by rfl) (takes_of rfl rfl rfl rfl) (jl_cons (je_var 4) (jl_cons (je_var 8) (jl_cons (je_var 9) jl_nil))) (len_cons (len_cons (len_cons len_nil)))) jl_nil) (len_cons len_nil)))
    (jss_cons (js_if (jw_pt (jw_or (jt_not (jt_tru (je_fn' G__law_is_whole (hr.mono (by decide)) (by rfl) (takes_of rfl rfl rfl rfl) (jl_cons (je_var 4) (jl_cons (je_var 10) jl_nil)) (len_cons (len_cons len_nil))))) (jw_or1 (jt_cmp (op_neD hr.units) dNe_ok (je_ix (je_ix (je_var 10) (je_var 8)) je_int) (je_var 9) (nomark _))))) (jss_one (js_ret je_bl)) jss_nil)
    (jss_cons (js_set 9 sc.nd (.inl rfl) (je_op op_addD dAdd_ok (je_ix (je_var 13) je_int) (je_fnC' 3 G__law_take (hr.mono (by decide)) (by rfl) (takes_of rfl rfl rfl rfl) (jl_cons (je_op op_addD dAdd_ok (je_op op_sub dSub_ok (je_ix (je_var 14) je_int) (je_ix (je_var 13) je_int)) je_int) jl_nil) (len_cons len_nil))))
    (jss_cons (js_set 10 sc.nd (.inl rfl) (je_fn' G_latest hr (by rfl) (takes_of rfl rfl rfl rfl) (jl_cons (je_fn' G__law_held_to (hr.mono (by decide)) (by rfl) (takes_of rfl rfl rfl rfl) (jl_cons (je_var 4) (jl_cons (je_var 8) (jl_cons (je_var 9) jl_nil))) (len_cons (len_cons (len_cons len_nil)))) jl_nil) (len_cons len_nil)))
    (jss_cons (js_if (jw_pt (jw_or (jt_not (jt_tru (je_fn' G__law_is_whole (hr.mono (by decide)) (by rfl) (takes_of rfl rfl rfl rfl) (jl_cons (je_var 4) (jl_cons (je_var 10) jl_nil)) (len_cons (len_cons len_nil))))) (jw_or1 (jt_cmp (op_neD hr.units) dNe_ok (je_ix (je_ix (je_var 10) (je_var 8)) je_int) (je_var 9) (nomark _))))) (jss_one (js_ret je_bl)) jss_nil)
    (jss_cons (js_set 11 sc.nd (.inl rfl) (je_ix (je_var 4) (je_var 8)))
    (jss_cons (js_if (jw_pt (jw_and (jt_cmp op_lt dCmp_ok (je_ix (je_var 14) je_int) (je_ix (je_var 11) je_int) (nomark _)) (jw_and1 (jt_tru (je_fn' G_can_stand hr (by rfl) (takes_of rfl rfl rfl rfl) (jl_cons (je_fn' G__law_held_from (hr.mono (by decide)) (by rfl) (takes_of rfl rfl rfl rfl) (jl_cons (je_var 4) (jl_cons (je_var 8) (jl_cons (je_op op_addD dAdd_ok (je_ix (je_var 14) je_int) je_int) jl_nil))) (len_cons (len_cons (len_cons len_nil)))) jl_nil) (len_cons len_nil)))))) (jss_one (js_ret je_bl)) jss_nil)
    (jss_one (js_if (jw_pt (jw_and (jt_cmp op_gt dCmp_ok (je_ix (je_var 13) je_int) (je_ix (je_var 11) je_int) (nomark _)) (jw_and1 (jt_tru (je_fn' G_can_stand hr (by rfl) (takes_of rfl rfl rfl rfl) (jl_cons (je_fn' G__law_held_to (hr.mono (by decide)) (by rfl) (takes_of rfl rfl rfl rfl) (jl_cons (je_var 4) (jl_cons (je_var 8) (jl_cons (je_op op_sub dSub_ok (je_ix (je_var 13) je_int) je_int) jl_nil))) (len_cons (len_cons (len_cons len_nil)))) jl_nil) (len_cons len_nil)))))) (jss_one (js_ret je_bl)) jss_nil))))))))))))
    (jss_one (js_for (passes_of rfl) rfl (ji_range1 (by rfl) T.b_range (jl_cons je_int jl_nil)) (jg_name 5 sc.nd (.inl rfl)) (jss_cons (js_set 12 sc.nd (.inl rfl) (je_fnC' 3 G__law_some_standing (hr.mono (by decide)) (by rfl) (takes_of rfl rfl rfl rfl) (jl_cons (je_var 4) jl_nil) (len_cons len_nil)))
    (jss_one (js_if (jt_tru (je_fn' G__law_is_whole (hr.mono (by decide)) (by rfl) (takes_of rfl rfl rfl rfl) (jl_cons (je_var 4) (jl_cons (je_var 12) jl_nil)) (len_cons (len_cons len_nil)))) (jss_one (js_for (passes_of rfl) rfl (ji_zip3 (by rfl) T.b_zip (jl_cons (je_var 12) (jl_cons (je_var 6) (jl_cons (je_var 7) jl_nil)))) (jg_tup rfl (jgs_cons (jg_name 15 sc.nd (.inl rfl)) (jgs_cons (jg_name 13 sc.nd (.inl rfl)) (jgs_cons (jg_name 14 sc.nd (.inl rfl)) jgs_nil))) (gl_cons (gl_cons (gl_cons gl_nil)))) (jss_one (js_if (jw_pt (jw_or (jt_not (jt_chain op_le dCmp_ok op_le dCmp_ok (je_ix (je_var 13) je_int) (je_ix (je_var 15) je_int) (je_ix (je_var 14) je_int))) (jw_or1 (jt_not (jt_chain op_le dCmp_ok op_le dCmp_ok (je_ix (je_var 13) je_int) (je_ix (je_var 15) je_int) (je_ix (je_var 14) je_int)))))) (jss_one (js_ret je_bl)) jss_nil)))) jss_nil)))))))))))
    (jss_cons (js_set 2 sc.nd (.inl rfl) (je_tup (jl_cons (je_tup (jl_cons je_str (jl_cons je_int (jl_cons je_int (jl_cons je_int (jl_cons je_int (jl_cons je_int (jl_cons je_int jl_nil)))))))) (jl_cons (je_tup (jl_cons je_str (jl_cons je_int (jl_cons je_int (jl_cons je_int (jl_cons je_int (jl_cons je_int (jl_cons je_int jl_nil)))))))) jl_nil))))
    (jss_one (js_ret (je_and (je_cmp (op_eqD hr.units) dEq_ok (je_fn' G_earliest hr (by rfl) (takes_of rfl rfl rfl rfl) (jl_cons (je_var 2) jl_nil) (len_cons len_nil)) (je_tup (jl_cons (je_tup (jl_cons je_int (jl_cons je_int jl_nil))) (jl_cons (je_tup (jl_cons je_int (jl_cons je_int jl_nil))) jl_nil))) (nomark _)) (je_one (je_cmp (op_eqD hr.units) dEq_ok (je_fn' G_latest hr (by rfl) (takes_of rfl rfl rfl rfl) (jl_cons (je_var 2) jl_nil) (len_cons len_nil)) (je_tup (jl_cons (je_tup (jl_cons je_int (jl_cons je_int jl_nil))) (jl_cons (je_tup (jl_cons je_int (jl_cons je_int jl_nil))) jl_nil))) (nomark _))))))))))
end
end Lw

namespace Lw
open PySem PySem.Spec PyProof.Rows L2 DL
def dF (x : Str) (i : Nat) : He.DefD := ⟨(x, none), x, x, defArgs (topS i), defBody (topS i), defScope (topS i), [], []⟩
def fn0 : List He.DefD := [dF "_law_well" 23, dF "_law_take" 24, dF "_law_evening" 26, dF "follow" 13, dF "is_whole" 10, dF "is_name" 11, dF "is_act" 12, dF "is_evening" 14, dF "need_evening" 15, dF "first_whole" 17, dF "earliest" 20, dF "last_whole" 18, dF "latest" 21, dF "_law_some_standing" 31, dF "_law_is_int" 25, dF "_law_are_standing" 27, dF "_law_forgone" 28, dF "_law_is_whole" 29, dF "_law_with" 30, dF "_law_held_from" 32, dF "_law_held_to" 33, dF "can_stand" 19, dF "law" 34]
def fn : List He.DefD := fn0
def fa0 : List He.Fa := [.glo "_law_well", .glo "_law_take", .glo "_law_evening", .glo "follow", .glo "is_whole", .glo "is_name", .glo "is_act", .glo "is_evening", .glo "need_evening", .glo "first_whole", .glo "earliest", .glo "last_whole", .glo "latest", .glo "_law_some_standing", .glo "_law_is_int", .glo "_law_are_standing", .glo "_law_forgone", .glo "_law_is_whole", .glo "_law_with", .glo "_law_held_from", .glo "_law_held_to", .glo "can_stand", .glo "law", .glo "StageError", .exc "StageError", .glo "NoEvening", .exc "NoEvening", .free "all", .free "bool", .free "enumerate"]
def fa1 : List He.Fa := [.free "int", .free "isinstance", .free "len", .free "max", .free "min", .free "range", .free "set", .free "str", .free "sum", .free "tuple", .free "zip", .str "LETTERS" "abcdefghijklmnopqrstuvwxyz", .int "MOST_MOMENT" 300, .int "MOST_WANT" 200, .int "MOST_ROOM" 12, .int "MOST_CHANGE" 20, .int "MOST_ACTS" 8]
def fa : List He.Fa := fa0 ++ fa1
def loose0 : List Str := ["StageError", "NoEvening", "LETTERS", "MOST_MOMENT", "MOST_WANT", "MOST_ROOM", "MOST_CHANGE", "MOST_ACTS", "is_whole", "is_name", "is_act", "follow", "is_evening", "need_evening", "first_whole", "last_whole", "can_stand", "earliest", "latest", "_law_well", "_law_take", "_law_is_int", "_law_evening", "_law_are_standing", "_law_forgone", "_law_is_whole", "_law_with", "_law_some_standing", "_law_held_from", "_law_held_to"]
def loose : List Str := loose0
abbrev R : PySem.W.OpenRow := PySem.W.OpenLaw.row PySem.Challenge.rw_lackruns_k12_whole_all_between_earliest
abbrev hk : PySem.W.Hook := He.hookD 4 fa fn
def ob (s : PySem.W.SharedT) : He.AlD := He.obsDG 4 fa fn (HandSHeadRun.getT s)
theorem ob_eq (s : PySem.W.SharedT) : ob s = hk.obs s.abs := He.obsDG_eq (HandSHeadRun.getT_eq s)
theorem run (w : World) : HandSHeadRun.RunEq R (PySem.W.view R.prog [34]) hk ob 3000 loose w := by
  intro os
  kernel_rfl
theorem cx0_of {P : Program} {w : World} {K : PySem.W.Frag} {mg : Str → Option Value} {base : Heap} {k : Nat} {f : Addr} {fd : FuncData} {ps : List Str} {m : List Int → FR D} (F : FnOk P w K mg base (L2.CX P w) k f fd ps (spL K m)) : FnOk P w K mg base CX0 k f fd ps (spL K m) := by
  refine ⟨F.len, fun A outer s H args us vs Q E hr he hb hv hs => codeAny_mono (F.run A outer s H args us vs Q (fun _ _ _ => False) hr he hb hv hs) fun r s' h => ?_⟩
  cases r with
  | ok fl => cases fl <;> exact h
  | error e =>
    obtain ⟨_, _, _, _, _, _, _, _, _, _, _, _, z⟩ := h
    exact z
theorem facts {P : Program} {w : World} {K : PySem.W.Frag} {h : Heap} {mg : Str → Option Value} {f : Addr} (X : K.In h) (G : h.Ns mainGlobals mg) (hfa : mg ("law" : Str) = some (.ref f)) (c : He.SaysD fa fn K) :
    ∃ fd : FuncData, (∀ (s : Shared) (v : Value), BindsTo s fd ⟨[v], []⟩ [("script", v)]) ∧ ∀ base : Heap, K.In base → base.Ns mainGlobals mg → FnOk P w K mg base CX0 6 f fd ["script"] (spL K f_law_k12) := by
  have T : Bt K mg := {
    b_all := He.free_ok X G (c.fact 27 rfl),
    b_bool := He.free_ok X G (c.fact 28 rfl),
    b_enumerate := He.free_ok X G (c.fact 29 rfl),
    b_int := He.free_ok X G (c.fact 30 rfl),
    b_isinstance := He.free_ok X G (c.fact 31 rfl),
    b_len := He.free_ok X G (c.fact 32 rfl),
    b_max := He.free_ok X G (c.fact 33 rfl),
    b_min := He.free_ok X G (c.fact 34 rfl),
    b_range := He.free_ok X G (c.fact 35 rfl),
    b_set := He.free_ok X G (c.fact 36 rfl),
    b_str := He.free_ok X G (c.fact 37 rfl),
    b_sum := He.free_ok X G (c.fact 38 rfl),
    b_tuple := He.free_ok X G (c.fact 39 rfl),
    b_zip := He.free_ok X G (c.fact 40 rfl),
    c_LETTERS := He.str_ok X G (c.fact 41 rfl),
    c_MOST_MOMENT := He.int_ok X G (c.fact 42 rfl),
    c_MOST_WANT := He.int_ok X G (c.fact 43 rfl),
    c_MOST_ROOM := He.int_ok X G (c.fact 44 rfl),
    c_MOST_CHANGE := He.int_ok X G (c.fact 45 rfl),
    c_MOST_ACTS := He.int_ok X G (c.fact 46 rfl),
    x_StageError := ⟨He.glo_ok X G (c.fact 23 rfl), c.fact 24 rfl⟩,
    x_NoEvening := ⟨He.glo_ok X G (c.fact 25 rfl), c.fact 26 rfl⟩ }
  obtain ⟨fd__law_well, F__law_well⟩ := c.def_ 0 (d := dF "_law_well" 23) rfl
  obtain ⟨fd__law_take, F__law_take⟩ := c.def_ 1 (d := dF "_law_take" 24) rfl
  obtain ⟨fd__law_evening, F__law_evening⟩ := c.def_ 2 (d := dF "_law_evening" 26) rfl
  obtain ⟨fd_follow, F_follow⟩ := c.def_ 3 (d := dF "follow" 13) rfl
  obtain ⟨fd_is_whole, F_is_whole⟩ := c.def_ 4 (d := dF "is_whole" 10) rfl
  obtain ⟨fd_is_name, F_is_name⟩ := c.def_ 5 (d := dF "is_name" 11) rfl
  obtain ⟨fd_is_act, F_is_act⟩ := c.def_ 6 (d := dF "is_act" 12) rfl
  obtain ⟨fd_is_evening, F_is_evening⟩ := c.def_ 7 (d := dF "is_evening" 14) rfl
  obtain ⟨fd_need_evening, F_need_evening⟩ := c.def_ 8 (d := dF "need_evening" 15) rfl
  obtain ⟨fd_first_whole, F_first_whole⟩ := c.def_ 9 (d := dF "first_whole" 17) rfl
  obtain ⟨fd_earliest, F_earliest⟩ := c.def_ 10 (d := dF "earliest" 20) rfl
  obtain ⟨fd_last_whole, F_last_whole⟩ := c.def_ 11 (d := dF "last_whole" 18) rfl
  obtain ⟨fd_latest, F_latest⟩ := c.def_ 12 (d := dF "latest" 21) rfl
  obtain ⟨fd__law_some_standing, F__law_some_standing⟩ := c.def_ 13 (d := dF "_law_some_standing" 31) rfl
  obtain ⟨fd__law_is_int, F__law_is_int⟩ := c.def_ 14 (d := dF "_law_is_int" 25) rfl
  obtain ⟨fd__law_are_standing, F__law_are_standing⟩ := c.def_ 15 (d := dF "_law_are_standing" 27) rfl
  obtain ⟨fd__law_forgone, F__law_forgone⟩ := c.def_ 16 (d := dF "_law_forgone" 28) rfl
  obtain ⟨fd__law_is_whole, F__law_is_whole⟩ := c.def_ 17 (d := dF "_law_is_whole" 29) rfl
  obtain ⟨fd__law_with, F__law_with⟩ := c.def_ 18 (d := dF "_law_with" 30) rfl
  obtain ⟨fd__law_held_from, F__law_held_from⟩ := c.def_ 19 (d := dF "_law_held_from" 32) rfl
  obtain ⟨fd__law_held_to, F__law_held_to⟩ := c.def_ 20 (d := dF "_law_held_to" 33) rfl
  obtain ⟨fd_can_stand, F_can_stand⟩ := c.def_ 21 (d := dF "can_stand" 19) rfl
  obtain ⟨fd_law, F_law⟩ := c.def_ 22 (d := dF "law" 34) rfl
  have el := hfa.symm.trans (He.glo_ok X G (c.fact 22 (f := .glo "law") rfl))
  cases el
  have bl := FunD.bindsA (ps := ["script"]) F_law fun _ _ _ _ _ _ us hl => match us, hl with | [_], _ => rfl
  refine ⟨fd_law, fun s v => bl s [v] rfl, fun base _ _ => ?_⟩
  have G__law_well : Gd P w K mg base "_law_well" 1 (spS K 2 f__law_well) := ⟨_, fd__law_well, _, ok__law_well T F__law_well, He.glo_ok X G (c.fact 0 rfl), F__law_well.kp, F__law_well.bindsN fun _ _ _ _ _ _ us hl => match us, hl with | [_, _], _ => rfl⟩
  have G__law_take : Gd P w K mg base "_law_take" 1 (spC K 2 f__law_take) := ⟨_, fd__law_take, _, ok__law_take T F__law_take, He.glo_ok X G (c.fact 1 rfl), F__law_take.kp, F__law_take.bindsN fun _ _ _ _ _ _ us hl => match us, hl with | [_, _], _ => rfl⟩
  have G__law_evening : Gd P w K mg base "_law_evening" 2 (spC K 3 f__law_evening) := ⟨_, fd__law_evening, _, ok__law_evening T G__law_take F__law_evening, He.glo_ok X G (c.fact 2 rfl), F__law_evening.kp, F__law_evening.bindsN fun _ _ _ _ _ _ us hl => match us, hl with | [_, _, _], _ => rfl⟩
  have G_follow : Gd P w K mg base "follow" 1 (spF K 1 f_follow) := ⟨_, fd_follow, _, ok_follow T F_follow, He.glo_ok X G (c.fact 3 rfl), F_follow.kp, F_follow.bindsN fun _ _ _ _ _ _ us hl => match us, hl with | [_], _ => rfl⟩
  have G_is_whole : Gd P w K mg base "is_whole" 1 (spF K 3 f_is_whole) := ⟨_, fd_is_whole, _, ok_is_whole T F_is_whole, He.glo_ok X G (c.fact 4 rfl), F_is_whole.kp, F_is_whole.bindsN fun _ _ _ _ _ _ us hl => match us, hl with | [_, _, _], _ => rfl⟩
  have G_is_name : Gd P w K mg base "is_name" 1 (spF K 1 f_is_name) := ⟨_, fd_is_name, _, ok_is_name T F_is_name, He.glo_ok X G (c.fact 5 rfl), F_is_name.kp, F_is_name.bindsN fun _ _ _ _ _ _ us hl => match us, hl with | [_], _ => rfl⟩
  have G_is_act : Gd P w K mg base "is_act" 2 (spF K 1 f_is_act) := ⟨_, fd_is_act, _, ok_is_act T G_is_name G_is_whole F_is_act, He.glo_ok X G (c.fact 6 rfl), F_is_act.kp, F_is_act.bindsN fun _ _ _ _ _ _ us hl => match us, hl with | [_], _ => rfl⟩
  have G_is_evening : Gd P w K mg base "is_evening" 3 (spF K 1 f_is_evening) := ⟨_, fd_is_evening, _, ok_is_evening T G_is_act G_follow F_is_evening, He.glo_ok X G (c.fact 7 rfl), F_is_evening.kp, F_is_evening.bindsN fun _ _ _ _ _ _ us hl => match us, hl with | [_], _ => rfl⟩
  have G_need_evening : Gd P w K mg base "need_evening" 4 (spF K 1 f_need_evening) := ⟨_, fd_need_evening, _, ok_need_evening T G_is_evening F_need_evening, He.glo_ok X G (c.fact 8 rfl), F_need_evening.kp, F_need_evening.bindsN fun _ _ _ _ _ _ us hl => match us, hl with | [_], _ => rfl⟩
  have G_first_whole : Gd P w K mg base "first_whole" 1 (spF K 1 f_first_whole) := ⟨_, fd_first_whole, _, ok_first_whole T F_first_whole, He.glo_ok X G (c.fact 9 rfl), F_first_whole.kp, F_first_whole.bindsN fun _ _ _ _ _ _ us hl => match us, hl with | [_], _ => rfl⟩
  have G_earliest : Gd P w K mg base "earliest" 5 (spF K 1 f_earliest) := ⟨_, fd_earliest, _, ok_earliest T G_need_evening G_first_whole F_earliest, He.glo_ok X G (c.fact 10 rfl), F_earliest.kp, F_earliest.bindsN fun _ _ _ _ _ _ us hl => match us, hl with | [_], _ => rfl⟩
  have G_last_whole : Gd P w K mg base "last_whole" 1 (spF K 1 f_last_whole) := ⟨_, fd_last_whole, _, ok_last_whole T F_last_whole, He.glo_ok X G (c.fact 11 rfl), F_last_whole.kp, F_last_whole.bindsN fun _ _ _ _ _ _ us hl => match us, hl with | [_], _ => rfl⟩
  have G_latest : Gd P w K mg base "latest" 5 (spF K 1 f_latest) := ⟨_, fd_latest, _, ok_latest T G_need_evening G_last_whole F_latest, He.glo_ok X G (c.fact 12 rfl), F_latest.kp, F_latest.bindsN fun _ _ _ _ _ _ us hl => match us, hl with | [_], _ => rfl⟩
  have G__law_some_standing : Gd P w K mg base "_law_some_standing" 2 (spC K 2 f__law_some_standing) := ⟨_, fd__law_some_standing, _, ok__law_some_standing T G__law_take F__law_some_standing, He.glo_ok X G (c.fact 13 rfl), F__law_some_standing.kp, F__law_some_standing.bindsN fun _ _ _ _ _ _ us hl => match us, hl with | [_, _], _ => rfl⟩
  have G__law_is_int : Gd P w K mg base "_law_is_int" 1 (spF K 3 f__law_is_int) := ⟨_, fd__law_is_int, _, ok__law_is_int T F__law_is_int, He.glo_ok X G (c.fact 14 rfl), F__law_is_int.kp, F__law_is_int.bindsN fun _ _ _ _ _ _ us hl => match us, hl with | [_, _, _], _ => rfl⟩
  have G__law_are_standing : Gd P w K mg base "_law_are_standing" 2 (spF K 2 f__law_are_standing) := ⟨_, fd__law_are_standing, _, ok__law_are_standing T G__law_is_int F__law_are_standing, He.glo_ok X G (c.fact 15 rfl), F__law_are_standing.kp, F__law_are_standing.bindsN fun _ _ _ _ _ _ us hl => match us, hl with | [_, _], _ => rfl⟩
  have G__law_forgone : Gd P w K mg base "_law_forgone" 1 (spF K 2 f__law_forgone) := ⟨_, fd__law_forgone, _, ok__law_forgone T F__law_forgone, He.glo_ok X G (c.fact 16 rfl), F__law_forgone.kp, F__law_forgone.bindsN fun _ _ _ _ _ _ us hl => match us, hl with | [_, _], _ => rfl⟩
  have G__law_is_whole : Gd P w K mg base "_law_is_whole" 3 (spF K 2 f__law_is_whole) := ⟨_, fd__law_is_whole, _, ok__law_is_whole T G__law_are_standing G__law_forgone F__law_is_whole, He.glo_ok X G (c.fact 17 rfl), F__law_is_whole.kp, F__law_is_whole.bindsN fun _ _ _ _ _ _ us hl => match us, hl with | [_, _], _ => rfl⟩
  have G__law_with : Gd P w K mg base "_law_with" 1 (spF K 4 f__law_with) := ⟨_, fd__law_with, _, ok__law_with T F__law_with, He.glo_ok X G (c.fact 18 rfl), F__law_with.kp, F__law_with.bindsN fun _ _ _ _ _ _ us hl => match us, hl with | [_, _, _, _], _ => rfl⟩
  have G__law_held_from : Gd P w K mg base "_law_held_from" 2 (spF K 3 f__law_held_from) := ⟨_, fd__law_held_from, _, ok__law_held_from T G__law_with F__law_held_from, He.glo_ok X G (c.fact 19 rfl), F__law_held_from.kp, F__law_held_from.bindsN fun _ _ _ _ _ _ us hl => match us, hl with | [_, _, _], _ => rfl⟩
  have G__law_held_to : Gd P w K mg base "_law_held_to" 2 (spF K 3 f__law_held_to) := ⟨_, fd__law_held_to, _, ok__law_held_to T G__law_with F__law_held_to, He.glo_ok X G (c.fact 20 rfl), F__law_held_to.kp, F__law_held_to.bindsN fun _ _ _ _ _ _ us hl => match us, hl with | [_, _, _], _ => rfl⟩
  have G_can_stand : Gd P w K mg base "can_stand" 5 (spF K 1 f_can_stand) := ⟨_, fd_can_stand, _, ok_can_stand T G_need_evening G_first_whole F_can_stand, He.glo_ok X G (c.fact 21 rfl), F_can_stand.kp, F_can_stand.bindsN fun _ _ _ _ _ _ us hl => match us, hl with | [_], _ => rfl⟩
  exact cx0_of (ok_law T G__law_well G__law_evening G_earliest G_latest G__law_take G__law_held_from G__law_is_whole G__law_held_to G_can_stand G__law_some_standing F_law)
end Lw
open PySem PySem.W PySem.Calls PyProof.Rows
theorem PySem.Challenge.cw_lackruns_k12_whole_all_between_earliest_holds : PySem.Challenge.rw_lackruns_k12_whole_all_between_earliest.Holds := by
  w_on; o_law
  refine HandSHeadRun.head_any (r := OpenLaw.row PySem.Challenge.rw_lackruns_k12_whole_all_between_earliest) (q := view (OpenLaw.row PySem.Challenge.rw_lackruns_k12_whole_all_between_earliest).prog [34]) (H := Lw.hk) (ob := Lw.ob) (M := 3000) (loose := Lw.loose) (d := HandSHeadRun.topDef (OpenLaw.row PySem.Challenge.rw_lackruns_k12_whole_all_between_earliest).prog 34) (kwd := []) Lw.ob_eq
    (by kernel_rfl) (fun s => by kernel_rfl) Lw.run (by kernel_rfl) (by kernel_rfl) (by kernel_rfl) (by rfl) (by first | assumption | decide +kernel) (by decide +kernel) ⟨rfl, rfl, rfl, rfl, rfl, by decide +kernel⟩ ?hw ?hc
  case hw => w_witness2
  case hc =>
    refine L2.walk_ofE (l := PySem.Challenge.rw_lackruns_k12_whole_all_between_earliest) (n := 63) (k := 6) (x := "script") (CX := L2.CX0) rfl (by decide) (by kernel_rfl) ⟨rfl, by decide, by decide⟩ ?F (fun _ _ _ _ z => z)
    intro w mg fa h Y G hmg0
    obtain ⟨K, KX, c⟩ := Y
    have hmg : mg ("law" : PySem.Str) = some (.ref fa) := by
      have e : (HandSHeadRun.topDef (OpenLaw.row PySem.Challenge.rw_lackruns_k12_whole_all_between_earliest).prog 34).name = ("law" : PySem.Str) := by kernel_rfl
      rw [← e]
      exact hmg0
    obtain ⟨fd, hb, hF⟩ := Lw.facts (P := (PySem.Challenge.rw_lackruns_k12_whole_all_between_earliest).prog) (w := w) KX G hmg c
    exact ⟨K, fd, DL.spL K Lw.f_law_k12, KX, hb, fun H a ns hl hO hS => ⟨a, ns, rfl, hO, hS, Lw.law_ok ns, fun _ => rfl⟩, hF⟩
