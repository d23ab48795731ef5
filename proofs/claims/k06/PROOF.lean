import PyProof.Rows.All
import Wide.All
import OpenK.AllK
import Wide.FinOn
import HandS.ForMost
import HandS.Evl
import PySem.Str
import PySem.PyData
import PyProof.StrBlock
import PyProof.ReprRoads
import PyProof.StrBlockL
import PyProof.Rows.StrNews2
import HandS.Steps
import HandS.Walk
import HandS.IsInst
import PyProof.StrBlock2
import HandS.Iter
import HandS.ForExc
import HandS.Property
import HandS.ClsMeth
import HandS.Defaults
import HandS.SortKw
import HandS.Deep
import KE.SortKeyHeap
import KE.KDictSum
import HandS.FStr
import HandS.Flow
import HandS.More
import HandS.Text
import HandS.DictComp
import HandS.Zip
import HandS.Nested
import HandS.ExcInit
import HandS.ExcSuper
import HandS.TryMany
import HandS.ExcField
import HandS.ExcOwn
import KE.KExcSuper
import KE.KSuper
import PyProof.NeKinds
import OpenK.KMore
import HandS.Star
import HandS.CallLocal
import HandS.MakeKw
import KE.KEqDict
import HandS.OwnIter
import HandS.IterVal
import KE.KOpsOwn
import KE.KMethU
import KE.KCallOwn
import KE.KUnpackStar
import HandS.FStrTup
import PyProof.StrLawsTight
import PySem.Challenge.RW_foldbelow_k06_question_text
set_option Elab.async false
set_option maxRecDepth 100000
set_option maxHeartbeats 4000000
set_option linter.all false
namespace FB
open PySem L2

/-- plain data that a value stands for -/
inductive D where
  | sc (v : V)
  | tup (ds : List D)
  | lst (ds : List D)
  | dk (kvs : List (Key × D))
  | dt (kvs : List (List Key × D))
  | obj (c : Str) (fs : List (Str × D))

/-- a tuple: an object of the heap, or an empty one of the text -/
def TupAt (K : PySem.W.Frag) (H : Hp) (a : Addr) (vs : List V) : Prop := H a = some (.tup vs) ∨ (vs = [] ∧ SqT K (fun _ => none) a [])
theorem TupAt.sq {K : PySem.W.Frag} {H : Hp} {a : Addr} {vs : List V} (h : TupAt K H a vs) : SqT K H a vs := by
  rcases h with h | ⟨rfl, h⟩
  · exact .inl (.inl h)
  · rcases h with h | h
    · rcases h with h | ⟨_, h⟩ <;> cases h
    · exact .inr h
mutual
/-- the value v stands for the data d, read only; its lists, dicts and objects stand where ok -/
inductive Da (K : PySem.W.Frag) (ce : Str → Addr) (H : Hp) (ok : Addr → Prop) : V → D → Prop
  | sc (v : V) : Da K ce H ok v (.sc v)
  | tup {a : Addr} {vs : List V} {ds : List D} : TupAt K H a vs → vs.length ≤ sizeLine → DaL K ce H ok vs ds → Da K ce H ok (.ref a) (.tup ds)
  | lst {a : Addr} {vs : List V} {ds : List D} : ok a → H a = some (.lst vs) → vs.length ≤ sizeLine → DaL K ce H ok vs ds → Da K ce H ok (.ref a) (.lst ds)
  | dk {a : Addr} {kvs : List (Key × V)} {kds : List (Key × D)} : ok a → Rd H a (.dK kvs) → kvs.length ≤ sizeLine → kvs.map Prod.fst = kds.map Prod.fst → DaL K ce H ok (kvs.map Prod.snd) (kds.map Prod.snd) → Da K ce H ok (.ref a) (.dk kds)
  | dt {a : Addr} {kvs : List (List Key × V)} {kds : List (List Key × D)} : ok a → Rd H a (.dT kvs) → kvs.length ≤ sizeLine → kvs.map Prod.fst = kds.map Prod.fst → DaL K ce H ok (kvs.map Prod.snd) (kds.map Prod.snd) → Da K ce H ok (.ref a) (.dt kds)
  | obj {a dx : Addr} {c : Str} {fs : List (Str × V)} {fds : List (Str × D)} : ok a → H a = some (.ins (ce c) dx fs) → fs.length ≤ 100 → fs.map Prod.fst = fds.map Prod.fst → DaL K ce H ok (fs.map Prod.snd) (fds.map Prod.snd) → Da K ce H ok (.ref a) (.obj c fds)
inductive DaL (K : PySem.W.Frag) (ce : Str → Addr) (H : Hp) (ok : Addr → Prop) : List V → List D → Prop
  | nil : DaL K ce H ok [] []
  | cons {v : V} {vs : List V} {d : D} {ds : List D} : Da K ce H ok v d → DaL K ce H ok vs ds → DaL K ce H ok (v :: vs) (d :: ds)
end

/-- a list or an instance: never locked -/
def LI : HO → Prop
  | .lst _ => True
  | .ins _ _ _ => True
  | _ => False
/-- what is kept from H to H' where ok -/
structure Kp (ok : Addr → Prop) (H H' : Hp) : Prop where
  rd : ∀ a u, (∀ o w, u ≠ .frz o w) → ok a → Rd H a u → Rd H' a u
  ob : ∀ a o, ok a → LI o → H a = some o → H' a = some o
  tp : ∀ a xs, H a = some (.tup xs) → H' a = some (.tup xs)

section
variable {K : PySem.W.Frag} {ce : Str → Addr} {H H' : Hp} {ok ok' : Addr → Prop}
theorem Rd.live {a : Addr} {u : HO} (h : Rd H a u) : H a ≠ none := by
  rcases h with h | ⟨_, h⟩ <;> rw [h] <;> exact fun z => nomatch z
theorem TupAt.kp {a : Addr} {xs : List V} (h : TupAt K H a xs) (k : ∀ a xs, H a = some (.tup xs) → H' a = some (.tup xs)) : TupAt K H' a xs := by
  rcases h with h | h
  · exact .inl (k a xs h)
  · exact .inr h
theorem dK_nf {kvs : List (Key × V)} (o : Obj) (w : HO) : HO.dK kvs ≠ .frz o w := fun z => nomatch z
theorem dT_nf {kvs : List (List Key × V)} (o : Obj) (w : HO) : HO.dT kvs ≠ .frz o w := fun z => nomatch z
theorem Da.mono {v : V} {d : D} (h : Da K ce H ok v d) (k : Kp ok H H') (hk : ∀ a, ok a → H a ≠ none → ok' a) : Da K ce H' ok' v d :=
  Da.rec (motive_1 := fun v d _ => Da K ce H' ok' v d) (motive_2 := fun vs ds _ => DaL K ce H' ok' vs ds)
    (fun v => .sc v)
    (fun h z _ ih => .tup (TupAt.kp h k.tp) z ih)
    (fun o r z _ ih => .lst (hk _ o (by rw [r]; exact fun z => nomatch z)) (k.ob _ _ o trivial r) z ih)
    (fun o r z e _ ih => .dk (hk _ o (Rd.live r)) (k.rd _ _ dK_nf o r) z e ih)
    (fun o r z e _ ih => .dt (hk _ o (Rd.live r)) (k.rd _ _ dT_nf o r) z e ih)
    (fun o r z e _ ih => .obj (hk _ o (by rw [r]; exact fun z => nomatch z)) (k.ob _ _ o trivial r) z e ih)
    .nil (fun _ _ i1 i2 => .cons i1 i2) h
theorem DaL.mono {vs : List V} {ds : List D} (h : DaL K ce H ok vs ds) (k : Kp ok H H') (hk : ∀ a, ok a → H a ≠ none → ok' a) : DaL K ce H' ok' vs ds := by
  induction ds generalizing vs with
  | nil => cases h; exact .nil
  | cons d ds ih => cases h with | cons h1 h2 => exact .cons (h1.mono k hk) (ih h2)
theorem Kp.refl : Kp ok H H := ⟨fun _ _ _ _ h => h, fun _ _ _ _ h => h, fun _ _ h => h⟩
theorem Da.weak {v : V} {d : D} (h : Da K ce H ok v d) (hk : ∀ a, ok a → H a ≠ none → ok' a) : Da K ce H ok' v d := h.mono Kp.refl hk
theorem DaL.weak {vs : List V} {ds : List D} (h : DaL K ce H ok vs ds) (hk : ∀ a, ok a → H a ≠ none → ok' a) : DaL K ce H ok' vs ds := h.mono Kp.refl hk
theorem DaL.length {vs : List V} {ds : List D} (h : DaL K ce H ok vs ds) : vs.length = ds.length := by
  induction ds generalizing vs with
  | nil => cases h; rfl
  | cons d ds ih => cases h with | cons h1 h2 => simp [ih h2]
theorem DaL.get {vs : List V} {ds : List D} {i : Nat} {d : D} (h : DaL K ce H ok vs ds) (e : ds[i]? = some d) : ∃ v, vs[i]? = some v ∧ Da K ce H ok v d := by
  induction ds generalizing vs i with
  | nil => simp at e
  | cons d0 ds ih =>
    cases h with
    | cons h1 h2 =>
      cases i with
      | zero => simp at e; subst e; exact ⟨_, rfl, h1⟩
      | succ i => simp at e; obtain ⟨v, h3, h4⟩ := ih h2 e; exact ⟨v, by simpa using h3, h4⟩
theorem DaL.get' {vs : List V} {ds : List D} {i : Nat} {v : V} (h : DaL K ce H ok vs ds) (e : vs[i]? = some v) : ∃ d, ds[i]? = some d ∧ Da K ce H ok v d := by
  have hl := h.length
  obtain ⟨hi, _⟩ := List.getElem?_eq_some_iff.mp e
  have hd : ds[i]? = some ds[i] := by simp [← hl, hi]
  obtain ⟨v', h1, h2⟩ := h.get hd
  rw [e] at h1; cases h1
  exact ⟨_, hd, h2⟩
theorem DaL.append {vs ws : List V} {ds es : List D} (h : DaL K ce H ok vs ds) (h' : DaL K ce H ok ws es) : DaL K ce H ok (vs ++ ws) (ds ++ es) := by
  induction ds generalizing vs with
  | nil => cases h; exact h'
  | cons d ds ih => cases h with | cons h1 h2 => exact .cons h1 (ih h2)
theorem DaL.one {v : V} {d : D} (h : Da K ce H ok v d) : DaL K ce H ok [v] [d] := .cons h .nil
theorem DaL.take {vs : List V} {ds : List D} (h : DaL K ce H ok vs ds) (n : Nat) : DaL K ce H ok (vs.take n) (ds.take n) := by
  induction ds generalizing vs n with
  | nil => cases h; simp; exact .nil
  | cons d ds ih => cases h with | cons h1 h2 => cases n with
    | zero => exact .nil
    | succ n => exact .cons h1 (ih h2 n)
theorem DaL.drop {vs : List V} {ds : List D} (h : DaL K ce H ok vs ds) (n : Nat) : DaL K ce H ok (vs.drop n) (ds.drop n) := by
  induction ds generalizing vs n with
  | nil => cases h; simp; exact .nil
  | cons d ds ih => cases n with
    | zero => exact h
    | succ n => cases h with | cons h1 h2 => exact ih h2 n
theorem DaL.set {vs : List V} {ds : List D} {v : V} {d : D} (h : DaL K ce H ok vs ds) (h' : Da K ce H ok v d) (n : Nat) : DaL K ce H ok (vs.set n v) (ds.set n d) := by
  induction ds generalizing vs n with
  | nil => cases h; exact .nil
  | cons d ds ih => cases h with | cons h1 h2 => cases n with
    | zero => exact .cons h' h2
    | succ n => exact .cons h1 (ih h2 n)
theorem DaL.eraseIdx {vs : List V} {ds : List D} (h : DaL K ce H ok vs ds) (n : Nat) : DaL K ce H ok (vs.eraseIdx n) (ds.eraseIdx n) := by
  induction ds generalizing vs n with
  | nil => cases h; exact .nil
  | cons d ds ih => cases h with | cons h1 h2 => cases n with
    | zero => exact h2
    | succ n => exact .cons h1 (ih h2 n)
/-- scalars alone -/
theorem DaL.scs {vs : List V} {ws : List V} (h : DaL K ce H ok vs (ws.map D.sc)) : vs = ws := by
  induction ws generalizing vs with
  | nil => cases h; rfl
  | cons w ws ih => cases h with | cons h1 h2 => cases h1; rw [ih h2]
theorem DaL.of_scs (ws : List V) : DaL K ce H ok ws (ws.map D.sc) := by
  induction ws with
  | nil => exact .nil
  | cons w ws ih => exact .cons (.sc w) ih
end

/-! ### the state: what is known of the heap, owned or read only -/
/-- an entry: the value v stands for d; as: the addresses of the parts that are owned -/
structure Ent where
  v : V
  d : D
  as : List Addr
def adr : V → List Addr
  | .ref a => [a]
  | _ => []
/-- read only, or owned with its parts read only -/
def en (v : V) (d : D) (b : Bool) : Ent := ⟨v, d, cond b (adr v) []⟩
abbrev fz (v : V) (d : D) : Ent := en v d false
abbrev ow (a : Addr) (d : D) : Ent := en (.ref a) d true
abbrev dp (v : V) (d : D) (as : List Addr) : Ent := ⟨v, d, as⟩
def keys (E : List Ent) : List Addr := E.flatMap fun e => e.as
structure Cfg where
  K : PySem.W.Frag
  ce : Str → Addr
  Z : Addr → Prop
  H0 : Hp
  M0 : List Addr
  /-- dicts that are locked, since a loop walks them -/
  L : List (Addr × Obj × HO) := []
def okA (c : Cfg) (E : List Ent) (a : Addr) : Prop := a ∉ keys E ∧ ¬ c.Z a
mutual
/-- the value v stands for d; its parts at as are owned, the other ones read only, where ok -/
inductive Dw (K : PySem.W.Frag) (ce : Str → Addr) (H : Hp) (ok : Addr → Prop) : List Addr → V → D → Prop
  | fr {v : V} {d : D} : Da K ce H ok v d → Dw K ce H ok [] v d
  | tup {a : Addr} {as : List Addr} {vs : List V} {ds : List D} : TupAt K H a vs → vs.length ≤ sizeLine → DwL K ce H ok as vs ds → Dw K ce H ok as (.ref a) (.tup ds)
  | lst {a : Addr} {as : List Addr} {vs : List V} {ds : List D} : H a = some (.lst vs) → vs.length ≤ sizeLine → DwL K ce H ok as vs ds → Dw K ce H ok (a :: as) (.ref a) (.lst ds)
  | dk {a : Addr} {as : List Addr} {kvs : List (Key × V)} {kds : List (Key × D)} : H a = some (.dK kvs) → kvs.length ≤ sizeLine → kvs.map Prod.fst = kds.map Prod.fst → DwL K ce H ok as (kvs.map Prod.snd) (kds.map Prod.snd) → Dw K ce H ok (a :: as) (.ref a) (.dk kds)
  | dt {a : Addr} {as : List Addr} {kvs : List (List Key × V)} {kds : List (List Key × D)} : H a = some (.dT kvs) → kvs.length ≤ sizeLine → kvs.map Prod.fst = kds.map Prod.fst → DwL K ce H ok as (kvs.map Prod.snd) (kds.map Prod.snd) → Dw K ce H ok (a :: as) (.ref a) (.dt kds)
  | obj {a dx : Addr} {as : List Addr} {c : Str} {fs : List (Str × V)} {fds : List (Str × D)} : H a = some (.ins (ce c) dx fs) → fs.length ≤ 100 → fs.map Prod.fst = fds.map Prod.fst → DwL K ce H ok as (fs.map Prod.snd) (fds.map Prod.snd) → Dw K ce H ok (a :: as) (.ref a) (.obj c fds)
inductive DwL (K : PySem.W.Frag) (ce : Str → Addr) (H : Hp) (ok : Addr → Prop) : List Addr → List V → List D → Prop
  | nil : DwL K ce H ok [] [] []
  | cons {as bs : List Addr} {v : V} {vs : List V} {d : D} {ds : List D} : Dw K ce H ok as v d → DwL K ce H ok bs vs ds → DwL K ce H ok (as ++ bs) (v :: vs) (d :: ds)
end
section
variable {K : PySem.W.Frag} {ce : Str → Addr} {H H' : Hp} {ok ok' : Addr → Prop}
theorem Dw.mono {as : List Addr} {v : V} {d : D} (h : Dw K ce H ok as v d) (k : Kp ok H H') (hk : ∀ a, ok a → H a ≠ none → ok' a) (e : ∀ a ∈ as, H' a = H a) : Dw K ce H' ok' as v d :=
  Dw.rec (motive_1 := fun as v d _ => (∀ a ∈ as, H' a = H a) → Dw K ce H' ok' as v d) (motive_2 := fun as vs ds _ => (∀ a ∈ as, H' a = H a) → DwL K ce H' ok' as vs ds)
    (fun h _ => .fr (h.mono k hk))
    (fun h z _ ih e => .tup (TupAt.kp h k.tp) z (ih e))
    (fun h z _ ih e => .lst ((e _ List.mem_cons_self).trans h) z (ih fun a ha => e a (List.mem_cons_of_mem _ ha)))
    (fun h z f _ ih e => .dk ((e _ List.mem_cons_self).trans h) z f (ih fun a ha => e a (List.mem_cons_of_mem _ ha)))
    (fun h z f _ ih e => .dt ((e _ List.mem_cons_self).trans h) z f (ih fun a ha => e a (List.mem_cons_of_mem _ ha)))
    (fun h z f _ ih e => .obj ((e _ List.mem_cons_self).trans h) z f (ih fun a ha => e a (List.mem_cons_of_mem _ ha)))
    (fun _ => .nil) (fun _ _ i1 i2 e => .cons (i1 fun a ha => e a (List.mem_append_left _ ha)) (i2 fun a ha => e a (List.mem_append_right _ ha))) h e
theorem DwL.mono {as : List Addr} {vs : List V} {ds : List D} (h : DwL K ce H ok as vs ds) (k : Kp ok H H') (hk : ∀ a, ok a → H a ≠ none → ok' a) (e : ∀ a ∈ as, H' a = H a) : DwL K ce H' ok' as vs ds := by
  induction ds generalizing as vs with
  | nil => cases h; exact .nil
  | cons d ds ih => cases h with | cons h1 h2 => exact .cons (h1.mono k hk fun a ha => e a (List.mem_append_left _ ha)) (ih h2 fun a ha => e a (List.mem_append_right _ ha))
/-- nothing owned: read only -/
theorem Dw.daN {as : List Addr} {v : V} {d : D} (h : Dw K ce H ok as v d) (e : as = []) : Da K ce H ok v d :=
  Dw.rec (motive_1 := fun as v d _ => as = [] → Da K ce H ok v d) (motive_2 := fun as vs ds _ => as = [] → DaL K ce H ok vs ds)
    (fun h _ => h) (fun h z _ ih e => .tup h z (ih e)) (fun _ _ _ _ e => nomatch e) (fun _ _ _ _ _ e => nomatch e) (fun _ _ _ _ _ e => nomatch e) (fun _ _ _ _ _ e => nomatch e)
    (fun _ => .nil) (fun _ _ i1 i2 e => .cons (i1 (List.append_eq_nil_iff.mp e).1) (i2 (List.append_eq_nil_iff.mp e).2)) h e
theorem Dw.da {v : V} {d : D} (h : Dw K ce H ok [] v d) : Da K ce H ok v d := h.daN rfl
theorem DwL.daN {as : List Addr} {vs : List V} {ds : List D} (h : DwL K ce H ok as vs ds) (e : as = []) : DaL K ce H ok vs ds := by
  induction ds generalizing as vs with
  | nil => cases h; exact .nil
  | cons d ds ih => cases h with | cons h1 h2 => exact .cons (h1.daN (List.append_eq_nil_iff.mp e).1) (ih h2 (List.append_eq_nil_iff.mp e).2)
theorem DwL.da {vs : List V} {ds : List D} (h : DwL K ce H ok [] vs ds) : DaL K ce H ok vs ds := h.daN rfl
theorem DaL.dp {vs : List V} {ds : List D} (h : DaL K ce H ok vs ds) : DwL K ce H ok [] vs ds := by
  induction ds generalizing vs with
  | nil => cases h; exact .nil
  | cons d ds ih => cases h with | cons h1 h2 => exact .cons (as := []) (.fr h1) (ih h2)
theorem DwL.length {as : List Addr} {vs : List V} {ds : List D} (h : DwL K ce H ok as vs ds) : vs.length = ds.length := by
  induction ds generalizing as vs with
  | nil => cases h; rfl
  | cons d ds ih => cases h with | cons h1 h2 => simp [ih h2]
/-- what is owned is a list, a dict, an object -/
def MutO : HO → Prop
  | .lst _ => True
  | .ins _ _ _ => True
  | .dK _ => True
  | .dT _ => True
  | _ => False
theorem Dw.isMut {as : List Addr} {v : V} {d : D} (h : Dw K ce H ok as v d) : ∀ a ∈ as, ∃ o, H a = some o ∧ MutO o :=
  Dw.rec (motive_1 := fun as v d _ => ∀ a ∈ as, ∃ o, H a = some o ∧ MutO o) (motive_2 := fun as vs ds _ => ∀ a ∈ as, ∃ o, H a = some o ∧ MutO o)
    (fun _ a h => nomatch h) (fun _ _ _ ih => ih)
    (fun h _ _ ih a ha => by rcases List.mem_cons.mp ha with rfl | ha; exact ⟨_, h, trivial⟩; exact ih a ha)
    (fun h _ _ _ ih a ha => by rcases List.mem_cons.mp ha with rfl | ha; exact ⟨_, h, trivial⟩; exact ih a ha)
    (fun h _ _ _ ih a ha => by rcases List.mem_cons.mp ha with rfl | ha; exact ⟨_, h, trivial⟩; exact ih a ha)
    (fun h _ _ _ ih a ha => by rcases List.mem_cons.mp ha with rfl | ha; exact ⟨_, h, trivial⟩; exact ih a ha)
    (fun a h => nomatch h) (fun _ _ i1 i2 a ha => (List.mem_append.mp ha).elim (i1 a) (i2 a)) h
theorem MutO.notTup {a : Addr} {o : HO} (h : H a = some o) (m : MutO o) (xs : List V) : ¬ Rd H a (.tup xs) := by
  rintro (z | ⟨o', z⟩) <;> rw [h] at z <;> cases z <;> exact m
theorem Dw.live {as : List Addr} {v : V} {d : D} (h : Dw K ce H ok as v d) {a : Addr} (ha : a ∈ as) : H a ≠ none := by
  obtain ⟨o, e, _⟩ := h.isMut a ha; rw [e]; exact fun z => nomatch z
/-- all of it read only from now on -/
theorem Dw.freeze {as : List Addr} {v : V} {d : D} (h : Dw K ce H ok as v d) (hk : ∀ a, ok a → H a ≠ none → ok' a) (ha : ∀ a ∈ as, ok' a) : Da K ce H ok' v d :=
  Dw.rec (motive_1 := fun as v d _ => (∀ a ∈ as, ok' a) → Da K ce H ok' v d) (motive_2 := fun as vs ds _ => (∀ a ∈ as, ok' a) → DaL K ce H ok' vs ds)
    (fun h _ => h.weak hk) (fun h z _ ih e => .tup h z (ih e))
    (fun h z _ ih e => .lst (e _ List.mem_cons_self) h z (ih fun a q => e a (List.mem_cons_of_mem _ q)))
    (fun h z f _ ih e => .dk (e _ List.mem_cons_self) (.inl h) z f (ih fun a q => e a (List.mem_cons_of_mem _ q)))
    (fun h z f _ ih e => .dt (e _ List.mem_cons_self) (.inl h) z f (ih fun a q => e a (List.mem_cons_of_mem _ q)))
    (fun h z f _ ih e => .obj (e _ List.mem_cons_self) h z f (ih fun a q => e a (List.mem_cons_of_mem _ q)))
    (fun _ => .nil) (fun _ _ i1 i2 e => .cons (i1 fun a q => e a (List.mem_append_left _ q)) (i2 fun a q => e a (List.mem_append_right _ q))) h ha
end
/-- the object at a holds d, its parts read only -/
inductive Ow (K : PySem.W.Frag) (ce : Str → Addr) (H : Hp) (ok : Addr → Prop) : Addr → D → Prop
  | lst {a : Addr} {vs : List V} {ds : List D} : H a = some (.lst vs) → vs.length ≤ sizeLine → DaL K ce H ok vs ds → Ow K ce H ok a (.lst ds)
  | dk {a : Addr} {kvs : List (Key × V)} {kds : List (Key × D)} : H a = some (.dK kvs) → kvs.length ≤ sizeLine → kvs.map Prod.fst = kds.map Prod.fst → DaL K ce H ok (kvs.map Prod.snd) (kds.map Prod.snd) → Ow K ce H ok a (.dk kds)
  | dt {a : Addr} {kvs : List (List Key × V)} {kds : List (List Key × D)} : H a = some (.dT kvs) → kvs.length ≤ sizeLine → kvs.map Prod.fst = kds.map Prod.fst → DaL K ce H ok (kvs.map Prod.snd) (kds.map Prod.snd) → Ow K ce H ok a (.dt kds)
  | obj {a dx : Addr} {c : Str} {fs : List (Str × V)} {fds : List (Str × D)} : H a = some (.ins (ce c) dx fs) → fs.length ≤ 100 → fs.map Prod.fst = fds.map Prod.fst → DaL K ce H ok (fs.map Prod.snd) (fds.map Prod.snd) → Ow K ce H ok a (.obj c fds)
theorem Ow.dp {K ce H ok} {a : Addr} {d : D} (h : Ow K ce H ok a d) : Dw K ce H ok [a] (.ref a) d := by
  cases h with
  | lst h z l => exact .lst h z l.dp
  | dk h z e l => exact .dk h z e l.dp
  | dt h z e l => exact .dt h z e l.dp
  | obj h z e l => exact .obj h z e l.dp
theorem Dw.ow {K ce H ok} {a : Addr} {d : D} (h : Dw K ce H ok [a] (.ref a) d) : Ow K ce H ok a d := by
  have hm := h.isMut a List.mem_cons_self
  cases h with
  | tup h z l =>
    obtain ⟨o, e, m⟩ := hm
    rcases h with h | ⟨rfl, _⟩
    · exact absurd (.inl h) (MutO.notTup e m _)
    · generalize hg : [a] = as at l
      cases l
      cases hg
  | lst h z l => exact .lst h z l.da
  | dk h z e l => exact .dk h z e l.da
  | dt h z e l => exact .dt h z e l.da
  | obj h z e l => exact .obj h z e l.da
def Good (c : Cfg) (H : Hp) (ok : Addr → Prop) (e : Ent) : Prop := Dw c.K c.ce H ok e.as e.v e.d
structure S (c : Cfg) (H : Hp) (E : List Ent) : Prop where
  nd : (keys E).Nodup
  z : ∀ a ∈ keys E, ¬ c.Z a
  org : ∀ a ∈ keys E, a ∈ c.M0 ∨ c.H0 a = none
  it : ∀ e ∈ E, Good c H (okA c E) e
  zx : ∀ a, c.Z a → H a = c.H0 a
  ex : ∀ a u, a ∉ c.M0 → Rd c.H0 a u → Rd H a u
  ei : ∀ a o, a ∉ c.M0 → LI o → c.H0 a = some o → H a = some o
  tp : ∀ a xs, c.H0 a = some (.tup xs) → H a = some (.tup xs)
  lv : ∀ a, c.H0 a ≠ none → H a ≠ none
  zl : ∀ a, c.Z a → c.H0 a ≠ none
  lk : ∀ p ∈ c.L, H p.1 = some (.frz p.2.1 p.2.2)

theorem mem_keys {E : List Ent} {a : Addr} : a ∈ keys E ↔ ∃ e ∈ E, a ∈ e.as := by
  unfold keys
  rw [List.mem_flatMap]
theorem keys_cons (e : Ent) (E : List Ent) : keys (e :: E) = e.as ++ keys E := rfl
theorem keys_append (E F : List Ent) : keys (E ++ F) = keys E ++ keys F := by unfold keys; rw [List.flatMap_append]
theorem keys_ix : ∀ {E : List Ent} {i j : Nat} {a : Addr} {e e' : Ent}, (keys E).Nodup → E[i]? = some e → a ∈ e.as → E[j]? = some e' → a ∈ e'.as → i = j
  | [], i, j, a, d, d', _, h, _, _, _ => by simp at h
  | e :: E, i, j, a, d, d', hn, hi, ai, hj, aj => by
    rw [keys_cons] at hn
    have hn' := List.nodup_append.mp hn
    cases i with
    | zero =>
      simp at hi
      cases j with
      | zero => rfl
      | succ j =>
        simp at hj
        exfalso
        have h1 : a ∈ keys E := mem_keys.mpr ⟨_, List.mem_of_getElem? hj, aj⟩
        subst hi
        exact hn'.2.2 a ai a h1 rfl
    | succ i =>
      simp at hi
      cases j with
      | zero =>
        simp at hj
        exfalso
        have h1 : a ∈ keys E := mem_keys.mpr ⟨_, List.mem_of_getElem? hi, ai⟩
        subst hj
        exact hn'.2.2 a aj a h1 rfl
      | succ j =>
        simp at hj
        rw [keys_ix hn'.2.1 hi ai hj aj]

section
variable {c : Cfg} {H H' : Hp} {E E' : List Ent}
theorem Ow.live {K ce ok} {a : Addr} {d : D} (h : Ow K ce H ok a d) : H a ≠ none := h.dp.live List.mem_cons_self
theorem S.owns (s : S c H E) {a : Addr} (h : a ∈ keys E) : ∃ o, H a = some o ∧ MutO o := by
  obtain ⟨e, he, ha⟩ := mem_keys.mp h
  exact (s.it e he).isMut a ha
theorem S.key_live (s : S c H E) {a : Addr} (h : a ∈ keys E) : H a ≠ none := by
  obtain ⟨o, e, _⟩ := s.owns h; rw [e]; exact fun z => nomatch z
/-- how data is carried over a step that touches T alone -/
theorem S.tr (s : S c H E) {T : List Addr} (hT : ∀ a ∈ T, a ∈ keys E) (keep : ∀ a o, a ∉ T → H a = some o → H' a = some o) : Kp (okA c E) H H' where
  rd := fun a u _ ok r => by
    have hn : a ∉ T := fun z => ok.1 (hT a z)
    rcases r with r | ⟨o, r⟩
    · exact .inl (keep a _ hn r)
    · exact .inr ⟨o, keep a _ hn r⟩
  ob := fun a o ok _ r => keep a _ (fun z => ok.1 (hT a z)) r
  tp := fun a xs r => by
    have hn : a ∉ T := fun z => by
      obtain ⟨o, e, m⟩ := s.owns (hT a z)
      exact MutO.notTup e m xs (.inl r)
    exact keep a _ hn r
theorem S.okm (s : S c H E) (hK' : ∀ a ∈ keys E', a ∈ keys E ∨ H a = none) : ∀ a, okA c E a → H a ≠ none → okA c E' a := fun a ok l =>
  ⟨fun z => (hK' a z).elim ok.1 l, ok.2⟩
theorem Ow.mono {K ce ok ok'} {a : Addr} {d : D} (h : Ow K ce H ok a d) (k : Kp ok H H') (hk : ∀ a, ok a → H a ≠ none → ok' a) (e : H' a = H a) : Ow K ce H' ok' a d :=
  (h.dp.mono k hk fun b hb => by rw [List.mem_singleton.mp hb]; exact e).ow
/-- THE STEP -/
theorem S.go (s : S c H E) {T : List Addr} (hT : ∀ a ∈ T, a ∈ keys E) (keep : ∀ a o, a ∉ T → H a = some o → H' a = some o) (lv : ∀ a ∈ T, H' a ≠ none)
    (nd : (keys E').Nodup) (hK' : ∀ a ∈ keys E', a ∈ keys E ∨ H a = none)
    (it : ∀ e ∈ E', (e ∈ E ∧ ∀ a ∈ e.as, a ∉ T) ∨ Good c H' (okA c E') e) : S c H' E' where
  nd := nd
  z := fun a h z => by
    rcases hK' a h with q | q
    · exact s.z a q z
    · rw [s.zx a z] at q; exact s.zl a z q
  org := fun a h => by
    rcases hK' a h with q | q
    · exact s.org a q
    · right
      cases hq : c.H0 a with
      | none => rfl
      | some o => exact absurd q (s.lv a (by rw [hq]; exact fun z => nomatch z))
  it := fun e he => by
    rcases it e he with ⟨h1, h2⟩ | g
    · have g := s.it e h1
      refine g.mono (s.tr hT keep) (s.okm hK') fun a ha => ?_
      obtain ⟨o, q, _⟩ := g.isMut a ha
      rw [q]; exact keep a o (h2 a ha) q
    · exact g
  zx := fun a z => by
    have h1 := s.zx a z
    cases q : c.H0 a with
    | none => exact absurd q (s.zl a z)
    | some o =>
      rw [q] at h1
      exact keep a o (fun ht => s.z a (hT a ht) z) h1
  ex := fun a u hm r => by
    have hn : a ∉ T := fun z => by
      rcases s.org a (hT a z) with q | q
      · exact hm q
      · exact Rd.live r q
    rcases s.ex a u hm r with r | ⟨o, r⟩
    · exact .inl (keep a _ hn r)
    · exact .inr ⟨o, keep a _ hn r⟩
  ei := fun a o hm l r => by
    have hn : a ∉ T := fun z => by
      rcases s.org a (hT a z) with q | q
      · exact hm q
      · rw [r] at q; cases q
    exact keep a _ hn (s.ei a o hm l r)
  tp := fun a xs r => (s.tr hT keep).tp a xs (s.tp a xs r)
  lv := fun a h => by
    by_cases hm : a ∈ T
    · exact lv a hm
    · cases q : H a with
      | none => exact absurd q (s.lv a h)
      | some o => rw [keep a o hm q]; exact fun z => nomatch z
  zl := s.zl
  lk := fun p hp => by
    have e := s.lk p hp
    refine keep _ _ (fun ht => ?_) e
    obtain ⟨o, e2, m⟩ := s.owns (hT _ ht)
    rw [e] at e2; cases e2; exact m
theorem S.keepNew {p : Addr} {o : HO} (hp : H p = none) : ∀ a u, a ∉ ([] : List Addr) → H a = some u → upd H p o a = some u := fun a u _ h => by
  rw [upd_ne (ne_of_none h hp)]; exact h
theorem S.newOk (s : S c H E) {p : Addr} (hp : H p = none) : okA c E p :=
  ⟨fun z => s.key_live z hp, fun z => by rw [s.zx p z] at hp; exact s.zl p z hp⟩
/-- a new tuple -/
theorem S.tup (s : S c H E) {p : Addr} {vs : List V} {ds : List D} (hp : H p = none) (h : DaL c.K c.ce H (okA c E) vs ds) (hz : vs.length ≤ sizeLine) : S c (upd H p (.tup vs)) (fz (.ref p) (.tup ds) :: E) := by
  refine s.go (T := []) (fun _ z => nomatch z) (S.keepNew hp) (fun _ z => nomatch z) s.nd (fun a h => .inl h) fun e he => ?_
  rcases List.mem_cons.mp he with rfl | he
  · refine .inr (.fr ?_)
    exact Da.tup (.inl upd_same) hz (h.mono (s.tr (T := []) (fun _ z => nomatch z) (S.keepNew hp)) fun a ok _ => ok)
  · exact .inl ⟨he, fun _ _ z => nomatch z⟩
/-- a new list, read only from now on -/
theorem S.lstF (s : S c H E) {p : Addr} {vs : List V} {ds : List D} (hp : H p = none) (h : DaL c.K c.ce H (okA c E) vs ds) (hz : vs.length ≤ sizeLine) : S c (upd H p (.lst vs)) (fz (.ref p) (.lst ds) :: E) := by
  refine s.go (T := []) (fun _ z => nomatch z) (S.keepNew hp) (fun _ z => nomatch z) s.nd (fun a h => .inl h) fun e he => ?_
  rcases List.mem_cons.mp he with rfl | he
  · refine .inr (.fr ?_)
    exact Da.lst (s.newOk hp) upd_same hz (h.mono (s.tr (T := []) (fun _ z => nomatch z) (S.keepNew hp)) fun a ok _ => ok)
  · exact .inl ⟨he, fun _ _ z => nomatch z⟩
theorem S.newKey (s : S c H E) {p : Addr} {d : D} (hp : H p = none) : (keys (ow p d :: E)).Nodup ∧ ∀ a ∈ keys (ow p d :: E), a ∈ keys E ∨ H a = none := by
  rw [keys_cons]
  refine ⟨List.nodup_append.mpr ⟨by simp [en, adr], s.nd, fun a ha b hb e => ?_⟩, fun a h => ?_⟩
  · have e1 : a = p := by simpa [en, adr] using ha
    subst e1; subst e
    exact s.key_live hb hp
  · rcases List.mem_append.mp h with h | h
    · have e : a = p := by simpa [en, adr] using h
      subst e; exact .inr hp
    · exact .inl h
/-- a new object that is owned -/
theorem S.newO (s : S c H E) {p : Addr} {o : HO} {d : D} (hp : H p = none) (w : ∀ ok, (∀ a, okA c E a → H a ≠ none → ok a) → Ow c.K c.ce (upd H p o) ok p d) : S c (upd H p o) (ow p d :: E) := by
  have hk := s.newKey (d := d) hp
  refine s.go (T := []) (fun _ z => nomatch z) (S.keepNew hp) (fun _ z => nomatch z) hk.1 hk.2 fun e he => ?_
  rcases List.mem_cons.mp he with rfl | he
  · exact .inr (w _ (s.okm hk.2)).dp
  · exact .inl ⟨he, fun _ _ z => nomatch z⟩
theorem S.lstO (s : S c H E) {p : Addr} {vs : List V} {ds : List D} (hp : H p = none) (h : DaL c.K c.ce H (okA c E) vs ds) (hz : vs.length ≤ sizeLine) : S c (upd H p (.lst vs)) (ow p (.lst ds) :: E) :=
  s.newO hp fun ok hk => .lst upd_same hz (h.mono (s.tr (T := []) (fun _ z => nomatch z) (S.keepNew hp)) hk)
theorem S.own (s : S c H E) {k : Nat} {a : Addr} {d : D} (h : E[k]? = some (ow a d)) : Ow c.K c.ce H (okA c E) a d :=
  Dw.ow (s.it _ (List.mem_of_getElem? h))
theorem S.fz (s : S c H E) {k : Nat} {v : V} {d : D} (h : E[k]? = some (fz v d)) : Da c.K c.ce H (okA c E) v d :=
  Dw.da (s.it _ (List.mem_of_getElem? h))
/-- an entry of either kind -/
theorem S.enG (s : S c H E) {k : Nat} {v : V} {d : D} {b : Bool} (h : E[k]? = some (en v d b)) : (∃ a, v = .ref a ∧ Ow c.K c.ce H (okA c E) a d) ∨ Da c.K c.ce H (okA c E) v d := by
  have g : Dw c.K c.ce H (okA c E) (cond b (adr v) []) v d := s.it _ (List.mem_of_getElem? h)
  cases b with
  | false => exact .inr (Dw.da g)
  | true =>
    cases v with
    | ref a => exact .inl ⟨a, rfl, Dw.ow g⟩
    | _ => exact .inr (Dw.da g)
theorem keys_set {E : List Ent} {k : Nat} {e e' : Ent} (h : E[k]? = some e) (q : e.as = e'.as) : keys (E.set k e') = keys E := by
  induction E generalizing k with
  | nil => simp at h
  | cons e0 E ih =>
    cases k with
    | zero => simp at h; subst h; rw [List.set_cons_zero, keys_cons, keys_cons, q]
    | succ k => simp at h; rw [List.set_cons_succ, keys_cons, keys_cons, ih h]
/-- an owned object is written -/
theorem S.putD (s : S c H E) {k : Nat} {a : Addr} {e e' : Ent} {o : HO} (h : E[k]? = some e) (ha : a ∈ e.as) (q : e.as = e'.as) (w : Good c (upd H a o) (okA c E) e') : S c (upd H a o) (E.set k e') := by
  have hks := keys_set h q
  have hak : a ∈ keys E := mem_keys.mpr ⟨_, List.mem_of_getElem? h, ha⟩
  have hok : okA c (E.set k e') = okA c E := by funext b; unfold okA; rw [hks]
  refine s.go (T := [a]) (fun b z => by rw [List.mem_singleton.mp z]; exact hak) (fun b u hb e => by rw [upd_ne (by simpa using hb)]; exact e) (fun b z => by rw [List.mem_singleton.mp z, upd_same]; exact fun z => nomatch z)
    (by rw [hks]; exact s.nd) (fun b hb => .inl (by rw [hks] at hb; exact hb)) fun e2 he => ?_
  obtain ⟨j, hj⟩ := List.mem_iff_getElem?.mp he
  by_cases hjk : j = k
  · subst hjk
    have hl := (List.getElem?_eq_some_iff.mp h).1
    rw [List.getElem?_set_self hl] at hj
    cases hj
    exact .inr (by rw [hok]; exact w)
  · rw [List.getElem?_set_ne (Ne.symm hjk)] at hj
    refine .inl ⟨List.mem_of_getElem? hj, fun b hb hb2 => ?_⟩
    have e1 : b = a := by simpa using hb2
    subst e1
    exact hjk (keys_ix s.nd hj hb h ha)
theorem S.put (s : S c H E) {k : Nat} {a : Addr} {d d' : D} {o : HO} (h : E[k]? = some (ow a d)) (w : Ow c.K c.ce (upd H a o) (okA c E) a d') : S c (upd H a o) (E.set k (ow a d')) :=
  s.putD h (List.mem_cons_self : a ∈ [a]) rfl w.dp
theorem S.keepOwn {a : Addr} {o : HO} (s : S c H E) {k : Nat} {d : D} (h : E[k]? = some (ow a d)) : Kp (okA c E) H (upd H a o) :=
  s.tr (T := [a]) (fun b z => by rw [List.mem_singleton.mp z]; exact mem_keys.mpr ⟨_, List.mem_of_getElem? h, (List.mem_cons_self : a ∈ [a])⟩) (fun b u hb e => by rw [upd_ne (by simpa using hb)]; exact e)
/-- fewer entries, in another order -/
theorem S.sub (s : S c H E) (nd : (keys E').Nodup) (h : ∀ e ∈ E', e ∈ E ∨ Good c H (okA c E') e) (hk : ∀ a ∈ keys E', a ∈ keys E) : S c H E' :=
  s.go (T := []) (fun _ z => nomatch z) (fun _ _ _ h => h) (fun _ z => nomatch z) nd (fun a z => .inl (hk a z)) fun e he => (h e he).elim (fun q => .inl ⟨q, fun _ _ z => nomatch z⟩) .inr
theorem keys_pick_nodup {E : List Ent} (hn : (keys E).Nodup) : ∀ {idx : List Nat} {E' : List Ent}, idx.Nodup → idx.map (fun i => E[i]?) = E'.map some → (keys E').Nodup
  | [], E', _, h => by cases E' with | nil => exact List.nodup_nil | cons _ _ => cases h
  | i :: idx, E', hi, h => by
    cases E' with
    | nil => cases h
    | cons e E' =>
      simp only [List.map_cons, List.cons.injEq] at h
      obtain ⟨h1, h2⟩ := h
      have hi' := List.nodup_cons.mp hi
      have ih := keys_pick_nodup hn hi'.2 h2
      rw [keys_cons]
      refine List.nodup_append.mpr ⟨?_, ih, fun a ha b hb eab => ?_⟩
      · have hs : List.Sublist e.as (keys E) := by
          obtain ⟨l1, l2, hl⟩ := List.append_of_mem (List.mem_of_getElem? h1)
          rw [hl, keys_append, keys_cons]
          exact (List.sublist_append_left _ _).trans (List.sublist_append_right _ _)
        exact hs.nodup hn
      · subst eab
        obtain ⟨e2, he2, ha2⟩ := mem_keys.mp hb
        obtain ⟨j, hj⟩ := List.mem_iff_getElem?.mp he2
        have hj2 : (idx.map (fun i => E[i]?))[j]? = some (some e2) := by rw [h2, List.getElem?_map, hj]; rfl
        rw [List.getElem?_map] at hj2
        cases hx : idx[j]? with
        | none => rw [hx] at hj2; cases hj2
        | some m =>
          rw [hx] at hj2
          have hm : E[m]? = some e2 := by simpa using hj2
          have hmi : m ≠ i := fun q => hi'.1 (q ▸ List.mem_of_getElem? hx)
          exact hmi (keys_ix hn hm ha2 h1 ha)
theorem S.pick (s : S c H E) (idx : List Nat) (he : idx.map (fun i => E[i]?) = E'.map some := by rfl) (hn : idx.Nodup := by decide) : S c H E' := by
  have hm : ∀ e ∈ E', e ∈ E := fun e h => by
    obtain ⟨j, hj⟩ := List.mem_iff_getElem?.mp h
    have hj2 : (idx.map (fun i => E[i]?))[j]? = some (some e) := by rw [he, List.getElem?_map, hj]; rfl
    rw [List.getElem?_map] at hj2
    cases hx : idx[j]? with
    | none => rw [hx] at hj2; cases hj2
    | some m => rw [hx] at hj2; exact List.mem_of_getElem? (i := m) (by simpa using hj2)
  refine s.sub (keys_pick_nodup s.nd hn he) (fun e h => .inl (hm e h)) fun a h => ?_
  obtain ⟨e, h1, h2⟩ := mem_keys.mp h
  exact mem_keys.mpr ⟨e, hm e h1, h2⟩
/-- what is owned is only read from now on -/
theorem S.freezeD (s : S c H E) {v : V} {d : D} {as : List Addr} {E1 : List Ent} (he : E = dp v d as :: E1) : S c H (FB.fz v d :: E1) := by
  subst he
  have hn := s.nd
  rw [keys_cons] at hn
  have hn' := List.nodup_append.mp hn
  have hks : keys (FB.fz v d :: E1) = keys E1 := rfl
  have hok : ∀ b, okA c (dp v d as :: E1) b → H b ≠ none → okA c (FB.fz v d :: E1) b := fun b ⟨h1, h2⟩ _ => ⟨fun z => h1 (by rw [keys_cons]; exact List.mem_append_right _ z), h2⟩
  refine s.sub (by rw [hks]; exact hn'.2.1) (fun e h => ?_) fun b hb => by rw [keys_cons]; exact List.mem_append_right _ (by rw [hks] at hb; exact hb)
  rcases List.mem_cons.mp h with rfl | h
  · exact .inr (.fr ((s.it _ List.mem_cons_self).freeze hok fun a ha => ⟨fun z => hn'.2.2 a ha a z rfl, s.z a (by rw [keys_cons]; exact List.mem_append_left _ ha)⟩))
  · exact .inl (List.mem_cons_of_mem _ h)
theorem S.freeze (s : S c H E) {a : Addr} {d : D} {E1 : List Ent} (he : E = ow a d :: E1) : S c H (FB.fz (.ref a) d :: E1) := s.freezeD he
end

/-! ### a call: the callee's state over its own entries, the caller's behind it -/
/-- the callee's configuration -/
def Cfg.sub (c : Cfg) (H : Hp) (E0 E1 : List Ent) : Cfg := { K := c.K, ce := c.ce, Z := fun a => c.Z a ∨ a ∈ keys E1, H0 := H, M0 := keys E0, L := c.L }
section
variable {c : Cfg} {H H' : Hp} {E E0 E1 E0' : List Ent}
theorem S.enter (s : S c H (E0 ++ E1)) : S (c.sub H E0 E1) H E0 := by
  have hn := s.nd
  rw [keys_append] at hn
  have hn' := List.nodup_append.mp hn
  have hz : ∀ a, (c.sub H E0 E1).Z a → a ∉ keys E0 := fun a z h => by
    rcases z with z | z
    · exact s.z a (by rw [keys_append]; exact List.mem_append_left _ h) z
    · exact hn'.2.2 a h a z rfl
  have hok : ∀ a, okA c (E0 ++ E1) a → H a ≠ none → okA (c.sub H E0 E1) E0 a := fun a ⟨h1, h2⟩ _ => by
    rw [keys_append] at h1
    exact ⟨fun z => h1 (List.mem_append_left _ z), fun z => z.elim h2 fun q => h1 (List.mem_append_right _ q)⟩
  refine ⟨hn'.1, fun a h z => hz a z h, fun a h => .inl h, fun e he => ?_, fun _ _ => rfl, fun _ _ _ h => h, fun _ _ _ _ h => h, fun _ _ h => h, fun _ h => h, fun a z => ?_, s.lk⟩
  · have g := s.it e (List.mem_append_left _ he)
    exact g.mono Kp.refl hok fun _ _ => rfl
  · rcases z with z | z
    · show H a ≠ none
      rw [s.zx a z]; exact s.zl a z
    · exact s.key_live (by rw [keys_append]; exact List.mem_append_right _ z)
theorem S.leave (s : S c H (E0 ++ E1)) (s' : S (c.sub H E0 E1) H' E0') : S c H' (E0' ++ E1) := by
  have hn := s.nd
  rw [keys_append] at hn
  have hn' := List.nodup_append.mp hn
  have hd : ∀ a ∈ keys E0', a ∉ keys E1 := fun a h z => s'.z a h (.inr z)
  have h1in : ∀ a, a ∈ keys E1 → a ∈ keys (E0 ++ E1) := fun a h => by rw [keys_append]; exact List.mem_append_right _ h
  have h0in : ∀ a, a ∈ keys E0 → a ∈ keys (E0 ++ E1) := fun a h => by rw [keys_append]; exact List.mem_append_left _ h
  have hrd : ∀ a u, a ∉ keys E0 → Rd H a u → Rd H' a u := fun a u h r => s'.ex a u h r
  have hz : ∀ a, a ∈ keys E1 → H' a = H a := fun a h => s'.zx a (.inr h)
  have fresh : ∀ a, a ∈ keys E0' → a ∈ keys E0 ∨ H a = none := fun a h => s'.org a h
  have kp : Kp (okA c (E0 ++ E1)) H H' := ⟨fun a u _ ok r => hrd a u (fun z => ok.1 (h0in a z)) r, fun a o ok l r => s'.ei a o (fun z => ok.1 (h0in a z)) l r, s'.tp⟩
  have hok : ∀ a, okA c (E0 ++ E1) a → H a ≠ none → okA c (E0' ++ E1) a := fun a ⟨h1, h2⟩ l => by
    refine ⟨fun z => ?_, h2⟩
    rw [keys_append] at z
    rcases List.mem_append.mp z with z | z
    · rcases fresh a z with q | q
      · exact h1 (h0in a q)
      · exact l q
    · exact h1 (h1in a z)
  refine ⟨?_, fun a h => ?_, fun a h => ?_, fun e he => ?_, fun a z => ?_, fun a u hm r => ?_, fun a o hm l r => ?_, fun a xs r => s'.tp a xs (s.tp a xs r), fun a h => s'.lv a (s.lv a h), s.zl, s'.lk⟩
  · rw [keys_append]
    exact List.nodup_append.mpr ⟨s'.nd, hn'.2.1, fun a ha b hb e => hd a ha (e ▸ hb)⟩
  · rw [keys_append] at h
    rcases List.mem_append.mp h with h | h
    · exact fun z => s'.z a h (.inl z)
    · exact s.z a (h1in a h)
  · rw [keys_append] at h
    rcases List.mem_append.mp h with h | h
    · rcases fresh a h with q | q
      · exact s.org a (h0in a q)
      · right
        cases hq : c.H0 a with
        | none => rfl
        | some o => exact absurd q (s.lv a (by rw [hq]; exact fun z => nomatch z))
    · exact s.org a (h1in a h)
  · rcases List.mem_append.mp he with he | he
    · have g := s'.it e he
      have hk2 : ∀ a, okA (c.sub H E0 E1) E0' a → H' a ≠ none → okA c (E0' ++ E1) a := fun a ⟨h1, h2⟩ _ => by
        refine ⟨fun z => ?_, fun z => h2 (.inl z)⟩
        rw [keys_append] at z
        rcases List.mem_append.mp z with z | z
        · exact h1 z
        · exact h2 (.inr z)
      exact g.mono Kp.refl hk2 fun _ _ => rfl
    · have g := s.it e (List.mem_append_right _ he)
      exact g.mono kp hok fun a ha => hz a (mem_keys.mpr ⟨e, he, ha⟩)
  · have h1 := s.zx a z
    rw [← h1]
    exact s'.zx a (.inl z)
  · have r1 := s.ex a u hm r
    by_cases h0 : a ∈ keys E0
    · rcases s.org a (h0in a h0) with q | q
      · exact absurd q hm
      · exact absurd q (Rd.live r)
    · exact hrd a u h0 r1
  · have r1 := s.ei a o hm l r
    by_cases h0 : a ∈ keys E0
    · rcases s.org a (h0in a h0) with q | q
      · exact absurd q hm
      · rw [r] at q; cases q
    · exact s'.ei a o h0 l r1
end
end FB

/-! the mirror's own words: plain Lean, no machine in sight -/
namespace FB
open PySem

/-- how a loop's body or a branch ends -/
inductive Fl (ρ σ : Type) where
  | go (s : σ) | brk (s : σ) | ret (r : ρ)
/-- a loop whose body neither leaves nor breaks -/
def foldO {α σ : Type} : List α → σ → (α → σ → Option σ) → Option σ
  | [], s, _ => some s
  | x :: xs, s, f => Option.bind (f x s) fun s => foldO xs s f
/-- a loop that may break or leave -/
def loopO {α ρ σ : Type} : List α → σ → (α → σ → Option (Fl ρ σ)) → Option (Fl ρ σ)
  | [], s, _ => some (.go s)
  | x :: xs, s, f => Option.bind (f x s) fun r => match r with
    | .go s => loopO xs s f
    | .brk s => some (.brk s)
    | .ret v => some (.ret v)
/-- a comprehension: each item gives none (left out) or a new item -/
def compO {α β : Type} : List α → (α → Option (Option β)) → Option (List β)
  | [], _ => some []
  | x :: xs, f => Option.bind (f x) fun o => Option.bind (compO xs f) fun r => some (match o with | some y => y :: r | none => r)
/-- the largest size of a list or a text -/
def LINE : Nat := 16777216
def addS (a b : Str) : Option Str := if a.length + b.length ≤ LINE then some (a ++ b) else none
def mulS (a : Str) (k : Int) : Option Str := if a.length * k.toNat ≤ LINE ∧ -(2 ^ 63) ≤ k ∧ k < 2 ^ 63 then some ⟨(List.replicate k.toNat a.cps.toList).flatten.toArray⟩ else none
def catL {α : Type} (a b : List α) : Option (List α) := if a.length + b.length ≤ LINE then some (a ++ b) else none
def pushL {α : Type} (a : List α) (x : α) : Option (List α) := if a.length < LINE then some (a ++ [x]) else none
def mulL {α : Type} (a : List α) (k : Int) : Option (List α) := if a.length * k.toNat ≤ LINE ∧ -(2 ^ 63) ≤ k ∧ k < 2 ^ 63 then some (List.replicate k.toNat a).flatten else none
/-- the place that a Python index names -/
def ixI (n : Nat) (i : Int) : Option Nat := if 0 ≤ i then (if i < n then some i.toNat else none) else if -(n : Int) ≤ i then some (i + n).toNat else none
def getI {α : Type} (xs : List α) (i : Int) : Option α := (ixI xs.length i).bind fun j => xs[j]?
def setI {α : Type} (xs : List α) (i : Int) (v : α) : Option (List α) := (ixI xs.length i).bind fun j => some (xs.set j v)
def popI {α : Type} (xs : List α) (i : Int) : Option (α × List α) := (ixI xs.length i).bind fun j => (xs[j]?).bind fun v => some (v, xs.eraseIdx j)
def getS (s : Str) (i : Int) : Option Str := if s.length ≤ LINE then (getI s.cps.toList i).bind fun c => some ⟨#[c]⟩ else none
def lenS (s : Str) : Option Int := if s.length ≤ LINE then some (s.length : Int) else none
/-- one sign in a text -/
def inS (c : Str) (z : Str) : Option Bool := if c.length = 1 then some (decide (c.cps.getD 0 0 ∈ z.cps.toList)) else none
def modI (a b : Int) : Option Int := if 0 < b then some (a % b) else none
def fdivI (a b : Int) : Option Int := if 0 < b ∧ b < 1073741824 then some (a / b) else none
def mulI (a b : Int) : Option Int := if (-(2 ^ 64) < a ∧ a < 2 ^ 64) ∨ (-(2 ^ 64) < b ∧ b < 2 ^ 64) then some (a * b) else none
def rangeI (a b : Int) : List Int := (List.range (b - a).toNat).map fun (i : Nat) => a + (i : Int)
/-- range's ends lie within a line of the machine -/
def rngO (a b : Int) : Option (List Int) := if -(2 ^ 62) ≤ a ∧ a < 2 ^ 62 ∧ -(2 ^ 62) ≤ b ∧ b < 2 ^ 62 ∧ (b - a).toNat ≤ LINE then some (rangeI a b) else none
def absI (i : Int) : Int := if i < 0 then -i else i
def signs (s : Str) : List Str := s.cps.toList.map fun c => ⟨#[c]⟩
def sixI (n d : Nat) : Option Int → Nat
  | none => d
  | some j => if j < 0 then (j + (n : Int)).toNat else min j.toNat n
def cutL {α : Type} (xs : List α) (lo hi : Option Int) : List α := (xs.drop (sixI xs.length 0 lo)).take (sixI xs.length xs.length hi - sixI xs.length 0 lo)
def cutS (s : Str) (lo hi : Option Int) : Str := ⟨(cutL s.cps.toList lo hi).toArray⟩
def cutSO (s : Str) (lo hi : Option Int) : Option Str := if s.length ≤ LINE then some (cutS s lo hi) else none
def signsO (s : Str) : Option (List Str) := if s.length ≤ LINE then some (signs s) else none
end FB

/-! the mirror's words for texts, data shown, sorts, dicts -/
namespace FB
open PySem

/-- a tuple of three -/
structure T3 (α β γ : Type) where
  a : α
  b : β
  c : γ
  deriving DecidableEq
/-- a tuple of any length, its items of one kind -/
structure Tp (α : Type) where
  l : List α
  deriving DecidableEq
/-- a written list of two unlike items -/
structure L2' (α β : Type) where
  a : α
  b : β
def upperO (s : Str) : Option Str := if s.length ≤ 5592405 then some (Txt.upper s) else none
def strI (i : Int) : Option Str := if i.natAbs.log2 < 1920 then some (toString i) else none

/-- data as Python's plain data -/
class Pd (α : Type) where
  pd : α → PyData
  dp : Nat
abbrev pd {α : Type} [Pd α] (x : α) : PyData := Pd.pd x
instance : Pd Int := ⟨.int, 0⟩
instance : Pd Str := ⟨.str, 0⟩
instance : Pd Bool := ⟨.bool, 0⟩
instance : Pd Unit := ⟨fun _ => .none, 0⟩
instance {α : Type} [Pd α] : Pd (List α) := ⟨fun xs => .list (xs.map pd), Pd.dp α + 1⟩
instance {α : Type} [Pd α] : Pd (Tp α) := ⟨fun xs => .tuple (xs.l.map pd), Pd.dp α + 1⟩
instance {α β : Type} [Pd α] [Pd β] : Pd (α × β) := ⟨fun p => .tuple [pd p.1, pd p.2], max (Pd.dp α) (Pd.dp β) + 1⟩
instance {α β γ : Type} [Pd α] [Pd β] [Pd γ] : Pd (T3 α β γ) := ⟨fun p => .tuple [pd p.a, pd p.b, pd p.c], max (max (Pd.dp α) (Pd.dp β)) (Pd.dp γ) + 1⟩
/-- str(x) -/
class Sk (α : Type) where
  sk : α → Str
abbrev sk {α : Type} [Sk α] (x : α) : Str := Sk.sk x
instance : Sk Str := ⟨id⟩
instance {α β γ : Type} [Pd α] [Pd β] [Pd γ] : Sk (T3 α β γ) := ⟨fun t => (pd t).shown⟩
instance {α β : Type} [Pd α] [Pd β] : Sk (α × β) := ⟨fun t => (pd t).shown⟩
instance {α : Type} [Pd α] : Sk (Tp α) := ⟨fun t => (pd t).shown⟩
def leK {α : Type} [Sk α] (a b : α) : Bool := !decide ((sk b).cps.toList < (sk a).cps.toList)
/-- sorted(xs, key=str) -/
def sortO {α : Type} [Sk α] (xs : List α) : Option (List α) := if xs.all fun x => decide ((sk x).length ≤ LINE) then some (xs.mergeSort leK) else none

/-- room for one more -/
def capL {α : Type} (xs : List α) : Option Unit := if xs.length < LINE then some () else none
/-- a dict's entries in their order -/
def hasE {κ ν : Type} [DecidableEq κ] (l : List (κ × ν)) (k : κ) : Bool := l.any fun p => decide (p.1 = k)
def getE {κ ν : Type} [DecidableEq κ] (l : List (κ × ν)) (k : κ) : Option ν := (l.find? fun p => decide (p.1 = k)).map Prod.snd
def setE {κ ν : Type} [DecidableEq κ] (l : List (κ × ν)) (k : κ) (v : ν) : List (κ × ν) := if hasE l k then l.map fun p => if p.1 = k then (p.1, v) else p else l ++ [(k, v)]
/-- a dict whose keys are ints or texts -/
structure Dk (κ ν : Type) where
  l : List (κ × ν)
/-- a dict whose keys are tuples of these -/
structure Dt (κ ν : Type) where
  l : List (κ × ν)
def putE {κ ν : Type} [DecidableEq κ] (l : List (κ × ν)) (k : κ) (v : ν) : Option (List (κ × ν)) := if l.length < LINE then some (setE l k v) else none
/-- how a loop's turn goes on: on, out by a break, out by a return -/
inductive Lp (ρ β σ : Type) where
  | go (s : σ) | brk (b : β) | ret (r : ρ)
/-- a loop that may break or leave -/
def loopB {α ρ β σ : Type} : List α → σ → (α → σ → Option (Lp ρ β σ)) → Option (Lp ρ β σ)
  | [], s, _ => some (.go s)
  | x :: xs, s, f => Option.bind (f x s) fun r => match r with
    | .go s => loopB xs s f
    | .brk b => some (.brk b)
    | .ret v => some (.ret v)
/-- a while of at most so many turns -/
def whileB {ρ β σ : Type} : Nat → σ → (σ → Option (Lp ρ β σ)) → Option (Lp ρ β σ)
  | 0, _, _ => none
  | n + 1, s, f => Option.bind (f s) fun r => match r with
    | .go s => whileB n s f
    | .brk b => some (.brk b)
    | .ret v => some (.ret v)
/-- the turns that a while may take, the depth that a recursion may have -/
def FUEL : Nat := 100
/-- what a statement hands on -/
inductive Fo (ρ β : Type) where
  | go (s : β) | ret (r : ρ)
/-- an exception that left, or a value -/
inductive Rs (ε α : Type) where
  | ok (a : α) | ex (e : ε)
/-- a call that must not raise -/
def okO {ε α : Type} : Option (Rs ε α) → Option α
  | some (.ok a) => some a
  | _ => none
def popL {α : Type} (xs : List α) : Option (α × List α) := match xs.getLast? with
  | some x => some (x, xs.dropLast)
  | none => none
/-- xs.index(x) -/
def indexL {α : Type} [DecidableEq α] (xs : List α) (x : α) : Option Int := match xs.findIdx? fun y => decide (y = x) with
  | some i => some (i : Int)
  | none => none
def b2I (b : Bool) : Int := if b = true then 1 else 0
def dropE {κ ν : Type} [DecidableEq κ] (l : List (κ × ν)) (k : κ) : List (κ × ν) := l.filter fun p => !decide (p.1 = k)
/-- the entries of the second one put into the first one -/
def mergeE {κ ν : Type} [DecidableEq κ] (a b : List (κ × ν)) : List (κ × ν) := b.foldl (fun l p => setE l p.1 p.2) a
def mergeO {κ ν : Type} [DecidableEq κ] (a b : List (κ × ν)) : Option (List (κ × ν)) := if a.length + b.length ≤ LINE then some (mergeE a b) else none
/-- a comprehension into a dict -/
def dcompO {α κ ν : Type} [DecidableEq κ] : List α → List (κ × ν) → (α → Option (Option (κ × ν))) → Option (List (κ × ν))
  | [], acc, _ => some acc
  | x :: xs, acc, f => Option.bind (f x) fun o => dcompO xs (match o with | some (k, v) => setE acc k v | none => acc) f
/-- the first entry of this key is changed -/
def updE {κ ν : Type} [DecidableEq κ] : List (κ × ν) → κ → ν → List (κ × ν)
  | [], _, _ => []
  | p :: r, k, v => if p.1 = k then (p.1, v) :: r else p :: updE r k v
/-- an entry of a new key -/
def newE {κ ν : Type} [DecidableEq κ] (l : List (κ × ν)) (k : κ) (v : ν) : Option (List (κ × ν)) := if l.length < LINE ∧ hasE l k = false then some (l ++ [(k, v)]) else none
def fitL {α : Type} (xs : List α) : Option Unit := if xs.length ≤ LINE then some () else none
def joinO (s : Str) (xs : List Str) : Option Str := if (xs.map (·.length)).sum + xs.length * s.length ≤ LINE then some (Txt.join s xs) else none
def splitO (s t : Str) : Option (List Str) := if s.length + 2 ≤ LINE ∧ t.length ≠ 0 then some (Txt.split s t) else none
def partO (s t : Str) : Option (T3 Str Str Str) := if s.length ≤ LINE ∧ t.length ≠ 0 then some ⟨(Txt.partition s t).1, (Txt.partition s t).2.1, (Txt.partition s t).2.2⟩ else none
/-- tuple(xs) of a list of three, of two -/
def toT3 {α : Type} : List α → Option (T3 α α α)
  | [a, b, c] => some ⟨a, b, c⟩
  | _ => none
def toT2 {α : Type} : List α → Option (α × α)
  | [a, b] => some (a, b)
  | _ => none
def ltS (a b : Str) : Bool := decide (a.cps.toList < b.cps.toList)
/-- two dicts are equal: as many keys, and each key's value -/
def dkE {κ ν : Type} [DecidableEq κ] [DecidableEq ν] (l m : List (κ × ν)) : Bool := (l.length == m.length) && l.all fun p => decide (getE m p.1 = some p.2)
/-- xs.insert(i, y), i not below 0 -/
def insL {α : Type} (xs : List α) (i : Int) (y : α) : Option (List α) := if 0 ≤ i ∧ i < 1000 ∧ xs.length ≤ LINE then some (xs.take i.toNat ++ [y] ++ xs.drop i.toNat) else none
/-- xs * k -/
def repL {α : Type} (xs : List α) (k : Int) : Option (List α) := if 0 ≤ k ∧ k ≤ 1000 ∧ xs.length ≤ 1000 then some (List.replicate k.toNat xs).flatten else none
/-- xs and the last one -/
def starL {α : Type} (l : List α) : Option (List α × α) := match l.getLast? with
  | none => none
  | some x => if l.length ≤ 16384 then some (l.dropLast, x) else none
end FB

namespace FB
open PySem L2

/-! ### data of Lean's types -/
class TD (α : Type) where
  td : α → D
abbrev td {α : Type} [TD α] (x : α) : D := TD.td x
class Sc (α : Type) extends TD α where
  sv : α → V
  sc : ∀ x : α, TD.td x = .sc (sv x)
instance : Sc Int := { td := fun i => .sc (.int i), sv := .int, sc := fun _ => rfl }
instance : Sc Str := { td := fun i => .sc (.str i), sv := .str, sc := fun _ => rfl }
instance : Sc Bool := { td := fun i => .sc (.bl i), sv := .bl, sc := fun _ => rfl }
instance : Sc Unit := { td := fun _ => .sc .non, sv := fun _ => .non, sc := fun _ => rfl }
instance {α : Type} [TD α] : TD (List α) := ⟨fun xs => .lst (xs.map td)⟩
instance {α β : Type} [TD α] [TD β] : TD (α × β) := ⟨fun p => .tup [td p.1, td p.2]⟩
instance {α β γ : Type} [TD α] [TD β] [TD γ] : TD (T3 α β γ) := ⟨fun p => .tup [td p.a, td p.b, td p.c]⟩
instance {α : Type} [TD α] : TD (Tp α) := ⟨fun p => .tup (p.l.map td)⟩
instance {α β : Type} [TD α] [TD β] : TD (L2' α β) := ⟨fun p => .lst [td p.a, td p.b]⟩

/-! ### the ends of hypotheses about the mirror -/
theorem bnd {α β : Type} {m : Option α} {f : α → Option β} {r : β} (h : Option.bind m f = some r) : ∃ a, m = some a ∧ f a = some r := by
  cases m with
  | none => cases h
  | some a => exact ⟨a, rfl, h⟩
theorem ifT {α : Type} {b : Bool} {x y r : α} (hb : b = true) (h : (if b = true then x else y) = r) : x = r := by rw [if_pos hb] at h; exact h
theorem ifF {α : Type} {b : Bool} {x y r : α} (hb : b = false) (h : (if b = true then x else y) = r) : y = r := by
  rw [if_neg (by rw [hb]; exact Bool.false_ne_true)] at h; exact h
theorem som {α : Type} {x y : α} (h : some x = some y) : x = y := Option.some.inj h

/-! ### continuations that keep their names -/
def BQ (QB : Bool → Hp → Prop) : VK := fun x H' => ∃ k, x = .bl k ∧ QB k H'
def IfQ (A B : Hp → Prop) : Bool → Hp → Prop := fun b H1 => if b = true then A H1 else B H1
def NewT (Q : VK) : List V → Hp → Prop := fun xs H1 => xs.length ≤ sizeLine ∧ ∀ p, H1 p = none → Q (.ref p) (upd H1 p (.tup xs))
def NewL (Q : VK) : List V → Hp → Prop := fun xs H1 => xs.length ≤ sizeLine ∧ ∀ p, H1 p = none → Q (.ref p) (upd H1 p (.lst xs))
def PartQ (Q : Option Int → Hp → Prop) : VK := fun x H1 => ∃ i, x = .int i ∧ Q (some i) H1
/-! ### statements -/
section
variable {t u : TS} {nx bk ct : St → Hp → Prop} {rt : VK} {σ σ' : St} {H : Hp} {te ta tb : TE} {c : TT} {i : Nat} {v : V} {Q : VK} {QB : Bool → Hp → Prop} {b : Bool} {A B : Prop}
theorem w_seq (σ' : St) (hσ : σ = σ') (h : t ⟨u ⟨nx, rt, bk, ct⟩, rt, bk, ct⟩ σ' H) : tSeq t u ⟨nx, rt, bk, ct⟩ σ H := by subst hσ; exact h
theorem w_at (σ' : St) (hσ : σ = σ') (h : t ⟨nx, rt, bk, ct⟩ σ' H) : t ⟨nx, rt, bk, ct⟩ σ H := by subst hσ; exact h
theorem w_cut (σ' : St) (hσ : σ = σ') (Mid : St → Hp → Prop) (h : t ⟨Mid, rt, bk, ct⟩ σ' H) (k : ∀ σ1 H1, Mid σ1 H1 → u ⟨nx, rt, bk, ct⟩ σ1 H1) : Evl.tCut t u ⟨nx, rt, bk, ct⟩ σ H := by subst hσ; exact ⟨Mid, h, k⟩
theorem w_set (h : te σ H (fun x H1 => nx (σ.set i (some x)) H1)) : tAsg te (gName i) ⟨nx, rt, bk, ct⟩ σ H := h
theorem w_drop (h : te σ H (fun _ H1 => nx σ H1)) : tDrop te ⟨nx, rt, bk, ct⟩ σ H := h
theorem w_ret (h : te σ H rt) : tRet te ⟨nx, rt, bk, ct⟩ σ H := h
theorem w_retN (h : rt .non H) : tRetN ⟨nx, rt, bk, ct⟩ σ H := h
theorem w_if (h : c σ H (IfQ (fun H1 => t ⟨nx, rt, bk, ct⟩ σ H1) fun H1 => u ⟨nx, rt, bk, ct⟩ σ H1)) : tIfS c t u ⟨nx, rt, bk, ct⟩ σ H := h
theorem w_next (h : nx σ H) : tNext ⟨nx, rt, bk, ct⟩ σ H := h
theorem w_brk (h : bk σ H) : tBreak ⟨nx, rt, bk, ct⟩ σ H := h
theorem w_ct (h : ct σ H) : tCont ⟨nx, rt, bk, ct⟩ σ H := h
theorem w_ite {A B : Hp → Prop} (h1 : b = true → A H) (h2 : b = false → B H) : IfQ A B b H := by
  unfold IfQ
  cases b with
  | true => rw [if_pos rfl]; exact h1 rfl
  | false => rw [if_neg Bool.false_ne_true]; exact h2 rfl
theorem w_var (h : σ[i]? = some (some v)) (q : Q v H) : tVar i σ H Q := ⟨v, h, q⟩
theorem w_c (q : Q v H) : tC v σ H Q := q
theorem w_op {r : R2} (h : ta σ H fun x H1 => tb σ H1 fun y H2 => r x y H2 Q) : tOp r ta tb σ H Q := h
theorem w_un {r : V → Hp → VK → Prop} (h : ta σ H fun x H1 => r x H1 Q) : tUn r ta σ H Q := h
theorem w_test (h : te σ H (BQ QB)) : tTest te σ H QB := h
theorem w_B (h : te σ H (BQ QB)) : tB te σ H QB := h
theorem w_bl (h : QB b H) : BQ QB (.bl b) H := ⟨b, rfl, h⟩
theorem w_not (h : c σ H fun b H1 => QB (!b) H1) : tNot c σ H QB := h
theorem w_notV (h : te σ H (BQ fun b H1 => Q (.bl (!b)) H1)) : tNotV te σ H Q := h
theorem w_and {c d : TT} (h : c σ H (IfQ (fun H1 => d σ H1 QB) fun H1 => QB false H1)) : tAnd c d σ H QB := h
theorem w_or {c d : TT} (h : c σ H (IfQ (fun H1 => QB true H1) fun H1 => d σ H1 QB)) : tOr c d σ H QB := h
theorem w_andV (h : ta σ H (BQ (IfQ (fun H1 => tb σ H1 Q) fun H1 => Q (.bl false) H1))) : tAndV ta tb σ H Q := h
theorem w_orV (h : ta σ H (BQ (IfQ (fun H1 => Q (.bl true) H1) fun H1 => tb σ H1 Q))) : tOrV ta tb σ H Q := h
theorem w_ifx {c : TT} (h : c σ H (IfQ (fun H1 => ta σ H1 Q) fun H1 => tb σ H1 Q)) : tIf c ta tb σ H Q := h
theorem w_name {Q : St → Hp → Prop} (h : Q (σ.set i (some v)) H) : gName i v σ H Q := h
theorem w_nil {Q : List V → Hp → Prop} (h : Q [] H) : tNil σ H Q := h
theorem w_cons {ta : TE} {tr : TA} {Q : List V → Hp → Prop} (h : ta σ H fun x H1 => tr σ H1 fun xs H2 => Q (x :: xs) H2) : tCons ta tr σ H Q := h
theorem w_chain {r r' : R2} {tc : TE} (h : ta σ H fun x H1 => tb σ H1 fun y H2 => r x y H2 (BQ (IfQ (fun H3 => tc σ H3 fun w' H4 => r' y w' H4 Q) fun H3 => Q (.bl false) H3))) : tChain r r' ta tb tc σ H Q := h
theorem w_yes (h : QB true H) : tYes σ H QB := h
theorem w_tt {A B : Hp → Prop} (h : A H) : IfQ A B true H := by unfold IfQ; rw [if_pos rfl]; exact h
theorem w_cb {r : List V → Hp → VK → Prop} {t : TA} (h : t σ H fun vs H1 => r vs H1 Q) : tCB r t σ H Q := h
theorem w_bm {K : PySem.W.Frag} {T : String} {r : V → List V → Hp → VK → Prop} {to : TE} {t : TA} (h : to σ H fun x H1 => tyV K T x H1 ∧ t σ H1 fun xs H2 => r x xs H2 Q) : tBM K T r to t σ H Q := h
theorem w_bm0 {K : PySem.W.Frag} {T : String} {r : V → List V → Hp → VK → Prop} {to : TE} (h : to σ H fun x H1 => tyV K T x H1 ∧ r x [] H1 Q) : tBM0 K T r to σ H Q := h
theorem w_call {sp : Sp} {dvs : List V} {E : XK} {t : TA} (h : t σ H fun vs H1 => sp (vs ++ dvs) H1 Q E) : tCall sp dvs E t σ H Q := h
theorem w_tup {t : TA} (h : t σ H (NewT Q)) : tTup t σ H Q := h
theorem w_lst {t : TA} (h : t σ H (NewL Q)) : tLst t σ H Q := h
theorem w_sl {r : V → Option Int → Option Int → Hp → VK → Prop} {tl th : TO} (h : te σ H fun x H1 => tl σ H1 fun l H2 => th σ H2 fun u H3 => r x l u H3 Q) : tSl r te tl th σ H Q := h
theorem w_noPart {Q : Option Int → Hp → Prop} (h : Q none H) : tNoPart σ H Q := h
theorem w_part {Q : Option Int → Hp → Prop} (h : te σ H (PartQ Q)) : tPart te σ H Q := h
theorem w_int {i : Int} {Q : Option Int → Hp → Prop} (h : Q (some i) H) : PartQ Q (.int i) H := ⟨i, rfl, h⟩
theorem w_asgS {to ti : TE} {ts : TSet} (h : te σ H fun v H0 => to σ H0 fun o H1 => ti σ H1 fun i H2 => ts o i v H2 fun H3 => nx σ H3) : tAsg te (gSub to ti ts) ⟨nx, rt, bk, ct⟩ σ H := h
/-- a piece of a test, of an expression, whose ways meet: shown once for every continuation -/
theorem cutT {P : Bool → Hp → Prop} (h : ∀ Q', (∀ b H1, P b H1 → Q' b H1) → c σ H Q') (k : ∀ b H1, P b H1 → QB b H1) : c σ H QB := h QB k
theorem cutE {P : V → Hp → Prop} (h : ∀ Q' : VK, (∀ b H1, P b H1 → Q' b H1) → te σ H Q') (k : ∀ b H1, P b H1 → Q b H1) : te σ H Q := h Q k
end

/-! ### what is read off the state -/
section
variable {c : Cfg} {H H' : Hp} {E E' : List Ent} {k : Nat} {v : V} {b : Bool} {Q : VK}
theorem S.lst (s : S c H E) {ds : List D} (hk : E[k]? = some (en v (.lst ds) b)) : ∃ a vs, v = .ref a ∧ H a = some (.lst vs) ∧ vs.length ≤ sizeLine ∧ DaL c.K c.ce H (okA c E) vs ds := by
  rcases s.enG hk with ⟨a, rfl, w⟩ | w
  · cases w with
    | lst h z l => exact ⟨a, _, rfl, h, z, l⟩
  · cases w with
    | lst o h z l => exact ⟨_, _, rfl, h, z, l⟩
theorem S.tupl (s : S c H E) {ds : List D} (hk : E[k]? = some (en v (.tup ds) b)) : ∃ a vs, v = .ref a ∧ SqT c.K H a vs ∧ vs.length ≤ sizeLine ∧ DaL c.K c.ce H (okA c E) vs ds := by
  rcases s.enG hk with ⟨a, rfl, w⟩ | w
  · cases w
  · cases w with
    | tup h z l => exact ⟨_, _, rfl, h.sq, z, l⟩
theorem S.add (s : S c H E) {w : V} {d : D} (h : Da c.K c.ce H (okA c E) w d) : S c H (FB.fz w d :: E) :=
  s.sub s.nd (fun e he => by
    rcases List.mem_cons.mp he with rfl | he
    · exact .inr (.fr h)
    · exact .inl he) fun a h => h
theorem ixI_eq (n : Nat) (i : Int) : ixI n i = ixN n i := rfl
theorem getI_eq {α : Type} (xs : List α) (i : Int) : getI xs i = atI xs i := rfl
theorem getI_map {α β : Type} {f : α → β} {xs : List α} {i : Int} {x : α} (h : getI xs i = some x) : getI (xs.map f) i = some (f x) := by
  unfold getI at h ⊢
  rw [List.length_map]
  cases e : ixI xs.length i with
  | none => rw [e] at h; cases h
  | some j =>
    rw [e] at h
    have h' : xs[j]? = some x := h
    show (xs.map f)[j]? = _
    rw [List.getElem?_map, h']; rfl
theorem DaL.getI {K ce ok} {vs : List V} {ds : List D} {i : Int} {d : D} (h : DaL K ce H ok vs ds) (e : FB.getI ds i = some d) : ∃ v, FB.getI vs i = some v ∧ Da K ce H ok v d := by
  unfold FB.getI at e ⊢
  rw [h.length]
  cases e2 : ixI ds.length i with
  | none => rw [e2] at e; cases e
  | some j =>
    rw [e2] at e
    exact h.get (i := j) e
theorem Da.ofSc {K ce ok} {v w : V} (h : Da K ce H ok v (.sc w)) : v = w := by cases h; rfl

/-! #### items -/
section
variable {α : Type} [TD α] {xs : List α} {x : α} {i : Int}
theorem r_ixL (s : S c H E) (hk : E[k]? = some (en v (td xs) b)) (hx : getI xs i = some x) (q : ∀ w, S c H (fz w (td x) :: E) → Q w H) : rIxL c.K v (.int i) H Q := by
  obtain ⟨a, vs, rfl, h, z, l⟩ := s.lst (ds := xs.map td) hk
  obtain ⟨w, h1, h2⟩ := l.getI (getI_map (f := td) hx)
  exact ⟨a, vs, i, w, rfl, rfl, .of h, h1, q w (s.add h2)⟩
theorem r_ixT (s : S c H E) {xs : Tp α} (hk : E[k]? = some (en v (td xs) b)) (hx : getI xs.l i = some x) (q : ∀ w, S c H (fz w (td x) :: E) → Q w H) : rIxT c.K v (.int i) H Q := by
  obtain ⟨a, vs, rfl, h, z, l⟩ := s.tupl (ds := xs.l.map td) hk
  obtain ⟨w, h1, h2⟩ := l.getI (getI_map (f := td) hx)
  exact ⟨a, vs, i, w, rfl, rfl, h, h1, q w (s.add h2)⟩
/-- an item of a list of known places -/
theorem r_ixLd (s : S c H E) {ds : List D} {d : D} (hk : E[k]? = some (en v (.lst ds) b)) (hx : getI ds i = some d) (q : ∀ w, S c H (fz w d :: E) → Q w H) : rIxL c.K v (.int i) H Q := by
  obtain ⟨a, vs, rfl, h, z, l⟩ := s.lst hk
  obtain ⟨w, h1, h2⟩ := l.getI hx
  exact ⟨a, vs, i, w, rfl, rfl, .of h, h1, q w (s.add h2)⟩
theorem r_ixTd (s : S c H E) {ds : List D} {d : D} (hk : E[k]? = some (en v (.tup ds) b)) (hx : getI ds i = some d) (q : ∀ w, S c H (fz w d :: E) → Q w H) : rIxT c.K v (.int i) H Q := by
  obtain ⟨a, vs, rfl, h, z, l⟩ := s.tupl hk
  obtain ⟨w, h1, h2⟩ := l.getI hx
  exact ⟨a, vs, i, w, rfl, rfl, h, h1, q w (s.add h2)⟩
theorem r_ixLdv (s : S c H E) {ds : List D} {u : V} (hk : E[k]? = some (en v (.lst ds) b)) (hx : getI ds i = some (.sc u)) (q : Q u H) : rIxL c.K v (.int i) H Q := by
  obtain ⟨a, vs, rfl, h, z, l⟩ := s.lst hk
  obtain ⟨w, h1, h2⟩ := l.getI hx
  rw [h2.ofSc] at h1
  exact ⟨a, vs, i, u, rfl, rfl, .of h, h1, q⟩
theorem r_ixTdv (s : S c H E) {ds : List D} {u : V} (hk : E[k]? = some (en v (.tup ds) b)) (hx : getI ds i = some (.sc u)) (q : Q u H) : rIxT c.K v (.int i) H Q := by
  obtain ⟨a, vs, rfl, h, z, l⟩ := s.tupl hk
  obtain ⟨w, h1, h2⟩ := l.getI hx
  rw [h2.ofSc] at h1
  exact ⟨a, vs, i, u, rfl, rfl, h, h1, q⟩
end
theorem r_ixLi {xs : List Int} {x i : Int} (s : S c H E) (hk : E[k]? = some (en v (td xs) b)) (hx : getI xs i = some x) (q : Q (.int x) H) : rIxL c.K v (.int i) H Q :=
  r_ixLdv s (ds := xs.map td) hk (getI_map (f := td) hx) q
theorem r_ixLs {xs : List Str} {x : Str} {i : Int} (s : S c H E) (hk : E[k]? = some (en v (td xs) b)) (hx : getI xs i = some x) (q : Q (.str x) H) : rIxL c.K v (.int i) H Q :=
  r_ixLdv s (ds := xs.map td) hk (getI_map (f := td) hx) q
theorem r_ixTi {xs : Tp Int} {x i : Int} (s : S c H E) (hk : E[k]? = some (en v (td xs) b)) (hx : getI xs.l i = some x) (q : Q (.int x) H) : rIxT c.K v (.int i) H Q :=
  r_ixTdv s (ds := xs.l.map td) hk (getI_map (f := td) hx) q
theorem r_ixTs {xs : Tp Str} {x : Str} {i : Int} (s : S c H E) (hk : E[k]? = some (en v (td xs) b)) (hx : getI xs.l i = some x) (q : Q (.str x) H) : rIxT c.K v (.int i) H Q :=
  r_ixTdv s (ds := xs.l.map td) hk (getI_map (f := td) hx) q
theorem getS_of {z x : Str} {i : Int} (h : getS z i = some x) : z.length ≤ LINE ∧ ∃ c, atI z.cps.toList i = some c ∧ x = ⟨#[c]⟩ := by
  unfold getS at h
  split at h
  · obtain ⟨c, h1, h2⟩ := bnd h
    exact ⟨by assumption, c, h1, (som h2).symm⟩
  · cases h
theorem LINE_eq : LINE = sizeLine := by decide
theorem r_ixS {z x : Str} {i : Int} (hx : getS z i = some x) (q : Q (.str x) H) : rIxS (.str z) (.int i) H Q := by
  obtain ⟨hz, c, h1, rfl⟩ := getS_of hx
  exact ⟨z, i, c, rfl, rfl, LINE_eq ▸ hz, h1, q⟩
/-! #### ints -/
theorem r_I0 {g : Int → Int → V} {i j : Int} (q : Q (g i j) H) : rI0 g (.int i) (.int j) H Q := ⟨i, j, rfl, rfl, q⟩
theorem r_I {C : Int → Int → Prop} {g : Int → Int → V} {i j : Int} (h : C i j) (q : Q (g i j) H) : rI C g (.int i) (.int j) H Q := ⟨i, j, rfl, rfl, h, q⟩
theorem r_U {g : Int → V} {i : Int} (q : Q (g i) H) : rU g (.int i) H Q := ⟨i, rfl, q⟩
theorem r_modI {i j x : Int} (h : modI i j = some x) (q : Q (.int x) H) : rI (fun _ j => 0 < j) (fun i j => .int (i % j)) (.int i) (.int j) H Q := by
  unfold modI at h
  split at h
  · cases h; exact ⟨i, j, rfl, rfl, by assumption, q⟩
  · cases h
theorem r_fdivI {i j x : Int} (h : fdivI i j = some x) (q : Q (.int x) H) : rI CDiv (fun i j => .int (i / j)) (.int i) (.int j) H Q := by
  unfold fdivI at h
  split at h
  · cases h; exact ⟨i, j, rfl, rfl, by assumption, q⟩
  · cases h
theorem r_mulI {i j x : Int} (h : mulI i j = some x) (q : Q (.int x) H) : rI CMul (fun i j => .int (i * j)) (.int i) (.int j) H Q := by
  unfold mulI at h
  split at h
  · cases h; exact ⟨i, j, rfl, rfl, by assumption, q⟩
  · cases h
/-! #### scalars compared -/
theorem r_eq {x y : V} (h : scal x y = true) (q : Q (.bl (decide (x = y))) H) : rEq x y H Q := ⟨h, q⟩
theorem r_eqI {x y : Int} (q : Q (.bl (decide (x = y))) H) : rEq (.int x) (.int y) H Q := ⟨rfl, by
  rw [show decide (V.int x = V.int y) = decide (x = y) by by_cases e : x = y <;> simp [e]]; exact q⟩
theorem r_eqS {x y : Str} (q : Q (.bl (decide (x = y))) H) : rEq (.str x) (.str y) H Q := ⟨rfl, by
  rw [show decide (V.str x = V.str y) = decide (x = y) by by_cases e : x = y <;> simp [e]]; exact q⟩
theorem r_eqB {x y : Bool} (q : Q (.bl (decide (x = y))) H) : rEq (.bl x) (.bl y) H Q := ⟨rfl, by
  rw [show decide (V.bl x = V.bl y) = decide (x = y) by by_cases e : x = y <;> simp [e]]; exact q⟩
theorem r_neI {x y : Int} (q : Q (.bl (!decide (x = y))) H) : rNe (.int x) (.int y) H Q := ⟨rfl, by
  rw [show decide (V.int x = V.int y) = decide (x = y) by by_cases e : x = y <;> simp [e]]; exact q⟩
theorem r_neS {x y : Str} (q : Q (.bl (!decide (x = y))) H) : rNe (.str x) (.str y) H Q := ⟨rfl, by
  rw [show decide (V.str x = V.str y) = decide (x = y) by by_cases e : x = y <;> simp [e]]; exact q⟩
theorem r_neB {x y : Bool} (q : Q (.bl (!decide (x = y))) H) : rNe (.bl x) (.bl y) H Q := ⟨rfl, by
  rw [show decide (V.bl x = V.bl y) = decide (x = y) by by_cases e : x = y <;> simp [e]]; exact q⟩
/-! #### texts -/
def rAddT : R2 := fun x y H Q => ∃ i j, x = .str i ∧ y = .str j ∧ i.length + j.length ≤ sizeLine ∧ Q (.str (i ++ j)) H
theorem op_addT {X : Cx} : OpR X (binaryOp .Add) rAddT := op_add_str
theorem r_addS {x y z : Str} (h : addS x y = some z) (q : Q (.str z) H) : rAddT (.str x) (.str y) H Q := by
  unfold addS at h
  split at h
  · cases h; exact ⟨x, y, rfl, rfl, LINE_eq ▸ by assumption, q⟩
  · cases h
def rLenT : List V → Hp → VK → Prop := fun xs H Q => ∃ z, xs = [.str z] ∧ z.length ≤ sizeLine ∧ Q (.int z.length) H
theorem call_lenT {X : Cx} : CallR X (.builtin "len") rLenT := call_len_str
theorem r_lenS {z : Str} {n : Int} (h : lenS z = some n) (q : Q (.int n) H) : rLenT [.str z] H Q := by
  unfold lenS at h
  split at h
  · cases som h; exact ⟨z, rfl, LINE_eq ▸ by assumption, q⟩
  · cases h
theorem one_sign {c : Str} (h : c.length = 1) : c = ⟨#[c.cps.getD 0 0]⟩ := by
  obtain ⟨⟨l⟩⟩ := c
  have h' : l.length = 1 := h
  match l, h' with
  | [x], _ => rfl
theorem r_inS {x z : Str} {b : Bool} (h : inS x z = some b) (q : Q (.bl b) H) : rInS (.str x) (.str z) H Q := by
  unfold inS at h
  split at h
  · rename_i h1
    refine ⟨x.cps.getD 0 0, z, by rw [← one_sign h1], rfl, ?_⟩
    rw [som h]; exact q
  · cases h
theorem r_notInS {x z : Str} {b : Bool} (h : inS x z = some b) (q : Q (.bl (!b)) H) : rNotInS (.str x) (.str z) H Q := by
  unfold inS at h
  split at h
  · rename_i h1
    refine ⟨x.cps.getD 0 0, z, by rw [← one_sign h1], rfl, ?_⟩
    rw [som h]; exact q
  · cases h
def rMulT : R2 := fun x y H Q => ∃ (i : Str) (k : Int), x = .str i ∧ y = .int k ∧ MulOk i k ∧ Q (.str (Txt.mul i k)) H
theorem op_mulT {X : Cx} : OpR X (binaryOp .Mult) rMulT := by
  intro pins s σ H x y v u Q I rx ry h
  obtain ⟨i, j, rfl, rfl, hz, q⟩ := h
  obtain ⟨t, rfl⟩ := rx
  obtain ⟨t', rfl⟩ := ry
  exact SB.mul hz fun t' k => ⟨.str (Txt.mul i j), H, I.tok _, ⟨_, rfl⟩, q⟩
theorem foldl_app (x : Array Nat) : ∀ (n : Nat) (acc : Array Nat), (List.replicate n x).foldl (· ++ ·) acc = acc ++ ((List.replicate n x.toList).flatten).toArray
  | 0, acc => by simp
  | n + 1, acc => by
    rw [List.replicate_succ, List.foldl_cons, foldl_app x n, List.replicate_succ, List.flatten_cons, Array.append_assoc]
    congr 1
    apply Array.ext'
    simp
theorem r_mulS {x z : Str} {k : Int} (h : mulS x k = some z) (q : Q (.str z) H) : rMulT (.str x) (.int k) H Q := by
  unfold mulS at h
  split at h
  · rename_i hc
    obtain ⟨h1, h2, h3⟩ := hc
    cases som h
    have hz : x.length * k.toNat ≤ sizeLine := LINE_eq ▸ h1
    refine ⟨x, k, rfl, rfl, ⟨by simp only [Bool.or_eq_false_iff, decide_eq_false_iff_not]; omega, fun hk _ => ?_, fun hk _ => ?_⟩, ?_⟩
    · have hk1 : 0 < k := by omega
      intro hgt
      have e1 : (x.length : Int) * k ≤ 16777216 := by
        have e2 : ((x.length * k.toNat : Nat) : Int) ≤ 16777216 := by
          have : x.length * k.toNat ≤ 16777216 := h1
          omega
        rw [Int.natCast_mul, Int.toNat_of_nonneg (by omega)] at e2
        exact e2
      have e3 := (Int.ediv_lt_iff_lt_mul hk1).mp hgt
      omega
    · simp only [Builtin.Str.tooLong, decide_eq_false_iff_not]
      omega
    · have e : Txt.mul x k = (⟨(List.replicate k.toNat x.cps.toList).flatten.toArray⟩ : Str) := by
        unfold Txt.mul
        split
        · have : k.toNat = 0 := by omega
          rw [this]; rfl
        · split
          · rename_i h5 h6
            simp only [Bool.or_eq_true, beq_iff_eq] at h6
            rcases h6 with h6 | h6
            · subst h6
              show x = _
              simp
            · have hx : x.cps.toList = [] := by
                have : x.cps.size = 0 := h6
                simpa [Array.toList_eq_nil_iff] using Array.eq_empty_of_size_eq_zero this
              rw [hx]
              obtain ⟨⟨l⟩⟩ := x
              simp only at hx
              subst hx
              simp
          · rw [foldl_app]; simp
      rw [e]; exact q
  · cases h
theorem r_cutS {z x : Str} {lo hi : Option Int} (h : cutSO z lo hi = some x) (q : Q (.str x) H) : rSlS (.str z) lo hi H Q := by
  unfold cutSO at h
  split at h
  · cases som h; exact ⟨z, rfl, LINE_eq ▸ by assumption, q⟩
  · cases h
/-! #### truth values, classes -/
theorem r_all {bs : List Bool} (s : S c H E) (hk : E[k]? = some (en v (td bs) b)) (q : Q (.bl (bs.all id)) H) : rAll c.K [v] H Q := by
  obtain ⟨a, vs, rfl, h, z, l⟩ := s.lst (ds := bs.map td) hk
  have e : vs = bs.map V.bl := DaL.scs (ws := bs.map V.bl) (by rw [List.map_map]; exact l)
  exact ⟨a, bs, rfl, .of (by rw [h, e]), q⟩
theorem r_any {bs : List Bool} (s : S c H E) (hk : E[k]? = some (en v (td bs) b)) (q : Q (.bl (bs.any id)) H) : rAny c.K [v] H Q := by
  obtain ⟨a, vs, rfl, h, z, l⟩ := s.lst (ds := bs.map td) hk
  have e : vs = bs.map V.bl := DaL.scs (ws := bs.map V.bl) (by rw [List.map_map]; exact l)
  exact ⟨a, bs, rfl, .of (by rw [h, e]), q⟩
theorem r_isi {K : PySem.W.Frag} {x : V} {T U : String} {b : Bool} (ht : TyOf K H x (.type T)) (hk : kitB T U = some b) (q : Q (.bl b) H) : rIsi K [x, .ty U] H Q :=
  ⟨x, .ty U, .type T, .type U, b, rfl, .ty U, .base ht, kit_ty hk, q⟩
/-! #### lists -/
theorem r_lenL {α : Type} [TD α] {xs : List α} (s : S c H E) (hk : E[k]? = some (en v (td xs) b)) (q : Q (.int (xs.length : Int)) H) :
    (fun (ys : List V) (H : Hp) (Q : VK) => ∃ p zs, ys = [.ref p] ∧ (SqL c.K H p zs ∨ SqT c.K H p zs) ∧ Q (.int zs.length) H) [v] H Q := by
  obtain ⟨a, vs, rfl, h, z, l⟩ := s.lst (ds := xs.map td) hk
  have e : (vs.length : Int) = (xs.length : Int) := by rw [l.length, List.length_map]
  exact ⟨a, vs, rfl, .inl (.of h), by rw [e]; exact q⟩
def rLenQ (K : PySem.W.Frag) : List V → Hp → VK → Prop := fun xs H Q => ∃ p ys, xs = [.ref p] ∧ (SqL K H p ys ∨ SqT K H p ys) ∧ Q (.int ys.length) H
theorem call_lenQ {X : Cx} : CallR X (.builtin "len") (rLenQ X.K) := call_len_seq
theorem r_lenQ {α : Type} [TD α] {xs : List α} (s : S c H E) (hk : E[k]? = some (en v (td xs) b)) (q : Q (.int (xs.length : Int)) H) : rLenQ c.K [v] H Q := r_lenL s hk q
theorem r_lenTp {α : Type} [TD α] {xs : Tp α} (s : S c H E) (hk : E[k]? = some (en v (td xs) b)) (q : Q (.int (xs.l.length : Int)) H) : rLenQ c.K [v] H Q := by
  obtain ⟨a, vs, rfl, h, z, l⟩ := s.tupl (ds := xs.l.map td) hk
  have e : (vs.length : Int) = (xs.l.length : Int) := by rw [l.length, List.length_map]
  exact ⟨a, vs, rfl, .inr h, by rw [e]; exact q⟩
theorem S.tyL (s : S c H E) {ds : List D} (hk : E[k]? = some (en v (.lst ds) b)) : tyV c.K "list" v H := by
  obtain ⟨a, vs, rfl, h, z, l⟩ := s.lst hk
  exact .inl ⟨rfl, _, SqL.of h⟩
/-- setting an item of an owned list -/
theorem r_setL {α : Type} [TD α] {xs ys : List α} {x : α} {i : Int} {a : Addr} {w : V} {Q : Hp → Prop} (s : S c H E) (hk : E[k]? = some (ow a (td xs))) (hw : Da c.K c.ce H (okA c E) w (td x)) (h : setI xs i x = some ys)
    (q : ∀ H', S c H' (E.set k (ow a (td ys))) → Q H') : rSetL (.ref a) (.int i) w H Q := by
  unfold setI at h
  obtain ⟨j, h1, h2⟩ := bnd h
  cases som h2
  have o := s.own hk
  cases o with
  | @lst vs _ ha hz l =>
    have hl : vs.length = xs.length := by rw [l.length, List.length_map]
    refine ⟨a, vs, i, j, rfl, rfl, ha, by rw [hl]; exact h1, q _ (s.put hk (.lst upd_same (by rw [List.length_set]; exact hz) ?_))⟩
    have l2 := (l.set hw j).mono (s.keepOwn (o := .lst (vs.set j w)) hk) (ok' := okA c E) fun a o _ => o
    rw [List.map_set]
    exact l2
theorem r_appL {α : Type} [TD α] {xs ys : List α} {x : α} {a : Addr} {w : V} (s : S c H E) (hk : E[k]? = some (ow a (td xs))) (hw : Da c.K c.ce H (okA c E) w (td x)) (h : pushL xs x = some ys)
    (q : ∀ H', S c H' (E.set k (ow a (td ys))) → Q .non H') : rAppend (.ref a) [w] H Q := by
  unfold pushL at h
  split at h
  · rename_i hz
    cases som h
    have o := s.own hk
    cases o with
    | @lst vs _ ha hz' l =>
      have hl : vs.length = xs.length := by rw [l.length, List.length_map]
      rw [LINE_eq] at hz
      refine ⟨a, vs, w, rfl, rfl, ha, by omega, q _ (s.put hk (.lst upd_same (by rw [List.length_append, List.length_singleton]; omega) ?_))⟩
      have l2 := (l.append (DaL.one hw)).mono (s.keepOwn (o := .lst (vs ++ [w])) hk) (ok' := okA c E) fun a o _ => o
      rw [List.map_append]
      exact l2
  · cases h
theorem map_eraseIdx {α β : Type} (f : α → β) : ∀ (xs : List α) (j : Nat), (xs.eraseIdx j).map f = (xs.map f).eraseIdx j
  | [], _ => rfl
  | x :: xs, 0 => rfl
  | x :: xs, j + 1 => by simp [map_eraseIdx f xs j]
/-- xs.pop(i), the value a scalar -/
theorem r_popLi {xs ys : List Int} {x : Int} {i : Int} {a : Addr} (s : S c H E) (hk : E[k]? = some (ow a (td xs))) (h : popI xs i = some (x, ys)) (hi : -(2 ^ 63) ≤ i ∧ i < 2 ^ 63)
    (q : ∀ H', S c H' (E.set k (ow a (td ys))) → Q (.int x) H') : rPopAt (.ref a) [.int i] H Q := by
  unfold popI at h
  obtain ⟨j, h1, h2⟩ := bnd h
  obtain ⟨y, h3, h4⟩ := bnd h2
  cases som h4
  have o := s.own hk
  cases o with
  | @lst vs _ ha hz l =>
    have hl : vs.length = xs.length := by rw [l.length, List.length_map]
    obtain ⟨w, g1, g2⟩ := l.get (i := j) (d := td x) (by rw [List.getElem?_map, h3]; rfl)
    rw [g2.ofSc] at g1
    have hs := (ixN_seq (n := vs.length) (i := i) (j := j) (by rw [hl]; exact h1)).1
    refine ⟨a, vs, i, j, _, rfl, rfl, ha, hi.1, hi.2, hs, g1, q _ (s.put hk (.lst upd_same (Nat.le_trans (len_erase vs j) hz) ?_))⟩
    have l2 := (l.eraseIdx j).mono (s.keepOwn (o := .lst (vs.eraseIdx j)) hk) (ok' := okA c E) fun a o _ => o
    rw [map_eraseIdx]
    exact l2
/-! #### making -/
theorem r_tup {vs : List V} {ds : List D} (s : S c H E) (h : DaL c.K c.ce H (okA c E) vs ds) (hz : vs.length ≤ sizeLine := by exact Nat.le_of_ble_eq_true rfl) (q : ∀ p H', S c H' (fz (.ref p) (.tup ds) :: E) → Q (.ref p) H') :
    NewT Q vs H := ⟨hz, fun p hp => q p _ (s.tup hp h hz)⟩
theorem r_lst {vs : List V} {ds : List D} (s : S c H E) (h : DaL c.K c.ce H (okA c E) vs ds) (hz : vs.length ≤ sizeLine := by exact Nat.le_of_ble_eq_true rfl) (q : ∀ p H', S c H' (fz (.ref p) (.lst ds) :: E) → Q (.ref p) H') :
    NewL Q vs H := ⟨hz, fun p hp => q p _ (s.lstF hp h hz)⟩
theorem r_lstO {vs : List V} {ds : List D} (s : S c H E) (h : DaL c.K c.ce H (okA c E) vs ds) (hz : vs.length ≤ sizeLine := by exact Nat.le_of_ble_eq_true rfl) (q : ∀ p H', S c H' (ow p (.lst ds) :: E) → Q (.ref p) H') :
    NewL Q vs H := ⟨hz, fun p hp => q p _ (s.lstO hp h hz)⟩
end
end FB

namespace FB
open PySem L2

/-! ### loops -/
def ForB (J : It) (g : TG) (tb : TS) (D : Ends) (σ : St) (H : Hp) : Prop := ∃ W : Nat → Nat → St → Hp → Prop, (∃ m, W 0 m σ H) ∧ ∀ i m σ H, W i m σ H →
  (J.stop i H ∧ D.nx σ H) ∨ (J.go i H ∧ ∃ N : St → Hp → Prop, (∀ σ' H', N σ' H' → ∃ m', m' < m ∧ W (i + 1) m' σ' H') ∧ ∀ x H', J.yld i H x H' → g x σ H' fun σ2 H2 => tb { D with nx := N, ct := N, bk := D.nx } σ2 H2)
def LcB (J : It) (g : TG) (tt : TT) (te : TE) (vs : List Nat) (σ : St) (H1 : Hp) (Q : VK) : Prop := ∀ D, H1 D = none → ∃ W : Nat → Nat → Hp → Prop, (∃ m, W 0 m (upd H1 D (.lst []))) ∧ ∀ i m H, W i m H →
  (J.stop i H ∧ Q (.ref D) H) ∨ (J.go i H ∧ ∃ Nx : Hp → Prop, (∀ H', Nx H' → ∃ m', m' < m ∧ W (i + 1) m' H') ∧ ∀ x H', J.yld i H x H' → g x (wipe σ vs) H' fun σ2 H2 => wipe σ2 vs = wipe σ vs ∧ tt σ2 H2 fun b H3 =>
    if b = true then te σ2 H3 fun y H4 => ∃ acc, H4 D = some (.lst acc) ∧ acc.length < sizeLine ∧ Nx (upd H4 D (.lst (acc ++ [y]))) else Nx H3)
/-- what a loop walks: a list at a value, a tuple, a text's signs, ints -/
inductive Way where
  | lst (v : V) | tup (v : V) | str (z : Str) | rng (lo hi : Int) | scr (a : Addr) (ns : List Int) | key (d : Addr) (o : Obj) (kvs : List (Key × V))
def Way.Is (K : PySem.W.Frag) : Way → L2.It → Prop
  | .lst v, J => ∃ a, v = .ref a ∧ J = Itl K a
  | .tup v, J => ∃ a, v = .ref a ∧ J = Itt K a
  | .str z, J => J = Its z
  | .rng lo hi, J => J = Itr lo (hi - lo).toNat
  | .scr a _, J => J = Itl K a
  | .key d o kvs, J => J = Itk d o kvs
/-- in a state where it stands, the way gives ds -/
def Way.At (c : Cfg) (ds : List D) : Way → Hp → Prop
  | .lst v, H => ∃ (E : List Ent) (k : Nat) (b : Bool), S c H E ∧ E[k]? = some (en v (.lst ds) b)
  | .tup v, H => ∃ (E : List Ent) (k : Nat) (b : Bool), S c H E ∧ E[k]? = some (en v (.tup ds) b)
  | .str z, _ => ds = (signs z).map fun x => .sc (.str x)
  | .rng lo hi, _ => ds = (rangeI lo hi).map fun x => .sc (.int x)
  | .scr a ns, H => SqL c.K H a (ns.map V.int) ∧ ds = ns.map fun x => .sc (.int x)
  | .key d o kvs, H => (∃ E, S c H E) ∧ (d, o, HO.dK kvs) ∈ c.L ∧ ds = kvs.map fun kv => .sc (kV kv.1)
/-- an item that came in H stands for d in every state of H that bears the way -/
def Way.Gives (c : Cfg) (ds : List D) (d : D) (w : V) (H : Hp) : Way → Prop
  | .lst v => ∀ (E : List Ent) (k : Nat) (b : Bool), S c H E → E[k]? = some (en v (.lst ds) b) → Da c.K c.ce H (okA c E) w d
  | .tup v => ∀ (E : List Ent) (k : Nat) (b : Bool), S c H E → E[k]? = some (en v (.tup ds) b) → Da c.K c.ce H (okA c E) w d
  | _ => d = .sc w
section
variable {c : Cfg} {ds : List D} {w : Way} {J : It}
theorem Way.walk (hJ : w.Is c.K J) : Walk J ds.length (w.At c ds) (fun i H x H' => H' = H ∧ ∃ d, ds[i]? = some d ∧ w.Gives c ds d x H) := by
  cases w with
  | lst v =>
    obtain ⟨a, rfl, rfl⟩ := hJ
    refine ⟨fun i H hi g => ?_, fun H g => ?_, fun i H x H' hi g y => ?_⟩
    · obtain ⟨E, k, b, s, hk⟩ := g
      obtain ⟨a', vs, e, h, z, l⟩ := s.lst hk
      cases e
      obtain ⟨v, h1, h2⟩ := l.get (i := i) (d := ds[i]) (by simp [hi])
      exact ⟨vs, v, .of h, h1⟩
    · obtain ⟨E, k, b, s, hk⟩ := g
      obtain ⟨a', vs, e, h, z, l⟩ := s.lst hk
      cases e
      exact ⟨vs, .of h, Nat.le_of_eq l.length⟩
    · obtain ⟨e1, y⟩ := y
      refine ⟨e1, ds[i], by simp [hi], fun E k b s hk => ?_⟩
      obtain ⟨a', vs, e, h, z, l⟩ := s.lst hk
      cases e
      obtain ⟨v, h1, h2⟩ := l.get (i := i) (d := ds[i]) (by simp [hi])
      have h3 := y vs (.of h)
      rw [h1] at h3; cases h3
      exact h2
  | tup v =>
    obtain ⟨a, rfl, rfl⟩ := hJ
    refine ⟨fun i H hi g => ?_, fun H g => ?_, fun i H x H' hi g y => ?_⟩
    · obtain ⟨E, k, b, s, hk⟩ := g
      obtain ⟨a', vs, e, h, z, l⟩ := s.tupl hk
      cases e
      obtain ⟨v, h1, h2⟩ := l.get (i := i) (d := ds[i]) (by simp [hi])
      exact ⟨vs, v, h, h1⟩
    · obtain ⟨E, k, b, s, hk⟩ := g
      obtain ⟨a', vs, e, h, z, l⟩ := s.tupl hk
      cases e
      exact ⟨vs, h, Nat.le_of_eq l.length⟩
    · obtain ⟨e1, y⟩ := y
      refine ⟨e1, ds[i], by simp [hi], fun E k b s hk => ?_⟩
      obtain ⟨a', vs, e, h, z, l⟩ := s.tupl hk
      cases e
      obtain ⟨v, h1, h2⟩ := l.get (i := i) (d := ds[i]) (by simp [hi])
      have h3 := y vs h
      rw [h1] at h3; cases h3
      exact h2
  | str z =>
    cases hJ
    refine ⟨fun i H hi g => ?_, fun H g => ?_, fun i H x H' hi g y => ?_⟩
    · have g' : ds = (signs z).map fun x => .sc (.str x) := g
      subst g'
      simpa [Its, signs] using hi
    · have g' : ds = (signs z).map fun x => .sc (.str x) := g
      subst g'
      simp [Its, signs]
    · have g' : ds = (signs z).map fun x => .sc (.str x) := g
      subst g'
      obtain ⟨e1, cp, h1, rfl⟩ := y
      refine ⟨e1, .sc (.str ⟨#[cp]⟩), ?_, rfl⟩
      rw [List.getElem?_map, signs, List.getElem?_map, Array.getElem?_toList, h1]
      rfl
  | rng lo hi' =>
    cases hJ
    refine ⟨fun i H hi g => ?_, fun H g => ?_, fun i H x H' hi g y => ?_⟩
    · have g' : ds = (rangeI lo hi').map fun x => .sc (.int x) := g
      subst g'
      simpa [Itr, rangeI] using hi
    · have g' : ds = (rangeI lo hi').map fun x => .sc (.int x) := g
      subst g'
      simp only [Itr, rangeI, List.length_map, List.length_range]
      exact Nat.le_refl _
    · have g' : ds = (rangeI lo hi').map fun x => .sc (.int x) := g
      subst g'
      obtain ⟨e1, rfl⟩ := y
      refine ⟨e1, .sc (.int (lo + (i : Int))), ?_, rfl⟩
      have hi2 : i < (hi' - lo).toNat := by simpa [rangeI] using hi
      rw [List.getElem?_map, rangeI, List.getElem?_map, List.getElem?_range hi2]
      rfl
  | scr a ns =>
    cases hJ
    refine ⟨fun i H hi g => ?_, fun H g => ?_, fun i H x H' hi g y => ?_⟩
    · obtain ⟨g1, g2⟩ := g
      subst g2
      exact ⟨_, V.int (ns[i]'(by simpa using hi)), g1, by simp [show i < ns.length by simpa using hi]⟩
    · obtain ⟨g1, g2⟩ := g
      subst g2
      exact ⟨_, g1, by simp⟩
    · obtain ⟨g1, g2⟩ := g
      have h2 : i < ns.length := by rw [g2, List.length_map] at hi; exact hi
      obtain ⟨e1, y⟩ := y
      have h3 := y _ g1
      rw [List.getElem?_map, List.getElem?_eq_getElem h2] at h3
      refine ⟨e1, .sc x, ?_, rfl⟩
      rw [g2, List.getElem?_map, List.getElem?_eq_getElem h2]
      exact congrArg (fun z => z.map D.sc) h3
  | key d o kvs =>
    cases hJ
    refine ⟨fun i H hi g => ?_, fun H g => ?_, fun i H x H' hi g y => ?_⟩
    · obtain ⟨⟨E, s⟩, g1, g2⟩ := g
      exact ⟨s.lk _ g1, by rw [g2, List.length_map] at hi; exact hi⟩
    · obtain ⟨⟨E, s⟩, g1, g2⟩ := g
      exact ⟨s.lk _ g1, by rw [g2, List.length_map]; exact Nat.le_refl _⟩
    · obtain ⟨_, _, g2⟩ := g
      obtain ⟨e1, k, u, h1, rfl⟩ := y
      refine ⟨e1, .sc (kV k), ?_, rfl⟩
      rw [g2, List.getElem?_map, h1]; rfl
end
section
variable {c : Cfg} {w : Way} {J : It} {α β : Type} [TD α] [TD β] {xs : List α} {ys : List β}
/-- a for: Inv of the items still to come -/
theorem forB {g : TG} {tb : TS} {nx bk ct : St → Hp → Prop} {rt : VK} {σ : St} {H : Hp} (xs : List α) (hJ : w.Is c.K J) (Inv : List α → St → Hp → Prop) (h0 : Inv xs σ H) (hG : ∀ l σ H, Inv l σ H → w.At c (xs.map td) H)
    (turn : ∀ d l x σ H, Inv (d :: l) σ H → w.Gives c (xs.map td) (td d) x H → g x σ H fun σ2 H2 => tb ⟨Inv l, rt, nx, Inv l⟩ σ2 H2) (done : ∀ σ H, Inv [] σ H → nx σ H) : ForB J g tb ⟨nx, rt, bk, ct⟩ σ H := by
  refine for_it (Way.walk hJ) (fun i σ H => i ≤ (xs.map td).length ∧ Inv (xs.drop i) σ H) ⟨Nat.zero_le _, by simpa using h0⟩ (fun i σ H _ p => hG _ _ _ p.2) (fun i x σ H H' hi p y => ?_) fun σ H p => done σ H (by simpa using p.2)
  obtain ⟨e1, d, h1, h2⟩ := y
  subst e1
  rw [List.getElem?_map] at h1
  cases hx : xs[i]? with
  | none => rw [hx] at h1; cases h1
  | some d0 =>
    rw [hx] at h1
    cases som h1
    have hd : xs.drop i = d0 :: xs.drop (i + 1) := by
      obtain ⟨hlt, e⟩ := List.getElem?_eq_some_iff.mp hx
      rw [← e]; exact List.drop_eq_getElem_cons hlt
    have q := turn d0 (xs.drop (i + 1)) x σ H' (by rw [← hd]; exact p.2) h2
    have hF : (fun σ H => i + 1 ≤ (xs.map td).length ∧ Inv (xs.drop (i + 1)) σ H) = Inv (xs.drop (i + 1)) := by
      funext σ H
      exact propext ⟨fun z => z.2, fun z => ⟨hi, z⟩⟩
    rw [hF]
    exact q
/-- a comprehension -/
theorem lcB {g : TG} {tt : TT} {te : TE} {vs : List Nat} {σ : St} {H : Hp} {Q : VK} {E : List Ent} {f : α → Option (Option β)} (hJ : w.Is c.K J) (s : S c H E) (hn : xs.length ≤ LINE) (hf : compO xs f = some ys) (hG : ∀ H', (∃ D ds, S c H' (ow D (.lst ds) :: E)) → w.At c (xs.map td) H')
    (turn : ∀ d o D acc x H', f d = some o → S c H' (ow D (td (acc : List β)) :: E) → w.Gives c (xs.map td) (td d) x H' → ∀ (R0 : Hp → Prop) (R1 : VK), (o = none → ∀ H3, S c H3 (ow D (td acc) :: E) → R0 H3) → (∀ y, o = some y → ∀ u H4, S c H4 (fz u (td y) :: ow D (td acc) :: E) → R1 u H4) →
      g x (wipe σ vs) H' fun σ2 H2 => wipe σ2 vs = wipe σ vs ∧ tt σ2 H2 (IfQ (fun H3 => te σ2 H3 R1) R0))
    (q : ∀ D H', S c H' (ow D (td ys) :: E) → Q (.ref D) H') : LcB J g tt te vs σ H Q := by
  intro D hD
  refine lc_it (Way.walk hJ) (fun i H' => i ≤ (xs.map td).length ∧ ∃ acc : List β, acc.length ≤ i ∧ S c H' (ow D (td acc) :: E) ∧ ∃ r, compO (xs.drop i) f = some r ∧ acc ++ r = ys) ⟨Nat.zero_le _, [], Nat.le_refl _, s.lstO hD .nil (Nat.zero_le _), ys, by simpa using hf, rfl⟩
    (fun i H' _ p => hG H' ⟨D, _, p.2.choose_spec.2.1⟩) (fun i x H1 H' hi p y => ?_) fun H' p => ?_
  · obtain ⟨e1, d, h1, h2⟩ := y
    subst e1
    obtain ⟨hle, acc, hacc, s1, r, hr, hes⟩ := p
    rw [List.getElem?_map] at h1
    cases hx : xs[i]? with
    | none => rw [hx] at h1; cases h1
    | some d0 =>
      rw [hx] at h1
      cases som h1
      have hd : xs.drop i = d0 :: xs.drop (i + 1) := by
        obtain ⟨hlt, e⟩ := List.getElem?_eq_some_iff.mp hx
        rw [← e]; exact List.drop_eq_getElem_cons hlt
      rw [hd] at hr
      obtain ⟨o, ho, hr⟩ := bnd hr
      obtain ⟨r', hr', hr⟩ := bnd hr
      have hr := som hr
      rw [List.length_map] at hi hle
      refine turn d0 o D acc x H' ho s1 h2 (fun H3 => i + 1 ≤ (xs.map td).length ∧ ∃ acc : List β, acc.length ≤ i + 1 ∧ S c H3 (ow D (td acc) :: E) ∧ ∃ r, compO (xs.drop (i + 1)) f = some r ∧ acc ++ r = ys)
        (fun y H4 => ∃ acc, H4 D = some (.lst acc) ∧ acc.length < sizeLine ∧ (i + 1 ≤ (xs.map td).length ∧ ∃ acc' : List β, acc'.length ≤ i + 1 ∧ S c (upd H4 D (.lst (acc ++ [y]))) (ow D (td acc') :: E) ∧ ∃ r, compO (xs.drop (i + 1)) f = some r ∧ acc' ++ r = ys)) ?_ ?_
      · intro e H3 s3
        subst e
        exact ⟨by rw [List.length_map]; exact hi, acc, by omega, s3, r', hr', by rw [← hes, ← hr]⟩
      · intro y e u H4 s4
        subst e
        have o4 := s4.own (k := 1) (a := D) (d := .lst (acc.map td)) rfl
        cases o4 with
        | @lst vs4 _ hD4 hz4 l4 =>
          have hl : vs4.length = acc.length := by rw [l4.length, List.length_map]
          rw [LINE_eq] at hn
          refine ⟨vs4, hD4, by omega, by rw [List.length_map]; exact hi, acc ++ [y], by rw [List.length_append, List.length_singleton]; omega, ?_, r', hr', by rw [← hes, ← hr]; simp⟩
          have hu : Da c.K c.ce H4 (okA c (fz u (td y) :: ow D (td acc) :: E)) u (td y) := s4.fz (k := 0) rfl
          have l5 := (l4.append (DaL.one hu)).mono (s4.keepOwn (a := D) (d := .lst (acc.map td)) (o := .lst (vs4 ++ [u])) (k := 1) rfl) (ok' := okA c (fz u (td y) :: ow D (td acc) :: E)) fun a o _ => o
          have s5 := s4.put (k := 1) (a := D) (d := .lst (acc.map td)) (d' := .lst (acc.map td ++ [td y])) (o := .lst (vs4 ++ [u])) rfl (.lst upd_same (by rw [List.length_append, List.length_singleton]; omega) l5)
          have e6 : td (acc ++ [y]) = FB.D.lst (acc.map td ++ [td y]) := by show FB.D.lst _ = _; rw [List.map_append]; rfl
          rw [e6]
          exact s5.sub (E' := ow D (.lst (acc.map td ++ [td y])) :: E) s5.nd (fun e he => .inl (List.mem_cons_of_mem _ he)) (fun a h => h)
  · obtain ⟨hle, acc, hacc, s1, r, hr, hes⟩ := p
    rw [List.length_map, List.drop_length] at hr
    have e := som hr
    subst e
    rw [List.append_nil] at hes
    subst hes
    exact q D H' s1
end

/-! #### the loops' readings -/
section
variable {K : PySem.W.Frag} {g : TG} {tb : TS} {D : Ends} {σ : St} {H : Hp} {tl te : TE} {tt : TT} {vs : List Nat} {Q : VK} {ta : TA}
def LoopL (K : PySem.W.Frag) (F : L2.It → Hp → Prop) : VK := fun x H => ∃ a, x = .ref a ∧ (∃ xs, SqL K H a xs) ∧ F (Itl K a) H
def LoopT (K : PySem.W.Frag) (F : L2.It → Hp → Prop) : VK := fun x H => ∃ a, x = .ref a ∧ (∃ xs, SqT K H a xs) ∧ F (Itt K a) H
theorem w_forL (h : tl σ H (LoopL K fun J H => ForB J g tb D σ H)) : tFor (iList K tl) g tb D σ H := h
theorem w_forT (h : tl σ H (LoopT K fun J H => ForB J g tb D σ H)) : tFor (iTup K tl) g tb D σ H := h
def LoopS (F : L2.It → Hp → Prop) : VK := fun v H1 => ∃ x, v = .str x ∧ F (Its x) H1
theorem w_forS (h : tl σ H (LoopS fun J H => ForB J g tb D σ H)) : tFor (iStr tl) g tb D σ H := h
def LoopR (F : L2.It → Hp → Prop) : List V → Hp → Prop := fun vs H1 => ∃ j : Int, vs = [.int j] ∧ -(2 ^ 62) ≤ j ∧ j < 2 ^ 62 ∧ F (Itr 0 j.toNat) H1
def LoopR2 (F : L2.It → Hp → Prop) : List V → Hp → Prop := fun vs H1 => ∃ i j : Int, vs = [.int i, .int j] ∧ (-(2 ^ 62) ≤ i ∧ i < 2 ^ 62 ∧ -(2 ^ 62) ≤ j ∧ j < 2 ^ 62) ∧ F (Itr i (j - i).toNat) H1
theorem w_forR (h : ta σ H (LoopR fun J H => ForB J g tb D σ H)) : tFor (iRng1 ta) g tb D σ H := h
theorem w_forR2 (h : ta σ H (LoopR2 fun J H => ForB J g tb D σ H)) : tFor (iRng2 ta) g tb D σ H := h
theorem w_lcL (h : tl σ H (LoopL K fun J H => LcB J g tt te vs σ H Q)) : tLc (iList K tl) g tt te vs σ H Q := h
theorem w_lcT (h : tl σ H (LoopT K fun J H => LcB J g tt te vs σ H Q)) : tLc (iTup K tl) g tt te vs σ H Q := h
theorem w_lcS (h : tl σ H (LoopS fun J H => LcB J g tt te vs σ H Q)) : tLc (iStr tl) g tt te vs σ H Q := h
theorem w_lcR (h : ta σ H (LoopR fun J H => LcB J g tt te vs σ H Q)) : tLc (iRng1 ta) g tt te vs σ H Q := h
theorem w_lcR2 (h : ta σ H (LoopR2 fun J H => LcB J g tt te vs σ H Q)) : tLc (iRng2 ta) g tt te vs σ H Q := h
end
section
variable {c : Cfg} {H : Hp} {E : List Ent} {k : Nat} {v : V} {b : Bool} {F : L2.It → Hp → Prop}
theorem l_lst {ds : List D} (s : S c H E) (hk : E[k]? = some (en v (.lst ds) b)) (h : ∀ J, Way.Is c.K (.lst v) J → F J H) : LoopL c.K F v H := by
  obtain ⟨a, vs, rfl, hh, z, l⟩ := s.lst hk
  exact ⟨a, rfl, ⟨vs, .of hh⟩, h _ ⟨a, rfl, rfl⟩⟩
theorem l_str {z : Str} (h : F (Its z) H) : LoopS F (.str z) H := ⟨z, rfl, h⟩
theorem l_tup {ds : List D} (s : S c H E) (hk : E[k]? = some (en v (.tup ds) b)) (h : ∀ J, Way.Is c.K (.tup v) J → F J H) : LoopT c.K F v H := by
  obtain ⟨a, vs, rfl, hh, z, l⟩ := s.tupl hk
  exact ⟨a, rfl, ⟨vs, hh⟩, h _ ⟨a, rfl, rfl⟩⟩
/-- the size of a list that stands -/
theorem S.small {α : Type} [TD α] {xs : List α} (s : S c H E) (hk : E[k]? = some (en v (td xs) b)) : xs.length ≤ LINE := by
  obtain ⟨a, vs, rfl, hh, z, l⟩ := s.lst (ds := xs.map td) hk
  rw [LINE_eq, ← List.length_map (f := td), ← l.length]; exact z
theorem S.smallT {α : Type} [TD α] {xs : Tp α} (s : S c H E) (hk : E[k]? = some (en v (td xs) b)) : xs.l.length ≤ LINE := by
  obtain ⟨a, vs, rfl, hh, z, l⟩ := s.tupl (ds := xs.l.map td) hk
  rw [LINE_eq, ← List.length_map (f := td), ← l.length]; exact z
end
theorem rngO_of {a b : Int} {xs : List Int} (h : rngO a b = some xs) : (-(2 ^ 62) ≤ a ∧ a < 2 ^ 62 ∧ -(2 ^ 62) ≤ b ∧ b < 2 ^ 62 ∧ (b - a).toNat ≤ LINE) ∧ xs = rangeI a b := by
  unfold rngO at h
  split at h
  · exact ⟨by assumption, (som h).symm⟩
  · cases h
theorem r_rng {F : L2.It → Hp → Prop} {H : Hp} {j : Int} {xs : List Int} (h : rngO 0 j = some xs) (q : F (Itr 0 (j - 0).toNat) H) : LoopR F [.int j] H := by
  obtain ⟨⟨_, _, h1, h2, _⟩, _⟩ := rngO_of h
  exact ⟨j, rfl, h1, h2, by rw [Int.sub_zero] at q; exact q⟩
theorem r_rng2 {F : L2.It → Hp → Prop} {H : Hp} {i j : Int} {xs : List Int} (h : rngO i j = some xs) (q : F (Itr i (j - i).toNat) H) : LoopR2 F [.int i, .int j] H := by
  obtain ⟨⟨a, b, h1, h2, _⟩, _⟩ := rngO_of h
  exact ⟨i, j, rfl, ⟨a, b, h1, h2⟩, q⟩
theorem rng_at {c : Cfg} {H : Hp} {i j : Int} {xs : List Int} (h : rngO i j = some xs) : (Way.rng i j).At c (xs.map td) H := by
  rw [(rngO_of h).2]; rfl
theorem rng_small {i j : Int} {xs : List Int} (h : rngO i j = some xs) : xs.length ≤ LINE := by
  obtain ⟨⟨_, _, _, _, h1⟩, rfl⟩ := rngO_of h
  rw [rangeI, List.length_map, List.length_range]; exact h1
theorem signsO_of {z : Str} {xs : List Str} (h : signsO z = some xs) : z.length ≤ LINE ∧ xs = signs z := by
  unfold signsO at h
  split at h
  · exact ⟨by assumption, (som h).symm⟩
  · cases h
theorem str_at {c : Cfg} {H : Hp} {z : Str} {xs : List Str} (h : signsO z = some xs) : (Way.str z).At c (xs.map td) H := by
  rw [(signsO_of h).2]; rfl
theorem str_small {z : Str} {xs : List Str} (h : signsO z = some xs) : xs.length ≤ LINE := by
  obtain ⟨h1, rfl⟩ := signsO_of h
  rw [signs, List.length_map]; exact h1
theorem S.scr {c : Cfg} {H : Hp} {E : List Ent} (s : S c H E) {a : Addr} {ns : List Int} (h : SqL c.K c.H0 a (ns.map V.int)) (hm : c.M0 = []) : SqL c.K H a (ns.map V.int) := by
  rcases h with h | h
  · exact .inl (s.ex a _ (by rw [hm]; exact fun z => nomatch z) h)
  · exact .inr h
theorem l_scr {K : PySem.W.Frag} {H : Hp} {F : L2.It → Hp → Prop} {a : Addr} {ns : List Int} (h : SqL K H a (ns.map V.int)) (q : ∀ J, Way.Is K (.scr a ns) J → F J H) : LoopL K F (.ref a) H := ⟨a, rfl, ⟨_, h⟩, q _ rfl⟩
theorem gv_sc {v w : V} (h : D.sc v = D.sc w) : v = w := by cases h; rfl
abbrev Lk := List (Addr × Obj × HO)
abbrev mk (K : PySem.W.Frag) (ce : Str → Addr) (Z : Addr → Prop) (L : Lk) (H : Hp) (E : List Ent) : Cfg := ⟨K, ce, Z, H, keys E, L⟩
theorem loop_cons {α ρ σ : Type} {x : α} {xs : List α} {s : σ} {f : α → σ → Option (Fl ρ σ)} {r : Fl ρ σ} (h : loopO (x :: xs) s f = some r) :
    ∃ q, f x s = some q ∧ (∀ s', q = .go s' → loopO xs s' f = some r) ∧ (∀ s', q = .brk s' → r = .brk s') ∧ (∀ v, q = .ret v → r = .ret v) := by
  obtain ⟨q, h1, h2⟩ := bnd h
  refine ⟨q, h1, fun s' e => ?_, fun s' e => ?_, fun v e => ?_⟩
  all_goals subst e
  · exact h2
  · exact (som h2).symm
  · exact (som h2).symm
theorem fold_cons {α σ : Type} {x : α} {xs : List α} {s : σ} {f : α → σ → Option σ} {r : σ} (h : foldO (x :: xs) s f = some r) : ∃ s', f x s = some s' ∧ foldO xs s' f = some r := bnd h
end FB
namespace FB
open PySem L2
theorem S.nil {K : PySem.W.Frag} {ce : Str → Addr} {H : Hp} : S (FB.mk K ce (fun _ => False) [] H []) H [] :=
  ⟨List.nodup_nil, (fun _ h => nomatch h), (fun _ h => nomatch h), (fun _ h => nomatch h), fun _ h => h.elim, fun _ _ _ h => h, fun _ _ _ _ h => h, fun _ _ h => h, fun _ h => h, fun _ h => h.elim, fun _ h => nomatch h⟩
end FB

/-! calls that know that no repr is under way (str of a tuple is then what it says), and that may raise -/
namespace FB
open PySem PySem.Spec PyProof.Rows L2

structure RG (k : Nat) (A : Around) : Prop where
  r : Room k A
  g : A.guards = some []
theorem RG.mono {j k : Nat} {A : Around} (h : RG k A) (l : j ≤ k) : RG j A := ⟨h.r.mono l, h.g⟩
theorem RG.deeper {k : Nat} {A : Around} (h : RG (k + 1) A) (env : Env) : RG k (A.deeper env) := ⟨h.r.deeper env, h.g⟩
theorem RG.in1 {k : Nat} {A : Around} (h : RG (k + 1) A) : RG k A.in1 := ⟨h.r.in1, h.g⟩
theorem RG.make {k : Nat} {A : Around} (h : RG (k + 1) A) (C : Addr) (us : List Value) : RG k (A.under (.builtin "type.__call__" ⟨.ref C :: us, []⟩)) :=
  ⟨h.r.make C us [], by have e := h.g; first | exact e | simpa [Around.under, Code.guards, Code.isGuard, guardIds, pushGuards] using e⟩

/-- a def's promise, its bound arguments in order -/
structure FnB (P : Program) (w : World) (K : PySem.W.Frag) (mg : Str → Option Value) (base : Heap) (k : Nat) (f : Addr) (fd : FuncData) (ps : List Str) (sp : Sp) : Prop where
  len : ∀ vs H Q E, sp vs H Q E → vs.length = ps.length
  run : ∀ (A : Around) (outer : List Env) (s : Shared) (H : Hp) (args : Args) (us : List Value) (vs : List V) (Q : VK) (E : XK), RG k A → Env0 P w K mg base A outer s H →
    BindsTo s fd args (ps.zip us) → Vals vs us → sp vs H Q E → codeAny (model P w) A (.call (.ref f) args) (CR (L2.CX P w) outer P w H s Q E) s
/-- a promise by the values handed over -/
def FnG (P : Program) (w : World) (K : PySem.W.Frag) (mg : Str → Option Value) (base : Heap) (k : Nat) (f : Addr) (sp : Sp) : Prop :=
  ∀ (A : Around) (outer : List Env) (s : Shared) (H : Hp) (us : List Value) (vs : List V) (Q : VK) (E : XK), RG k A → Env0 P w K mg base A outer s H → Vals vs us → sp vs H Q E →
    codeAny (model P w) A (.call (.ref f) ⟨us, []⟩) (CR (L2.CX P w) outer P w H s Q E) s
section
variable {P : Program} {w : World} {K : PySem.W.Frag} {mg : Str → Option Value} {base : Heap} {j k : Nat} {f : Addr} {fd : FuncData} {ps : List Str} {sp sp' : Sp}
theorem FnG.mono (F : FnG P w K mg base j f sp) (h : j ≤ k) : FnG P w K mg base k f sp := fun A o s H us vs Q E hr => F A o s H us vs Q E (hr.mono h)
theorem FnB.imp (F : FnB P w K mg base k f fd ps sp) (h : ∀ vs H Q E, sp' vs H Q E → sp vs H Q E) : FnB P w K mg base k f fd ps sp' :=
  ⟨fun vs H Q E q => F.len _ _ _ _ (h _ _ _ _ q), fun A o s H args us vs Q E hr e0 hb rv hs => F.run A o s H args us vs Q E hr e0 hb rv (h _ _ _ _ hs)⟩
theorem FnB.raw {ds : List Value} {dvs : List V} (F : FnB P w K mg base k f fd ps sp) (hb : Binds K fd ps ds) (hd : Vals dvs ds) : FnG P w K mg base k f (fun vs H Q E => sp (vs ++ dvs) H Q E) := by
  intro A o s H us vs Q E hr e0 rv hs
  have rr : Vals (vs ++ dvs) (us ++ ds) := rv.append hd
  exact F.run A o s H ⟨us, []⟩ (us ++ ds) (vs ++ dvs) Q E hr e0 (hb s us (e0.mod.kin.keeps fun b o' e => (e0.bs b o' e).1) (rr.length ▸ F.len _ _ _ _ hs)) rr hs
theorem FnB.raw0 (F : FnB P w K mg base k f fd ps sp) (hb : Binds K fd ps []) : FnG P w K mg base k f sp := by
  have h := F.raw hb (dvs := []) .nil
  intro A o s H us vs Q E hr e0 rv hs
  exact h A o s H us vs Q E hr e0 rv (by show sp (vs ++ []) H Q E; rw [List.append_nil]; exact hs)

/-- a def, from its body's walk -/
theorem fnB_of {name qual : Str} {params : Arguments} {body : List Stmt} {scope : Scope} {dV kV doc pm cdv ct oc : Value} {an od : Option Addr} {osl : Array (Option Value)} {N : List Str}
    (lk : K.lookup f = some ⟨oc, od, .func (PySem.W.fnOf name qual params body scope dV kV doc pm an cdv ct), osl⟩) (hcd : PySem.W.codeIn K cdv qual = true) (Sc : FnScope N ps scope) (len : ∀ vs H Q E, sp vs H Q E → vs.length = ps.length)
    (hb : ∀ (A : Around) (o : List Env) (s : Shared) (H : Hp) (vs : List V) (Q : VK) (E : XK), RG k (A.deeper (envOfC qual scope s.heap.objs.size f cdv)) → sp vs H Q E →
      ∃ t, PSs (cxOf (L2.CX P w) P w K mg base N qual scope f cdv A o s H E) body t ∧ t { nx := fun _ H' => Q .non H', rt := Q } (start N vs) H) :
    FnB P w K mg base (k + 1) f (PySem.W.fnOf name qual params body scope dV kV doc pm an cdv ct) ps sp := by
  refine ⟨len, fun A o s H args us vs Q E hr e0 bt rv hs => ?_⟩
  have hlen := len _ _ _ _ hs
  have kin : K.In s.heap := e0.mod.kin.keeps fun b o' e => (e0.bs b o' e).1
  have nol : s.heap.NoLimit := e0.mod.nolimit.keeps fun b o' e => (e0.bs b o' e).1
  refine codeAny_call_function hr.r.depth (kin _ _ lk) rfl Sc.co Sc.gen rfl (PySem.W.codeRec_of kin hcd) (bt _ _ _ _ (wpAny_newFunctionEnv_cells Sc.kind (fun y hy => ?_) fun env he s1 x => ?_))
  · obtain ⟨y1, y2⟩ := y
    exact (Sc.par y1 (List.of_mem_zip hy).1).elim .inl fun q => .inr ⟨q, PySem.W.cellsFrom_some _ _ _ (.inl q)⟩
  subst he
  refine ⟨nol.keeps x.toInCall.keep, codeAny_func ?_⟩
  obtain ⟨t, ht, q0⟩ := hb A o s H vs Q E (hr.deeper _) hs
  refine wpAny_mono (ht.run [] s1 (start N vs) H _ (inv_start Sc hr.r.hd e0 hlen rv x) q0) (fun fl s2 h2 => ?_) fun e s2 h2 => h2
  match fl, h2 with
  | .ret u, ⟨v, σ', H', J, rv2, q⟩ => exact ⟨v, H', J.os, J.bare, J.base, J.hok, rv2, q⟩
  | .next, ⟨σ', H', J, q⟩ => exact ⟨V.non, H', J.os, J.bare, J.base, J.hok, rfl, q⟩
  | .brk, ⟨_, _, _, q⟩ => exact q.elim
  | .cont, ⟨_, _, _, q⟩ => exact q.elim
theorem Fun.okG {x qual : Str} {st : Stmt} {N : List Str} (F : Fun K x qual st f fd) (Sc : FnScope N ps (defScope st)) (len : ∀ vs H Q E, sp vs H Q E → vs.length = ps.length)
    (hb : ∀ (cdv : Value) (A : Around) (o : List Env) (s : Shared) (H : Hp) (vs : List V) (Q : VK) (E : XK), RG k (A.deeper (envOfC qual (defScope st) s.heap.objs.size f cdv)) → sp vs H Q E →
      ∃ t, PSs (cxOf (L2.CX P w) P w K mg base N qual (defScope st) f cdv A o s H E) (defBody st) t ∧ t { nx := fun _ H' => Q .non H', rt := Q } (start N vs) H) : FnB P w K mg base (k + 1) f fd ps sp := by
  obtain ⟨oc, od, kV, doc, pm, an, cdv, ct, osl, rfl, lk, hcd⟩ := F.ex
  exact fnB_of lk hcd Sc len fun A o s H vs Q E hr hs => hb cdv A o s H vs Q E hr hs
end

section
variable {X : Cx} {k : Nat} {f C : Addr} {sp : Sp} {W : WX} {x m : Str} {p pos apos : Pos} {e o : Expr} {es : List Expr} {ta : TE} {t : TA}
/-- how a call ends -/
def EndG (X : Cx) (pins : List (Addr × Obj)) (σ : L2.St) (Q : VK) : Result → Shared → Prop
  | .error er, s' => X.xe er s'
  | .ok (.ret u), s' => EP X pins σ Q u s'
  | .ok _, _ => False
theorem ce_end {pins : List (Addr × Obj)} {σ : L2.St} {H : Hp} {s : Shared} {Q : VK} (tk : Takes X W) (I : Inv X pins σ H s) {r : Result} {s' : Shared} (h : CR (L2.CX X.prog X.w) X.stack X.prog X.w H s Q (WE W σ) r s') : EndG X pins σ Q r s' := by
  cases r with
  | error er => exact passAt tk σ pins H s er s' I h
  | ok fl =>
    cases fl with
    | ret u => exact I.after h
    | _ => exact h.elim
/-- the called one runs -/
theorem run_g {pins : List (Addr × Obj)} {σ : L2.St} {H : Hp} {s : Shared} {Q : VK} {us : List Value} {vs : List V} (F : FnG X.prog X.w X.K X.mg X.base k f sp) (hr : RG k X.A) (tk : Takes X W) (I : Inv X pins σ H s) (rv : Vals vs us) (h : sp vs H Q (WE W σ)) :
    wpAny (model X.prog X.w) X.A (call (.ref f) us) (EP X pins σ Q) X.xe s := by
  refine wpAny_call (codeAny_mono (F X.A X.stack s H us vs Q _ hr I.env0 rv h) fun r s' hq => ?_)
  have q := ce_end tk I hq
  clear hq
  rcases r with er | (u | _ | _ | _) <;> first | exact q | exact q.elim
def tCallG (sp : Sp) (W : WX) (t : TA) : TE := fun σ H Q => t σ H fun vs H1 => sp vs H1 Q (WE W σ)
theorem pe_callG (F : FnG X.prog X.w X.K X.mg X.base k f sp) (hr : RG k X.A) (tk : Takes X W) (hg : Gl X x) (hm : X.mg x = some (.ref f)) (hk : PySem.W.keepIn X.K (.ref f) = true)
    (ha : PA X (e :: es) t) (hdb : (x == ("__debug__" : Str)) = false := by decide) (he : starEach (e :: es) X.env = (false, eval e X.env) :: starEach es X.env := by rfl) (hpl : (backTo pos (starEach es X.env)).any (·.1) = false := by rfl) :
    PE X (.Call (.Name x p) (e :: es) [] pos) (tCallG sp W t) :=
  ⟨fun pins s σ H Q I h => wpAny_Call_Name_kw (ld_glob I hg hm (PySem.W.callWith_K (h₀ := X.base) I.ok.mod.kin hk (thn (ha.run pos pins s σ H _ I h) fun us s1 ⟨vs, H1, I1, r, q⟩ => ⟨I1.kIn, run_g F hr tk I1 r q⟩) he hpl) hdb)⟩
theorem pe_callG0 (F : FnG X.prog X.w X.K X.mg X.base k f sp) (hr : RG k X.A) (tk : Takes X W) (hg : Gl X x) (hm : X.mg x = some (.ref f)) (hk : PySem.W.keepIn X.K (.ref f) = true)
    (hdb : (x == ("__debug__" : Str)) = false := by decide) : PE X (.Call (.Name x p) [] [] pos) (tCallG sp W tNil) :=
  ⟨fun pins s σ H Q I h => wpAny_Call_Name_kw (ld_glob I hg hm (PySem.W.callWith_K0 I.kIn hk (run_g (us := []) F hr tk I .nil h)) hdb)⟩
def tMethG (C : Addr) (m : Str) (sp : Sp) (W : WX) (ta : TE) (t : TA) : TE := fun σ H Q => ta σ H fun x H1 => ∃ a dx fs, x = .ref a ∧ H1 a = some (.ins C dx fs) ∧ fs.lookup m = none ∧ t σ H1 fun vs H2 => sp (x :: vs) H2 Q (WE W σ)
theorem pe_methG {pl : Sem Bool} (he : PE X o ta) (c : Cls X.K C) (hm : Meth X.K C m f) (F : FnG X.prog X.w X.K X.mg X.base k f sp) (hr : RG k X.A) (tk : Takes X W) (ha : PA X (e :: es) t)
    (hst : starEach (e :: es) X.env = (false, eval e X.env) :: starEach es X.env := by rfl) (hpl : (backTo pos (starEach es X.env)).any (·.1) = false := by rfl)
    (ht : eval (.Call (.Attribute o m apos) (e :: es) [] pos) X.env = (do
      let ov ← eval o X.env; standAt apos.atName
      let (f, first) ← holding [ov] (getMethod ov m pl); callWith pos f first (backTo pos (starEach (e :: es) X.env)) (backToKw pos (keywordEach [] X.env))) := by rfl) :
    PE X (.Call (.Attribute o m apos) (e :: es) [] pos) (tMethG C m sp W ta t) := by
  refine ⟨fun pins s σ H Q I h => PySem.W.methodCall_KW (pl := pl) (thn (he.run pins s σ H _ I h) fun u s1 ⟨y, H1, I1, ry, a, dx, fs, ey, ea, l, q⟩ => ?_) ht⟩
  subst ey
  cases (show u = Value.ref a from ry)
  exact getmeth_ok I1 ea c hm l (PySem.W.callWith_K (first := [.ref a]) (h₀ := X.base) I.ok.mod.kin hm.kp (thn (ha.run pos pins s1 σ H1 _ I1 q) fun us s2 ⟨vs, H2, I2, r, q2⟩ => ⟨I2.kIn, run_g (us := .ref a :: us) (vs := .ref a :: vs) F hr tk I2 (.cons rfl r) q2⟩) hst hpl)
theorem pe_methG0 {pl : Sem Bool} (he : PE X o ta) (c : Cls X.K C) (hm : Meth X.K C m f) (F : FnG X.prog X.w X.K X.mg X.base k f sp) (hr : RG k X.A) (tk : Takes X W)
    (ht : eval (.Call (.Attribute o m apos) [] [] pos) X.env = (do
      let ov ← eval o X.env; standAt apos.atName
      let (f, first) ← holding [ov] (getMethod ov m pl); callWith pos f first (backTo pos (starEach [] X.env)) (backToKw pos (keywordEach [] X.env))) := by rfl) :
    PE X (.Call (.Attribute o m apos) [] [] pos) (tMethG C m sp W ta tNil) := by
  refine ⟨fun pins s σ H Q I h => PySem.W.methodCall_KW (pl := pl) (thn (he.run pins s σ H _ I h) fun u s1 ⟨y, H1, I1, ry, a, dx, fs, ey, ea, l, q⟩ => ?_) ht⟩
  subst ey
  cases (show u = Value.ref a from ry)
  exact getmeth_ok I1 ea c hm l (PySem.W.callWith_K0 (first := [.ref a]) I1.kIn hm.kp (run_g (us := [.ref a]) (vs := [.ref a]) F hr tk I1 (.cons rfl .nil) q))
/-- C(..) -/
theorem run_makeG {pins : List (Addr × Obj)} {σ : L2.St} {H : Hp} {s : Shared} {Q : VK} {us : List Value} {vs : List V} (M : Mk X.K C f) (F : FnG X.prog X.w X.K X.mg X.base k f sp) (hr : RG (k + 1) X.A) (tk : Takes X W) (I : Inv X pins σ H s) (rv : Vals vs us)
    (h : ∀ x dx, H x = none → H dx = none → dx ≠ x → sp (.ref x :: vs) (upd (upd H dx (.own x)) x (.ins C dx [])) (fun v H2 => v = .non ∧ Q (.ref x) H2) (WE W σ)) :
    wpAny (model X.prog X.w) X.A (call (.ref C) us) (EP X pins σ Q) X.xe s := by
  have h0 := h (s.heap.objs.size + 1) s.heap.objs.size (I.hok.fresh (Nat.le_succ _)) (I.hok.fresh (Nat.le_refl _)) (Nat.ne_of_lt (Nat.lt_succ_self _))
  have I2 := Inv.made (C := C) I
  refine wpAny_call (make_map (f := f) I.kIn M.makes M.init (beq_iff_eq.mp M.fn) (codeAny_mono (F _ X.stack _ _ (Value.ref (s.heap.objs.size + 1) :: us) (V.ref (s.heap.objs.size + 1) :: vs) _ _ (hr.make C us) (I2.env0.make C us []) (.cons rfl rv) h0) fun r s' hq => ?_))
  have q := ce_end tk I2 hq
  clear hq
  cases r with
  | error er => exact q
  | ok fl =>
    cases fl with
    | ret u =>
      obtain ⟨v, H', I3, rv2, ev, q3⟩ := q
      subst ev
      exact ⟨rv2, V.ref (s.heap.objs.size + 1), H', I3, rfl, q3⟩
    | _ => exact q.elim
def tMakeG (C : Addr) (sp : Sp) (W : WX) (t : TA) : TE := fun σ H Q => t σ H fun vs H1 => ∀ x dx, H1 x = none → H1 dx = none → dx ≠ x →
  sp (.ref x :: vs) (upd (upd H1 dx (.own x)) x (.ins C dx [])) (fun v H2 => v = .non ∧ Q (.ref x) H2) (WE W σ)
theorem pe_makeG (M : Mk X.K C f) (F : FnG X.prog X.w X.K X.mg X.base k f sp) (hr : RG (k + 1) X.A) (tk : Takes X W) (hg : Gl X x) (hm : X.mg x = some (.ref C))
    (ha : PA X (e :: es) t) (hdb : (x == ("__debug__" : Str)) = false := by decide) (he : starEach (e :: es) X.env = (false, eval e X.env) :: starEach es X.env := by rfl) (hpl : (backTo pos (starEach es X.env)).any (·.1) = false := by rfl) :
    PE X (.Call (.Name x p) (e :: es) [] pos) (tMakeG C sp W t) :=
  ⟨fun pins s σ H Q I h => wpAny_Call_Name_kw (ld_glob I hg hm (PySem.W.callWith_K (h₀ := X.base) I.ok.mod.kin M.kp (thn (ha.run pos pins s σ H _ I h) fun us s1 ⟨vs, H1, I1, r, q⟩ => ⟨I1.kIn, run_makeG M F hr tk I1 r q⟩) he hpl) hdb)⟩
theorem pe_makeG0 (M : Mk X.K C f) (F : FnG X.prog X.w X.K X.mg X.base k f sp) (hr : RG (k + 1) X.A) (tk : Takes X W) (hg : Gl X x) (hm : X.mg x = some (.ref C))
    (hdb : (x == ("__debug__" : Str)) = false := by decide) : PE X (.Call (.Name x p) [] [] pos) (tMakeG C sp W tNil) :=
  ⟨fun pins s σ H Q I h => wpAny_Call_Name_kw (ld_glob I hg hm (PySem.W.callWith_K0 I.kIn M.kp (run_makeG (us := []) M F hr tk I .nil h)) hdb)⟩
end

section
variable {X : Cx} {k : Nat} {C p g a dx : Addr} {fs : List (Str × V)} {f : Str} {sp : Sp} {W : WX} {e : Expr} {pos : Pos} {ta : TE}
/-- o.f, a property -/
def tPropG (C : Addr) (sp : Sp) (ta : TE) : TE := fun σ H Q => ta σ H fun x H1 => ∃ a dx fs, x = .ref a ∧ H1 a = some (.ins C dx fs) ∧ sp [.ref a] H1 Q fun _ _ _ => False
theorem pe_propG (he : PE X e ta) (c : Cls X.K C) (hp : PropOf X.K C f p g) (F : FnG X.prog X.w X.K X.mg X.base k g sp) (hr : RG (k + 1) X.A)
    (hab : attributeBase e f X.env (eval e X.env) = eval e X.env) : PE X (.Attribute e f pos) (tPropG C sp ta) := by
  refine ⟨fun pins s σ H Q I h => attr_of hab (thn (he.run pins s σ H _ I h) fun u s1 ⟨y, H1, I1, ry, a, dx, fs, ey, ea, q⟩ => ?_)⟩
  subst ey
  cases (show u = Value.ref a from ry)
  obtain ⟨mA, O, _, _, _, _⟩ := ins_get I1.hok ea
  obtain ⟨od, J, _⟩ := O.look
  obtain ⟨rest, hrec⟩ := hp.rec_
  have hc : (PySem.W.clsIn X.K C).isSome = true := (PySem.W.any_some c.hd).elim fun cd z => by rw [z.1]; rfl
  have I2 := I1.tok (s1.toks + 1)
  refine PySem.W.get_bind I1.kIn J (PySem.W.plainGet_of (c.get f)).1 (PySem.W.findObj_data hc hp.at_ hp.get hp.tak) (PySem.W.plainGet_of (c.get f)).2
    (wpAny_call (PySem.W.prop_get (s := { s1 with toks := s1.toks + 1 }) I1.kIn hrec ?_))
  refine codeAny_mono (F X.A.in1 X.stack _ H1 [.ref a] [.ref a] _ _ hr.in1 I2.env0.in1 (.cons rfl .nil) q) fun r s' hq => ?_
  cases r with
  | error er =>
    obtain ⟨_, _, _, _, _, _, _, _, _, _, _, _, z⟩ := hq
    exact z.elim
  | ok fl =>
    cases fl with
    | ret u =>
      obtain ⟨v, H', I3, rv, q3⟩ := I2.after hq
      show wpAny _ _ (handedOut u) _ _ _
      rw [PySem.W.handedOut_of (handed_of rv)]
      exact wpAny_pure ⟨v, H', I3, rv, q3⟩
    | _ => exact hq.elim
end

/-! ### the law's own call -/
theorem lawG {P : Program} {w : World} {K : PySem.W.Frag} {mg mb : Str → Option Value} {k : Nat} {fa a : Addr} {fd : FuncData} {x : Str} {sp : Sp} {s1 : Shared} {vs : List Value} {ns : List Int}
    (kin : K.In s1.heap) (nsm : s1.heap.Ns mainGlobals mg) (nsb : s1.heap.Ns builtinsNs mb) (bb : ∀ x : Str, x ≠ "__name__" → mb x = bootBuiltins x) (nol : s1.heap.NoLimit) (gens : s1.gens = #[])
    (ha : s1.heap.get? a = some { cls := .type "list", data := .seq vs.toArray }) (hi : IntsAre vs ns) (hl : ns.length ≤ sizeLine) (hr : RG k callerA)
    (F : ∀ base : Heap, K.In base → base.Ns mainGlobals mg → FnB P w K mg base k fa fd [x] sp) (bt : ∀ (s : Shared) (u : Value), BindsTo s fd ⟨[u], []⟩ [(x, u)])
    (hsp : ∀ H : Hp, Only H → SqL K H a (ns.map V.int) → sp [.ref a] H (fun v _ => v = .bl true) fun _ _ _ => False) :
    codeAny (model P w) callerA (.call (.ref fa) ⟨[.ref a], []⟩) (fun r s' => r = .ok (.ret (.bool true)) ∧ OldK s1.heap s'.heap ∧ s'.os = s1.os ∧ AllBare s'.gens) s1 := by
  have valsI := vals_ints hi
  have go : ∀ H : Hp, Only H → SqL K H a (ns.map V.int) → HOk P w H s1.heap → (∀ b, H b ≠ none → b = a ∧ K.lookup a = none) →
      codeAny (model P w) callerA (.call (.ref fa) ⟨[.ref a], []⟩) (fun r s' => r = .ok (.ret (.bool true)) ∧ OldK s1.heap s'.heap ∧ s'.os = s1.os ∧ AllBare s'.gens) s1 := by
    intro H only sq hok away
    have nil_of : ∀ {b : Addr}, b ≠ a → H b = none := fun {b} nb => by
      cases hb : H b with
      | none => rfl
      | some u => exact absurd (away b (by rw [hb]; exact fun z => nomatch z)).1 nb
    have hidNs : ∀ {b : Addr} {m : Str → Option Value}, s1.heap.Ns b m → (hidT s1.heap H).Ns b m := fun {b m} ⟨o, es, ep, e, d, r⟩ =>
      ⟨o, es, ep, hidT_get e (nil_of fun q => by subst q; rw [ha] at e; cases e; exact Data.noConfusion d), d, r⟩
    have hidK : K.In (hidT s1.heap H) := fun b o e => hidT_get (kin b o e) (by
      cases hb : H b with
      | none => rfl
      | some u =>
        obtain ⟨rfl, z⟩ := away b (by rw [hb]; exact fun z => nomatch z)
        rw [z] at e; cases e)
    have md : Mod K mg (hidT s1.heap H) := ⟨hidK, hidNs nsm, ⟨mb, hidNs nsb, bb⟩, nol.elim fun mc z => ⟨mc, hidNs z.1, z.2⟩⟩
    have en : Env0 P w K mg (hidT s1.heap H) callerA [] s1 H := ⟨rfl, md, fun b o e => of_hidT e, Nat.le_of_eq (hidT_size _ _), trivial, (fun b hb => nomatch hb), hok, .of_eq gens⟩
    refine codeAny_mono ((F _ hidK (hidNs nsm)).run callerA [] s1 H ⟨[.ref a], []⟩ [.ref a] [.ref a] _ _ hr en (bt s1 (.ref a)) (.cons rfl .nil) (hsp H only sq)) fun r s' h => ?_
    cases r with
    | error e =>
      obtain ⟨_, _, _, _, _, _, _, _, _, _, _, _, z⟩ := h
      exact z.elim
    | ok fl =>
      cases fl with
      | ret u =>
        obtain ⟨v, H', os, bare, un, hok', rv, (rfl : v = .bl true)⟩ := h
        cases (show u = Value.bool true from rv)
        refine ⟨rfl, OldK.of_keep fun b o e => ?_, os, bare⟩
        rcases only b with z | ⟨ob, xs, z⟩
        · exact un.keep b o e z (fun q => nomatch q) (by simp)
        · obtain ⟨e1, _⟩ := hok b _ z
          obtain ⟨e2, _⟩ := hok' b _ (un.frzs b ob _ z)
          rw [e] at e1
          cases e1
          exact e2
      | _ => exact h.elim
  cases hk : K.lookup a with
  | some o =>
    have e := kin a o hk
    rw [ha] at e
    cases e
    exact go (fun _ => none) (fun _ => .inl rfl) (.inr ⟨_, vs.toArray, _, hk, rfl, rfl, rfl, by rw [List.size_toArray, hi.length]; exact hl, by simpa using valsI⟩) (fun b u z => nomatch z) fun b z => absurd rfl z
  | none =>
    have at_ : ∀ b, (if b = a then some (HO.frz { cls := .type "list", data := .seq vs.toArray } (.lst (ns.map V.int))) else none) ≠ none → b = a := fun b z => by
      by_cases q : b = a
      · exact q
      · rw [if_neg q] at z; exact absurd rfl z
    refine go (fun b => if b = a then some (.frz { cls := .type "list", data := .seq vs.toArray } (.lst (ns.map V.int))) else none) (fun b => ?_) (.inl (.inr ⟨_, if_pos rfl⟩)) (fun b u z => ?_) fun b z => ⟨at_ b z, hk⟩
    · by_cases q : b = a
      · exact .inr ⟨_, _, if_pos q⟩
      · exact .inl (if_neg q)
    · have q := at_ b (fun y => by have z2 := y.symm.trans z; cases z2)
      subst q
      have z2 := (if_pos rfl).symm.trans z
      cases z2
      exact ⟨ha, by rw [List.length_map]; exact hl, vs, _, valsI, ha⟩
theorem walkG_of {l : PySem.W.OpenLaw} {n k : Nat} {q : Program} {loose : List Str} {XP : (Str → Option Value) → Heap → Prop} {YP : World → Heap → Prop} {d : DefRec} {K : Params → PySem.W.Frag} {sp : World → Sp} {x : Str}
    (hn : l.most = some n) (hn2 : n ≤ sizeLine) (hdf : d.params.defaults = []) (hr : RG k callerA) (hY : ∀ (w : World) (h : Heap), YP w h → (K w.params).In h)
    (F : ∀ (w : World) (mg : Str → Option Value) (fa : Addr) (h : Heap), (K w.params).In h → h.Ns mainGlobals mg → mg d.name = some (.ref fa) →
      ∃ fd : FuncData, (∀ (s : Shared) (u : Value), BindsTo s fd ⟨[u], []⟩ [(x, u)]) ∧ ∀ base : Heap, (K w.params).In base → base.Ns mainGlobals mg → FnB l.prog w (K w.params) mg base k fa fd [x] (sp w))
    (hsp : ∀ (w : World) (H : Hp) (a : Addr) (ns : List Int), ns.length ≤ n → Only H → SqL (K w.params) H a (ns.map V.int) → sp w [.ref a] H (fun v _ => v = .bl true) fun _ _ _ => False) :
    PySem.W.WalkO q loose XP YP l.row.toRowW d [] (fun f vs => PySem.call f vs) := by
  refine Att.attach_call hn hdf fun w s0 s1 mg mb fa o pm cd doc a vs ns G Y ho hd hcd hmg hobj hints hlen hg => ?_
  obtain ⟨fd, bt, hF⟩ := F w mg fa _ (hY w _ Y) G.T.g hmg
  exact lawG (hY w _ Y) G.T.g G.T.b G.T.builtins G.T.nolimit hg hobj hints (Nat.le_trans hlen hn2) hr hF bt fun H hO hS => hsp w H a ns hlen hO hS
end FB

/-! sorted(.., key=str) -/
namespace FB
open PySem PySem.Spec PySem.W PyProof.Rows L2
section
variable {prog : Program} {w : World} {A : Around} {E : Value → Shared → Prop} {s : Shared}
/-- a dict's keys in a row, whatever they are -/
theorem walks_raw (hh : A.handled = none) (I d : Addr) (hne : d ≠ I) {od : Obj} {es : Array DictEntry} {ep : Nat} (hd : od.data = .dict es ep) :
    Walks prog w A I [I, d] [I] es.size (fun i v => ∃ en, es[i]? = some en ∧ v = en.key) (fun i h => h.IsKeyIter I d i es.size ep ∧ h.get? d = some od) where
  sub := fun b hb => by simp at hb; simp [hb]
  frame := fun _ _ _ st hk => ⟨st.1.at fun o e => hk I (by simp) o e, hk d (by simp) _ st.2⟩
  item := fun i s Q E hi st hQ => by
    refine next_key_item st.1 st.2 hd rfl (Array.getElem?_eq_getElem hi) fun h' it' sb => ?_
    exact hQ _ h' s.toks ⟨_, Array.getElem?_eq_getElem hi, rfl⟩ ⟨it', (sb.2 d hne).trans st.2⟩ fun b o hb e => (sb.2 b (fun z => hb (by simp [z]))).trans e
  done := fun s Q E st hQ => next_key_end hh st.1 st.2 hd rfl (Nat.le_refl _) fun h' eb => hQ h' s.toks fun b o hb e => eb b o (fun z => hb (by simp [z])) e
  self := fun _ _ _ _ st hQ => wpAny_pyIter_keyiter st.1 hQ
theorem src_raw {d : Addr} {od : Obj} {es : Array DictEntry} {ep : Nat} (lo : (d == sysModules) = false) (hx : od.ExactDict) (hd : od.data = .dict es ep) :
    KdlSrc prog w "dict" d d es.size (fun i v => ∃ en, es[i]? = some en ∧ v = en.key) (fun h => h.get? d = some od) where
  type := fun _ h => ⟨_, h, hx.1⟩
  there := fun _ h => ⟨Heap.lt_size h, Heap.lt_size h⟩
  keep := fun _ _ h k => k d (.inl rfl) _ h
  notList := by decide
  notTuple := by decide
  hint := fun _ _ _ _ h q => kdl_hint_dict ⟨_, h, hx.1⟩ q
  iter := fun A s hh h => ⟨_, _, (fun _ _ q => iter_keys lo h hx hd q), walks_raw hh _ d (Nat.ne_of_lt (Heap.lt_size h)) hd, ⟨⟨_, Heap.get?_push_size _ rfl, rfl, rfl⟩, Heap.get?_push_of_some _ h⟩⟩
/-- sorted(r, key=f): r a thing whose items are collected -/
theorem sorted_keyed {β : Type} (k : β → PyData) {r : Addr} {bs : List β} {R : Value → β → Prop} {f : Value} {Q : Value → Shared → Prop}
    (col : ∀ (C : List Value → Shared → Prop), (∀ h' tk vs, (∀ b o, s.heap.get? b = some o → h'.get? b = some o) → EachIs R vs bs → C vs { s with heap := h', toks := tk }) → wpAny (model prog w) A.in1 (collect (.ref r)) C E s)
    (hal : AllAlike (bs.map k)) (hk : Sortable (bs.map k)) (hL : bs.length ≤ sizeLine) (hu : ∀ x, x ∈ bs → A.units + 2 + (k x).depth < cLine) (ht : ∀ x, Builtin.«list.sort» ⟨[.ref x], [(Str.ofString "key", f)]⟩ = ksk_tree x f false)
    (turn : ∀ (v : Value) (x : β), R v x → x ∈ bs → ∀ (h : Heap) (tk : Nat), (∀ b o, s.heap.get? b = some o → h.get? b = some o) → wpAny (model prog w) A.in1.in1 (call f [v]) (KeyPure (k x) { s with heap := h, toks := tk }) (fun _ _ => False) { s with heap := h, toks := tk })
    (h : ∀ (h1 : Heap) (L : Addr) (out : List Value) (c : Nat) (h' : Heap) (tk : Nat), (∀ b o, s.heap.get? b = some o → h1.get? b = some o) → (∀ b o, h1.get? b = some o → h'.get? b = some o) → L = h1.objs.size → h'.get? L = some (seqObj "list" (List.toArray out) c) → EachIs R out (bs.mergeSort (dataLe false k)) → Q (.ref L) { s with heap := h', toks := tk }) :
    wpAny (model prog w) A (call (.builtin "sorted") [.ref r] [(Str.ofString "key", f)]) Q E s := by
  refine call_function_entry_kw kind_sorted plain_sorted entry_sorted (ksk_s1 _ _) ?_
  unfold Builtin.«sorted»
  refine wpAny_bind (m := checkCount "sorted" 1 1 _) (wpAny_pure ?_)
  refine wpAny_bind (col _ fun h1 tk1 vs keep1 each => ?_)
  have hlen : vs.length ≤ sizeLine := by rw [each.length]; exact hL
  refine wpAny_bind (wpAny_newList ?_ hlen)
  have at0 : (h1.push (seqObj "list" vs.toArray 0)).get? h1.objs.size = some (seqObj "list" vs.toArray 0) := Heap.get?_push_size _ rfl
  have up : ∀ {g : Heap}, KeepsBut h1.objs.size (h1.push (seqObj "list" vs.toArray 0)) g → ∀ b o, s.heap.get? b = some o → g.get? b = some o := fun {g} kp b o e =>
    kp b o (Nat.ne_of_lt (Heap.lt_size (keep1 b o e))) (Heap.get?_push_of_some _ (keep1 b o e))
  refine wpAny_bind (wpAny_holding (wpAny_call_entry_kw slot_list_sort ⟨_, at0, rfl⟩ entry_list_sort ?_ (ksk_l1 _ _)))
  show wpAny (model prog w) A.in1.in1 (Builtin.«list.sort» ⟨[.ref h1.objs.size], [(Str.ofString "key", f)]⟩) _ _ { s with heap := h1.push (seqObj "list" vs.toArray 0), toks := tk1 }
  rw [ht]
  refine keyH_tree (kz := bs.map k) at0 (by rw [List.length_map]; exact each.length.symm) hlen hal hk (bound_map (A := A.in1.in1) hu)
    (keyH_turns (s := { s with heap := h1.push (seqObj "list" vs.toArray 0), toks := tk1 }) each fun v x hR hx h tk kp => turn v x hR hx h tk (up kp)) fun h' tk out c kp hD ko => ⟨_, rfl, ?_⟩
  exact wpAny_pure ⟨_, rfl, h h1 _ out c h' tk keep1 (fun b o e => kp b o (Nat.ne_of_lt (Heap.lt_size e)) (Heap.get?_push_of_some _ e)) rfl hD (keyedOut_each k ko each)⟩
end

/-- str(x) is t: x a text, or data that shows as t -/
def ShowsAs (K : PySem.W.Frag) (H : Hp) (x : V) (t : Str) : Prop :=
  x = .str t ∨ ∃ b d, x = .ref b ∧ Dp K H (.ref b) d ∧ d.showable = true ∧ d.hasDict = false ∧ d.shown = t ∧ t.length ≤ sizeLine ∧ d.depth ≤ 60
def SortEnd (K : PySem.W.Frag) (ps : List (V × Str)) (H : Hp) (Q : VK) : Prop :=
  (∀ p ∈ ps, ShowsAs K H p.1 p.2) ∧ ps.length ≤ sizeLine ∧ ∀ L, H L = none → Q (.ref L) (upd H L (.lst ((ps.mergeSort fun p q => leK p.2 q.2).map Prod.fst)))
def rSortKey (K : PySem.W.Frag) : List V → List V → Hp → VK → Prop := fun vs zs H Q => ∃ a, vs = [V.ref a] ∧ zs = [V.ty "str"] ∧
  ((∃ ps, SqL K H a (ps.map Prod.fst) ∧ SortEnd K ps H Q) ∨
   (∃ kvs ps, Rd H a (.dK kvs) ∧ ps.map Prod.fst = kvs.map (fun kv => kV kv.1) ∧ SortEnd K ps H Q) ∨
   (∃ kvs, Rd H a (.dT kvs) ∧ ∀ as : List Addr, as.length = kvs.length → (∀ (i : Nat) (k : List Key) (v : V) (q : Addr), kvs[i]? = some (k, v) → as[i]? = some q → H q = some (.tup (k.map kV))) → ∃ ps, ps.map Prod.fst = as.map V.ref ∧ SortEnd K ps H Q))
theorem vals_each {ps : List (V × Str)} {us : List Value} (r : Vals (ps.map Prod.fst) us) : EachIs (fun (v : Value) (b : V × Str) => RelV b.1 v) us ps := by
  induction ps generalizing us with
  | nil => cases r; exact .nil
  | cons p ps ih => cases r with | cons h t => exact .cons h (ih t)
theorem each_vals {ps : List (V × Str)} {us : List Value} (r : EachIs (fun (v : Value) (b : V × Str) => RelV b.1 v) us ps) : Vals (ps.map Prod.fst) us := by
  induction r with
  | nil => exact .nil
  | cons h _ ih => exact .cons h ih
theorem dataLe_str : (dataLe false fun b : V × Str => PyData.str b.2) = fun p q => leK p.2 q.2 := by
  funext p q
  show (!((decide (q.2.cps.toList < p.2.cps.toList)) || ((!(decide (p.2.cps.toList < q.2.cps.toList))) && false))) = (!decide (q.2.cps.toList < p.2.cps.toList))
  rw [Bool.and_false, Bool.or_false]
theorem refs_vals : ∀ xs : List (List Key × Addr × Value), Vals ((xs.map fun x => x.2.1).map V.ref) (xs.map fun x => Value.ref x.2.1)
  | [] => .nil
  | _ :: xs => .cons rfl (refs_vals xs)
section
variable {X : Cx} {k : Nat}
theorem cr_sortKey (hr : RG k X.A) : CallRK X (.builtin "sorted") [Str.ofString "key"] (rSortKey X.K) := by
  intro pins s σ H vs zs us ws Q I r rz h
  obtain ⟨a, rfl, rfl, h⟩ := h
  obtain rfl := Vals.ref1 r
  obtain ⟨w1, rfl, e1⟩ := vals1 rz
  cases (show w1 = Value.type "str" from e1)
  have hu := hr.r.un
  have hh : X.A.in1.handled = none := hr.r.hd
  have main : ∀ (ps : List (V × Str)), SortEnd X.K ps H Q →
      (∀ (C : List Value → Shared → Prop), (∀ h' tk vs, (∀ b o, s.heap.get? b = some o → h'.get? b = some o) → Vals (ps.map Prod.fst) vs → C vs { s with heap := h', toks := tk }) → wpAny (model X.prog X.w) X.A.in1 (collect (.ref a)) C X.xe s) →
      wpAny (model X.prog X.w) X.A (call (.builtin "sorted") [.ref a] [(Str.ofString "key", .type "str")]) (EP X pins σ Q) X.xe s := by
    intro ps e col
    obtain ⟨sh, hz, q⟩ := e
    refine sorted_keyed (fun b : V × Str => PyData.str b.2) (bs := ps) (R := fun v b => RelV b.1 v) (fun C hC => col C fun h' tk vs kp vv => hC h' tk vs kp (vals_each vv)) ?_ ?_ hz ?_ (fun x => by first | rfl | kernel_rfl) ?_ ?_
    · intro d hd d' hd'
      obtain ⟨_, _, rfl⟩ := List.mem_map.mp hd
      obtain ⟨_, _, rfl⟩ := List.mem_map.mp hd'
      first | rfl | simp [alike]
    · refine .inr fun d hd => ?_
      obtain ⟨_, _, rfl⟩ := List.mem_map.mp hd
      exact ⟨(fun z => nomatch z), fun _ z => nomatch z⟩
    · intro x _
      have : (PyData.str x.2).depth = 0 := by first | rfl | simp [PyData.depth]
      rw [this]; omega
    · intro v x hx hm h tk kp
      rcases sh x hm with e | ⟨b, d, e, dp, s1, s2, s3, s4, s5⟩
      · rw [e] at hx
        obtain ⟨t, rfl⟩ := hx
        exact P.str_of_str ⟨h, tk, rfl, fun _ _ z => z, .str _ _⟩
      · rw [e] at hx
        obtain ⟨as, rd⟩ := Dp.reads I d _ v dp hx
        cases (show v = Value.ref b from hx)
        refine str_of_reads rd s1 (fun z => by rw [s2] at z; cases z) hr.g (by show X.A.units + 1 + 1 + (d.depth + 3) < cLine; omega) kp (fun h' u tk' kk => ?_) (by rw [s3]; exact s4)
        rw [s3]
        exact ⟨h', tk', rfl, kk, .str _ _⟩
    · intro h1 L out c h' tk k1 k2 eL at_ each
      subst eL
      rw [dataLe_str] at each
      have I1 : Inv X pins σ H { s with heap := h1, toks := tk } := I.kept k1
      have vv := each_vals each
      refine ⟨.ref _, _, I1.laid (a := h1.objs.size) (o := .lst ((ps.mergeSort fun p q => leK p.2 q.2).map Prod.fst)) (t' := tk) k2 (Nat.le_refl _) ⟨?_, out, c, vv, at_⟩, rfl, q _ (I1.hok.fresh (Nat.le_refl _))⟩
      rw [List.length_map, (List.mergeSort_perm _ _).length_eq]; exact hz
  rcases h with ⟨ps, hs, e⟩ | ⟨kvs, ps, hd, hps, e⟩ | ⟨kvs, hd, e⟩
  · obtain ⟨its, rv, hl, hz⟩ := I.list hs
    refine main ps e fun C hC => collect_list hl.isList (hC _ _ its (fun b o q => ?_) rv) (by rw [← rv.length]; exact hz)
    rw [Heap.get?_update_ne _ _ _ _ (Nat.ne_of_lt (Heap.lt_size q))]
    exact Heap.get?_push_of_some _ q
  · obtain ⟨z, lo, vs, rel, dd⟩ := dk_rd I.hok hd
    obtain ⟨ep, hat⟩ := dd.dictAt
    have ek : ps.map Prod.fst = vs.map fun p => kV p.1 := by
      rw [hps]
      have e := congrArg (List.map kV) rel.keys
      rw [List.map_map, List.map_map] at e
      exact e
    refine main ps e fun C hC => kdu_collect (kdl_dict (knd := mixKind X.prog X.w) (kvs := vs) (ep := ep) lo) hh hat (by rw [← rel.length]; exact z) fun h' tk acc kp hacc => hC h' tk _ kp ?_
    rw [ek]
    exact keys_at (by rw [Array.length_toList]; exact hacc.1) fun j v e => hacc.2 j v (by rw [← Array.getElem?_toList]; exact e)
  · obtain ⟨z, lo, xs, pr, o, es, ep, ho, hx, hdt, he, _⟩ := (show ObjOk X.prog X.w H s.heap a (.dT kvs) from hd.ok I.hok)
    have l2 : kvs.length = xs.length := Paired.length pr
    have l1 : es.size = xs.length := size_of_entries he
    obtain ⟨ps, hps, e⟩ := e (xs.map fun x => x.2.1) (by rw [List.length_map, l2]) fun i kk v q h1 h2 => by
      obtain ⟨b, hb, e1, e2, _⟩ := paired_get pr h1
      rw [List.getElem?_map, hb] at h2
      cases h2
      have e1' : kk = b.1 := e1
      rw [e1']
      have e2' : H b.2.1 = some (.tup (kk.map kV)) := e2
      rw [e1'] at e2'
      exact e2'
    refine main ps e fun C hC => kdu_collect (src_raw lo hx hdt) hh ho (by rw [l1, ← l2]; exact z) fun h' tk acc kp hacc => hC h' tk _ kp ?_
    rw [hps]
    have ea : acc.toList = xs.map fun x => Value.ref x.2.1 := by
      refine List.ext_getElem? fun i => ?_
      rw [List.getElem?_map]
      by_cases hi : i < acc.toList.length
      · obtain ⟨en, e1, e2⟩ := hacc.2 i acc.toList[i] (by rw [← Array.getElem?_toList]; exact List.getElem?_eq_getElem hi)
        rw [List.getElem?_eq_getElem hi, e2]
        have e3 := entry_at he i
        rw [e1] at e3
        cases hx : xs[i]? with
        | none => rw [hx] at e3; cases e3
        | some x =>
          rw [hx] at e3
          cases e3
          rfl
      · have hn : xs.length ≤ i := by
          rw [Array.length_toList, hacc.1, l1] at hi; omega
        rw [List.getElem?_eq_none (Nat.le_of_not_lt hi), List.getElem?_eq_none hn]; rfl
    rw [ea]
    exact refs_vals xs
end
end FB

/-! data compared: ==, !=, in, at any depth -/
namespace FB
open PySem L2
theorem vals_get : ∀ {vs : List V} {us : List Value} {j : Nat} {u : Value}, Vals vs us → us[j]? = some u → ∃ v, vs[j]? = some v ∧ RelV v u
  | _, _, j, u, .nil, h => by simp at h
  | _, _, 0, u, .cons r _, h => by simp at h; subst h; exact ⟨_, rfl, r⟩
  | _, _, j + 1, u, .cons _ t, h => by
    have h' := h
    simp at h'
    obtain ⟨v, h1, h2⟩ := vals_get t h'
    exact ⟨v, by simpa using h1, h2⟩
theorem all_range {n : Nat} {e : Nat → Bool} : (List.range n).all e = true ↔ ∀ j, j < n → e j = true := by
  rw [List.all_eq_true]
  exact ⟨fun h j hj => h j (List.mem_range.mpr hj), fun h j hj => h j (List.mem_range.mp hj)⟩
/-- both ways of asking -/
def Rc2 (A : Around) (s : Shared) (u u' : Value) (b : Bool) : Prop := SeqAt.RcAt A s u u' b ∧ SeqAt.RcNeAt A s u u' (!b)
section
variable {X : Cx} {pins : List (Addr × Obj)} {σ : St} {H : Hp} {s : Shared} {A : Around} {a a' : Addr} {vs ws : List V} {e : Nat → Bool}
theorem rc_tup (I : Inv X pins σ H s) (hu : A.units < cLine) (h : SqT X.K H a vs) (h' : SqT X.K H a' ws) (he : ∀ j v w u u', vs[j]? = some v → ws[j]? = some w → RelV v u → RelV w u' → SeqAt.EqAt A.in1 s u u' (e j)) :
    Rc2 A s (.ref a) (.ref a') ((List.range (min vs.length ws.length)).all e && vs.length == ws.length) := by
  obtain ⟨its, r, t, z⟩ := I.tuple h
  obtain ⟨its', r', t', z'⟩ := I.tuple h'
  have l1 : its.toArray.size = vs.length := by rw [List.size_toArray, r.length]
  have l2 : its'.toArray.size = ws.length := by rw [List.size_toArray, r'.length]
  have each : ∀ j (h1 : j < its.toArray.size) (h2 : j < its'.toArray.size), SeqAt.EqAt A.in1 s its.toArray[j] its'.toArray[j] (e j) := fun j h1 h2 => by
    obtain ⟨v, e1, e2⟩ := vals_get (j := j) (u := its.toArray[j]) r (by simp)
    obtain ⟨w, e3, e4⟩ := vals_get (j := j) (u := its'.toArray[j]) r' (by simp)
    exact he j v w _ _ e1 e3 e2 e4
  rw [← l1, ← l2]
  exact ⟨SeqAt.RcAt.tuples t t' hu each, SeqAt.RcNeAt.tuples t t' hu each⟩
theorem rc_lst (I : Inv X pins σ H s) (hu : A.units < cLine) (h : SqL X.K H a vs) (h' : SqL X.K H a' ws) (he : ∀ j v w u u', vs[j]? = some v → ws[j]? = some w → RelV v u → RelV w u' → SeqAt.EqAt A.in1 s u u' (e j)) :
    Rc2 A s (.ref a) (.ref a') (vs.length == ws.length && (List.range vs.length).all e) := by
  obtain ⟨its, r, t, z⟩ := I.list h
  obtain ⟨its', r', t', z'⟩ := I.list h'
  have l1 : its.toArray.size = vs.length := by rw [List.size_toArray, r.length]
  have l2 : its'.toArray.size = ws.length := by rw [List.size_toArray, r'.length]
  by_cases hs : vs.length = ws.length
  · have each : ∀ j (h1 : j < its.toArray.size) (h2 : j < its'.toArray.size), SeqAt.EqAt A.in1 s its.toArray[j] its'.toArray[j] (e j) := fun j h1 h2 => by
      obtain ⟨v, e1, e2⟩ := vals_get (j := j) (u := its.toArray[j]) r (by simp)
      obtain ⟨w, e3, e4⟩ := vals_get (j := j) (u := its'.toArray[j]) r' (by simp)
      exact he j v w _ _ e1 e3 e2 e4
    have eb : (vs.length == ws.length && (List.range vs.length).all e) = (List.range its.toArray.size).all e := by rw [l1, hs]; simp
    rw [eb]
    exact ⟨SeqAt.RcAt.lists t.isList t'.isList (by rw [l1, l2, hs]) hu each, SeqAt.RcNeAt.lists t.isList t'.isList (by rw [l1, l2, hs]) hu each⟩
  · have eb : (vs.length == ws.length && (List.range vs.length).all e) = false := by
      rw [beq_eq_false_iff_ne.mpr hs]; rfl
    have ne : (its.toArray.size != its'.toArray.size) = true := by rw [l1, l2]; exact bne_iff_ne.mpr hs
    rw [eb]
    exact ⟨SeqAt.RcAt.lists_lengths t.isList t'.isList ne hu, SeqAt.RcNeAt.lists_lengths t.isList t'.isList ne hu⟩
end
/-- data of a type that can be compared -/
class Pe (α : Type) [TD α] [DecidableEq α] where
  n : Nat
  un : ∀ {K : PySem.W.Frag} {ce ce' : Str → Addr} {H : Hp} {ok ok' : Addr → Prop} {v : V} {x y : α}, (∀ a o, K.lookup a = some o → H a = none) → Da K ce H ok v (td x) → Da K ce' H ok' v (td y) → x = y
  eq : ∀ {X : Cx} {pins : List (Addr × Obj)} {σ : St} {H : Hp} {s : Shared} {A : Around} {ce ce' : Str → Addr} {ok ok' : Addr → Prop} {v w : V} {u u' : Value} {x y : α}, Inv X pins σ H s → A.units + n < cLine →
    Da X.K ce H ok v (td x) → Da X.K ce' H ok' w (td y) → RelV v u → RelV w u' → SeqAt.EqAt A s u u' (decide (x = y))
/-- .. and stands at an address -/
class Pr (α : Type) [TD α] [DecidableEq α] extends Pe α where
  rc : ∀ {X : Cx} {pins : List (Addr × Obj)} {σ : St} {H : Hp} {s : Shared} {A : Around} {ce ce' : Str → Addr} {ok ok' : Addr → Prop} {v w : V} {u u' : Value} {x y : α}, Inv X pins σ H s → A.units + n < cLine →
    Da X.K ce H ok v (td x) → Da X.K ce' H ok' w (td y) → RelV v u → RelV w u' → Rc2 A s u u' (decide (x = y))
theorem inv_lit {X : Cx} {pins : List (Addr × Obj)} {σ : St} {H : Hp} {s : Shared} (I : Inv X pins σ H s) : ∀ a o, X.K.lookup a = some o → H a = none := fun a o e => (I.bs a o (I.ok.mod.kin a o e)).2
instance : Pe Str := ⟨0, fun _ h h' => by cases h; cases h'; rfl, fun I hu h h' r r' => by
  cases h; cases h'
  obtain ⟨t, rfl⟩ := r
  obtain ⟨t', rfl⟩ := r'
  exact SeqAt.EqAt.str_str _ _ _ _⟩
instance : Pe Int := ⟨0, fun _ h h' => by cases h; cases h'; rfl, fun I hu h h' r r' => by
  cases h; cases h'
  obtain ⟨t, rfl⟩ := r
  obtain ⟨t', rfl⟩ := r'
  exact SeqAt.EqAt.int_int _ _ _ _⟩
instance : Pe Bool := ⟨0, fun _ h h' => by cases h; cases h'; rfl, fun I hu h h' r r' => by
  cases h; cases h'
  cases r; cases r'
  exact SeqAt.EqAt.bool_bool _ _⟩
/-- == of two at addresses -/
theorem eq_ref {A : Around} {s : Shared} {a a' : Addr} {b : Bool} (same : a = a' → b = true) (h : Rc2 A s (.ref a) (.ref a') b) : SeqAt.EqAt A s (.ref a) (.ref a') b := by
  by_cases e : a = a'
  · rw [same e, e]; exact SeqAt.EqAt.same _
  · exact .of_refs e h.1
theorem DaL.un {α : Type} [TD α] [DecidableEq α] [Pe α] {K : PySem.W.Frag} {ce ce' : Str → Addr} {H : Hp} {ok ok' : Addr → Prop} (hK : ∀ a o, K.lookup a = some o → H a = Option.none) : ∀ {vs : List V} {xs ys : List α}, DaL K ce H ok vs (xs.map td) → DaL K ce' H ok' vs (ys.map td) → xs = ys
  | [], [], [], _, _ => rfl
  | v :: vs, x :: xs, y :: ys, .cons h t, .cons h' t' => by rw [Pe.un hK h h', DaL.un hK t t']
  | [], _ :: _, _, h, _ => nomatch h
  | [], [], _ :: _, _, h => nomatch h
  | _ :: _, [], _, h, _ => nomatch h
  | _ :: _, _ :: _, [], _, h => nomatch h
theorem tup_un {K : PySem.W.Frag} {H : Hp} (hK : ∀ a o, K.lookup a = some o → H a = none) {a : Addr} {vs ws : List V} (h : TupAt K H a vs) (h' : TupAt K H a ws) : vs = ws := by
  have out : ∀ {xs : List V}, H a = some (.tup xs) → SqT K (fun _ => none) a [] → False := fun {xs} h h' => by
    rcases h' with (h' | ⟨_, h'⟩) | ⟨o, _, _, h', _⟩
    · cases h'
    · cases h'
    · rw [hK a o h'] at h; cases h
  rcases h with h | ⟨rfl, h⟩ <;> rcases h' with h' | ⟨rfl, h'⟩
  · rw [h] at h'; cases h'; rfl
  · exact (out h h').elim
  · exact (out h' h).elim
  · rfl
theorem dal_eq {α : Type} [TD α] [DecidableEq α] [Pe α] {X : Cx} {pins : List (Addr × Obj)} {σ : St} {H : Hp} {s : Shared} {A : Around} {ce ce' : Str → Addr} {ok ok' : Addr → Prop} {vs ws : List V} {xs ys : List α} (I : Inv X pins σ H s) (hu : A.units + Pe.n α < cLine)
    (h : DaL X.K ce H ok vs (xs.map td)) (h' : DaL X.K ce' H ok' ws (ys.map td)) : ∀ (j : Nat) (v w : V) (u u' : Value), vs[j]? = some v → ws[j]? = some w → RelV v u → RelV w u' → SeqAt.EqAt A s u u' (decide (xs[j]? = ys[j]?)) := by
  intro j v w u u' e1 e2 r r'
  obtain ⟨d, e3, da⟩ := h.get' e1
  obtain ⟨d', e4, da'⟩ := h'.get' e2
  rw [List.getElem?_map] at e3 e4
  cases hx : xs[j]? with
  | none => rw [hx] at e3; cases e3
  | some x =>
    cases hy : ys[j]? with
    | none => rw [hy] at e4; cases e4
    | some y =>
      rw [hx] at e3; rw [hy] at e4
      cases e3; cases e4
      have z := Pe.eq I hu da da' r r'
      have e : decide (some x = some y) = decide (x = y) := by by_cases q : x = y <;> simp [q]
      rw [e]; exact z
theorem eq_range {α : Type} [DecidableEq α] (xs ys : List α) : (xs.length == ys.length && (List.range xs.length).all fun j => decide (xs[j]? = ys[j]?)) = decide (xs = ys) := by
  by_cases h : xs = ys
  · subst h; simp
  · rw [decide_eq_false h]
    by_cases hl : xs.length = ys.length
    · rw [Bool.and_eq_false_iff]
      refine .inr ?_
      rw [Bool.eq_false_iff]
      intro hh
      refine h (List.ext_getElem? fun j => ?_)
      by_cases hj : j < xs.length
      · exact of_decide_eq_true (all_range.mp hh j hj)
      · rw [List.getElem?_eq_none (by omega), List.getElem?_eq_none (by omega)]
    · rw [beq_eq_false_iff_ne.mpr hl]; rfl
instance {α : Type} [TD α] [DecidableEq α] [Pe α] : Pr (List α) :=
  have un : ∀ {K : PySem.W.Frag} {ce ce' : Str → Addr} {H : Hp} {ok ok' : Addr → Prop} {v : V} {x y : List α}, (∀ a o, K.lookup a = some o → H a = none) → Da K ce H ok v (td x) → Da K ce' H ok' v (td y) → x = y := fun hK h h' => by
    cases h with
    | lst _ e z l => cases h' with | lst _ e' z' l' => rw [e] at e'; cases e'; exact DaL.un hK l l'
  have rc : ∀ {X : Cx} {pins : List (Addr × Obj)} {σ : St} {H : Hp} {s : Shared} {A : Around} {ce ce' : Str → Addr} {ok ok' : Addr → Prop} {v w : V} {u u' : Value} {x y : List α}, Inv X pins σ H s → A.units + (Pe.n α + 1) < cLine →
      Da X.K ce H ok v (td x) → Da X.K ce' H ok' w (td y) → RelV v u → RelV w u' → Rc2 A s u u' (decide (x = y)) := fun {X pins σ H s A ce ce' ok ok' v w u u' x y} I hu h h' r r' => by
    cases h with
    | lst _ e z l => cases h' with
      | lst _ e' z' l' =>
        cases r; cases r'
        have q := rc_lst (A := A) (e := fun j => decide (x[j]? = y[j]?)) I (by omega) (.of e) (.of e') (dal_eq (A := A.in1) I (show A.units + 1 + Pe.n α < cLine by omega) l l')
        have l1 := l.length
        have l2 := l'.length
        rw [List.length_map] at l1 l2
        rw [l1, l2, eq_range] at q
        exact q
  { n := Pe.n α + 1, un := un, rc := rc
    eq := fun {X pins σ H s A ce ce' ok ok' v w u u' x y} I hu h h' r r' => by
      have q := rc I hu h h' r r'
      have hv : ∃ a, v = .ref a := by cases h; exact ⟨_, rfl⟩
      have hw : ∃ a, w = .ref a := by cases h'; exact ⟨_, rfl⟩
      obtain ⟨a, rfl⟩ := hv
      obtain ⟨a', rfl⟩ := hw
      cases r; cases r'
      exact eq_ref (fun ea => by subst ea; exact decide_eq_true (un (inv_lit I) h h')) q }

/-- an instance from how two are told apart -/
@[reducible] def Pr.mk2 {α : Type} [TD α] [DecidableEq α] (n : Nat)
    (hr : ∀ {K : PySem.W.Frag} {ce : Str → Addr} {H : Hp} {ok : Addr → Prop} {v : V} {x : α}, Da K ce H ok v (td x) → ∃ a, v = .ref a)
    (un : ∀ {K : PySem.W.Frag} {ce ce' : Str → Addr} {H : Hp} {ok ok' : Addr → Prop} {v : V} {x y : α}, (∀ a o, K.lookup a = some o → H a = none) → Da K ce H ok v (td x) → Da K ce' H ok' v (td y) → x = y)
    (rc : ∀ {X : Cx} {pins : List (Addr × Obj)} {σ : St} {H : Hp} {s : Shared} {A : Around} {ce ce' : Str → Addr} {ok ok' : Addr → Prop} {v w : V} {u u' : Value} {x y : α}, Inv X pins σ H s → A.units + n < cLine →
      Da X.K ce H ok v (td x) → Da X.K ce' H ok' w (td y) → RelV v u → RelV w u' → Rc2 A s u u' (decide (x = y))) : Pr α :=
  { n := n, un := un, rc := rc
    eq := fun {X pins σ H s A ce ce' ok ok' v w u u' x y} I hu h h' r r' => by
      have q := rc I hu h h' r r'
      obtain ⟨a, rfl⟩ := hr h
      obtain ⟨a', rfl⟩ := hr h'
      cases r; cases r'
      exact eq_ref (fun ea => by subst ea; exact decide_eq_true (un (inv_lit I) h h')) q }
instance {α : Type} [TD α] [DecidableEq α] [Pe α] : Pr (Tp α) :=
  Pr.mk2 (Pe.n α + 1) (fun h => by cases h; exact ⟨_, rfl⟩)
    (fun {K ce ce' H ok ok' v x y} hK h h' => by
      cases h with
      | tup e z l => cases h' with
        | tup e' z' l' =>
          have q := tup_un hK e e'
          subst q
          have e := DaL.un (xs := x.l) (ys := y.l) hK l l'
          obtain ⟨x⟩ := x; obtain ⟨y⟩ := y
          cases e; rfl)
    (fun {X pins σ H s A ce ce' ok ok' v w u u' x y} I hu h h' r r' => by
      cases h with
      | tup e z l => cases h' with
        | tup e' z' l' =>
          cases r; cases r'
          have q := rc_tup (A := A) (e := fun j => decide (x.l[j]? = y.l[j]?)) I (by omega) e.sq e'.sq (dal_eq (A := A.in1) (xs := x.l) (ys := y.l) I (show A.units + 1 + Pe.n α < cLine by omega) l l')
          have l1 := l.length
          have l2 := l'.length
          rw [List.length_map] at l1 l2
          rw [l1, l2] at q
          have eb : ((List.range (min x.l.length y.l.length)).all (fun j => decide (x.l[j]? = y.l[j]?)) && x.l.length == y.l.length) = decide (x = y) := by
            have e1 : decide (x = y) = decide (x.l = y.l) := by
              obtain ⟨x⟩ := x; obtain ⟨y⟩ := y
              by_cases q : x = y <;> simp [q]
            rw [e1, ← eq_range]
            by_cases hl : x.l.length = y.l.length
            · rw [hl, Nat.min_self]; simp
            · rw [beq_eq_false_iff_ne.mpr hl]; simp
          rw [eb] at q
          exact q)
instance {α β : Type} [TD α] [DecidableEq α] [Pe α] [TD β] [DecidableEq β] [Pe β] : Pr (α × β) :=
  Pr.mk2 (max (Pe.n α) (Pe.n β) + 1) (fun h => by cases h; exact ⟨_, rfl⟩)
    (fun {K ce ce' H ok ok' v x y} hK h h' => by
      cases h with
      | tup e z l => cases h' with
        | tup e' z' l' =>
          have q := tup_un hK e e'
          subst q
          cases l with | cons a l => cases l with | cons b l => cases l' with | cons a' l' => cases l' with | cons b' l' =>
            exact Prod.ext (Pe.un hK a a') (Pe.un hK b b'))
    (fun {X pins σ H s A ce ce' ok ok' v w u u' x y} I hu h h' r r' => by
      cases h with
      | tup e z l => cases h' with
        | tup e' z' l' =>
          cases r; cases r'
          cases l with | cons a l => cases l with | cons b l => cases l; cases l' with | cons a' l' => cases l' with | cons b' l' => cases l'; exact (by
            have q := rc_tup (A := A) (e := fun j => match j with | 0 => decide (x.1 = y.1) | _ => decide (x.2 = y.2)) I (by omega) e.sq e'.sq (fun j v w u u' h1 h2 r r' => by
              match j, h1, h2 with
              | 0, h1, h2 => simp at h1 h2; subst h1; subst h2; exact Pe.eq I (show A.units + 1 + Pe.n α < cLine by omega) a a' r r'
              | 1, h1, h2 => simp at h1 h2; subst h1; subst h2; exact Pe.eq I (show A.units + 1 + Pe.n β < cLine by omega) b b' r r'
              | j + 2, h1, h2 => simp at h1)
            have eb : ∀ f : Nat → Bool, ((List.range (min 2 2)).all f && (2 : Nat) == 2) = (f 0 && f 1) := fun f => by simp [List.range, List.range.loop]
            have q2 := (eb _) ▸ (show Rc2 A s _ _ ((List.range (min 2 2)).all _ && (2 : Nat) == 2) from q)
            have e2 : (decide (x.1 = y.1) && decide (x.2 = y.2)) = decide (x = y) := by
              obtain ⟨x, x'⟩ := x; obtain ⟨y, y'⟩ := y
              by_cases q1 : x = y <;> by_cases q2 : x' = y' <;> simp [q1, q2]
            rw [← e2]
            exact q2))
instance {α β γ : Type} [TD α] [DecidableEq α] [Pe α] [TD β] [DecidableEq β] [Pe β] [TD γ] [DecidableEq γ] [Pe γ] : Pr (T3 α β γ) :=
  Pr.mk2 (max (max (Pe.n α) (Pe.n β)) (Pe.n γ) + 1) (fun h => by cases h; exact ⟨_, rfl⟩)
    (fun {K ce ce' H ok ok' v x y} hK h h' => by
      cases h with
      | tup e z l => cases h' with
        | tup e' z' l' =>
          have q := tup_un hK e e'
          subst q
          cases l with | cons a l => cases l with | cons b l => cases l with | cons c l => cases l' with | cons a' l' => cases l' with | cons b' l' => cases l' with | cons c' l' =>
            obtain ⟨x, x', x''⟩ := x; obtain ⟨y, y', y''⟩ := y
            cases Pe.un hK a a'; cases Pe.un hK b b'; cases Pe.un hK c c'; rfl)
    (fun {X pins σ H s A ce ce' ok ok' v w u u' x y} I hu h h' r r' => by
      cases h with
      | tup e z l => cases h' with
        | tup e' z' l' =>
          cases r; cases r'
          cases l with | cons a l => cases l with | cons b l => cases l with | cons c l => cases l; cases l' with | cons a' l' => cases l' with | cons b' l' => cases l' with | cons c' l' => cases l'; exact (by
            have q := rc_tup (A := A) (e := fun j => match j with | 0 => decide (x.a = y.a) | 1 => decide (x.b = y.b) | _ => decide (x.c = y.c)) I (by omega) e.sq e'.sq (fun j v w u u' h1 h2 r r' => by
              match j, h1, h2 with
              | 0, h1, h2 => simp at h1 h2; subst h1; subst h2; exact Pe.eq I (show A.units + 1 + Pe.n α < cLine by omega) a a' r r'
              | 1, h1, h2 => simp at h1 h2; subst h1; subst h2; exact Pe.eq I (show A.units + 1 + Pe.n β < cLine by omega) b b' r r'
              | 2, h1, h2 => simp at h1 h2; subst h1; subst h2; exact Pe.eq I (show A.units + 1 + Pe.n γ < cLine by omega) c c' r r'
              | j + 3, h1, h2 => simp at h1)
            have eb : ∀ f : Nat → Bool, ((List.range (min 3 3)).all f && (3 : Nat) == 3) = (f 0 && (f 1 && f 2)) := fun f => by simp [List.range, List.range.loop]
            have q2 := (eb _) ▸ (show Rc2 A s _ _ ((List.range (min 3 3)).all _ && (3 : Nat) == 3) from q)
            have e2 : (decide (x.a = y.a) && (decide (x.b = y.b) && decide (x.c = y.c))) = decide (x = y) := by
              obtain ⟨x, x', x''⟩ := x; obtain ⟨y, y', y''⟩ := y
              by_cases q1 : x = y <;> by_cases q2 : x' = y' <;> by_cases q3 : x'' = y'' <;> simp [q1, q2, q3]
            rw [← e2]
            exact q2))
/-! ### the operators -/
/-- x == y, x != y, both at addresses; x in ys -/
def rEqA (α : Type) [TD α] [DecidableEq α] (K : PySem.W.Frag) : R2 := fun v w H Q => ∃ (ce : Str → Addr) (ok : Addr → Prop) (x y : α), Da K ce H ok v (td x) ∧ Da K ce H ok w (td y) ∧ Q (.bl (decide (x = y))) H
def rNeA (α : Type) [TD α] [DecidableEq α] (K : PySem.W.Frag) : R2 := fun v w H Q => ∃ (ce : Str → Addr) (ok : Addr → Prop) (x y : α), Da K ce H ok v (td x) ∧ Da K ce H ok w (td y) ∧ Q (.bl (!decide (x = y))) H
def rInA (α : Type) [TD α] [DecidableEq α] (K : PySem.W.Frag) : R2 := fun v w H Q => ∃ (ce : Str → Addr) (ok : Addr → Prop) (x : α) (ys : List α), Da K ce H ok v (td x) ∧ Da K ce H ok w (td ys) ∧ Q (.bl (decide (x ∈ ys))) H
def rNotInA (α : Type) [TD α] [DecidableEq α] (K : PySem.W.Frag) : R2 := fun v w H Q => ∃ (ce : Str → Addr) (ok : Addr → Prop) (x : α) (ys : List α), Da K ce H ok v (td x) ∧ Da K ce H ok w (td ys) ∧ Q (.bl (!decide (x ∈ ys))) H
section
variable {X : Cx} {k : Nat} {α : Type} [TD α] [DecidableEq α]
theorem op_eqA [Pr α] (hr : RG k X.A) (hn : Pe.n α ≤ 60) : OpR X (compareOp .Eq) (rEqA α X.K) := by
  intro pins s σ H x y v u Q I rx ry h
  obtain ⟨ce, ok, a, b, h1, h2, q⟩ := h
  have hu := hr.r.un
  exact (Pr.rc (A := X.A) I (by omega) h1 h2 rx ry).1 _ _ _ _ ⟨.bl _, H, I, rfl, q⟩
theorem op_neA [Pr α] (hr : RG k X.A) (hn : Pe.n α ≤ 60) : OpR X (compareOp .NotEq) (rNeA α X.K) := by
  intro pins s σ H x y v u Q I rx ry h
  obtain ⟨ce, ok, a, b, h1, h2, q⟩ := h
  have hu := hr.r.un
  exact (Pr.rc (A := X.A) I (by omega) h1 h2 rx ry).2 _ _ _ _ ⟨.bl _, H, I, rfl, q⟩
theorem relV_inj {v w : V} {u : Value} (h : RelV v u) (h' : RelV w u) : v = w := by
  cases u <;> cases v <;> first | (exact False.elim h) | (cases h; done) | (obtain ⟨_, q⟩ := h; cases q; done) | (cases w <;> first | (exact False.elim h') | (cases h'; done) | (obtain ⟨_, q⟩ := h'; cases q; done) | (cases h; cases h'; rfl) | (obtain ⟨_, q⟩ := h; obtain ⟨_, q'⟩ := h'; cases q; cases q'; rfl))
/-- which items are x -/
theorem in_items [Pe α] {pins : List (Addr × Obj)} {σ : St} {H : Hp} {s : Shared} {A : Around} {ce ce' : Str → Addr} {ok ok' : Addr → Prop} {v : V} {u : Value} {x : α} (I : Inv X pins σ H s) (hu : A.units + Pe.n α < cLine) (h : Da X.K ce H ok v (td x)) (r : RelV v u)
    {vs : List V} {us : List Value} {ys : List α} (l : DaL X.K ce' H ok' vs (ys.map td)) (rv : Vals vs us) : ∃ e : Value → Bool, (∀ u', u' ∈ us → SeqAt.EqAt A s u' u (e u')) ∧ us.any e = decide (x ∈ ys) := by
  classical
  have at_ : ∀ (j : Nat) (u' : Value), us[j]? = some u' → ∃ w y, ys[j]? = some y ∧ RelV w u' ∧ Da X.K ce' H ok' w (td y) := fun j u' hu' => by
    obtain ⟨w, h1, h2⟩ := vals_get rv hu'
    obtain ⟨d, h3, h4⟩ := l.get' h1
    rw [List.getElem?_map] at h3
    cases hy : ys[j]? with
    | none => rw [hy] at h3; cases h3
    | some y => rw [hy] at h3; cases h3; exact ⟨w, y, rfl, h2, h4⟩
  refine ⟨fun u' => decide (∃ j : Nat, us[j]? = some u' ∧ ys[j]? = some x), fun u' hm => ?_, ?_⟩
  · obtain ⟨j, hj⟩ := List.mem_iff_getElem?.mp hm
    obtain ⟨w, y, hy, rw_, da⟩ := at_ j u' hj
    have e : decide (∃ j : Nat, us[j]? = some u' ∧ ys[j]? = some x) = decide (y = x) := by
      by_cases q : y = x
      · rw [decide_eq_true q, decide_eq_true]; exact ⟨j, hj, by rw [hy, q]⟩
      · rw [decide_eq_false q, decide_eq_false]
        rintro ⟨j', h1, h2⟩
        obtain ⟨w', y', hy', r', da'⟩ := at_ j' u' h1
        rw [h2] at hy'; cases hy'
        have ew := relV_inj rw_ r'
        subst ew
        exact q (Pe.un (inv_lit I) da da')
    show SeqAt.EqAt A s u' u (decide (∃ j : Nat, us[j]? = some u' ∧ ys[j]? = some x))
    rw [e]
    exact Pe.eq I hu da h rw_ r
  · by_cases q : x ∈ ys
    · rw [decide_eq_true q, List.any_eq_true]
      obtain ⟨j, hj⟩ := List.mem_iff_getElem?.mp q
      have hlen : j < us.length := by
        have h1 := (List.getElem?_eq_some_iff.mp hj).1
        have h2 := l.length
        have h3 := rv.length
        rw [List.length_map] at h2
        omega
      exact ⟨us[j], List.getElem_mem hlen, decide_eq_true ⟨j, List.getElem?_eq_getElem hlen, hj⟩⟩
    · rw [decide_eq_false q, List.any_eq_false]
      intro u' hm he
      obtain ⟨j, h1, h2⟩ := of_decide_eq_true he
      exact q (List.mem_of_getElem? h2)
theorem op_inA [Pe α] (hr : RG k X.A) (hn : Pe.n α ≤ 60) : OpR X (compareOp .In) (rInA α X.K) := by
  intro pins s σ H x y v u Q I rx ry h
  obtain ⟨ce, ok, a, b, h1, h2, q⟩ := h
  have hu := hr.r.un
  cases h2 with
  | lst _ e z l =>
    cases ry
    obtain ⟨its, r, pl, hz⟩ := I.list (.of e)
    obtain ⟨f, h3, h4⟩ := in_items (A := X.A.in1) I (show X.A.units + 1 + Pe.n α < cLine by omega) h1 rx l r
    refine SeqAt.in_listAt f pl.isList (fun w hw => h3 w (by simpa using hw)) ⟨.bl _, H, I, rfl, ?_⟩
    rw [show its.toArray.any f = its.any f by simp, h4]
    exact q
theorem op_notInA [Pe α] (hr : RG k X.A) (hn : Pe.n α ≤ 60) : OpR X (compareOp .NotIn) (rNotInA α X.K) := by
  intro pins s σ H x y v u Q I rx ry h
  obtain ⟨ce, ok, a, b, h1, h2, q⟩ := h
  have hu := hr.r.un
  cases h2 with
  | lst _ e z l =>
    cases ry
    obtain ⟨its, r, pl, hz⟩ := I.list (.of e)
    obtain ⟨f, h3, h4⟩ := in_items (A := X.A.in1) I (show X.A.units + 1 + Pe.n α < cLine by omega) h1 rx l r
    refine SeqAt.notIn_listAt f pl.isList (fun w hw => h3 w (by simpa using hw)) ⟨.bl _, H, I, rfl, ?_⟩
    rw [show its.toArray.any f = its.any f by simp, h4]
    exact q
end
end FB

/-! data: lists joined and cut, data compared, sorted, dicts -/
namespace FB
open PySem L2

/-! ### plain data -/
class Pc (α : Type) [TD α] [Pd α] : Prop where
  dp : ∀ {K : PySem.W.Frag} {ce : Str → Addr} {H : Hp} {ok : Addr → Prop} {v : V} {x : α}, Da K ce H ok v (td x) → Dp K H v (pd x)
  nd : ∀ x : α, (pd x).hasDict = false
  de : ∀ x : α, (pd x).depth ≤ Pd.dp α
class Psh (α : Type) [Pd α] : Prop where
  sh : ∀ x : α, (pd x).showable = true
instance : Pc Int := ⟨fun h => by cases h; exact .int _, fun _ => rfl, fun _ => Nat.le_refl _⟩
instance : Pc Str := ⟨fun h => by cases h; exact .str _, fun _ => rfl, fun _ => Nat.le_refl _⟩
instance : Pc Bool := ⟨fun h => by cases h; exact .bl _, fun _ => rfl, fun _ => Nat.le_refl _⟩
theorem dpAll_of {α : Type} [TD α] [Pd α] [Pc α] {K : PySem.W.Frag} {ce : Str → Addr} {H : Hp} {ok : Addr → Prop} {vs : List V} {xs : List α} (h : DaL K ce H ok vs (xs.map td)) : DpAll K H vs (xs.map pd) := by
  induction xs generalizing vs with
  | nil => cases h; exact .nil
  | cons x xs ih => cases h with | cons h1 h2 => exact .cons (Pc.dp h1) (ih h2)
theorem depthAll_le {α : Type} [TD α] [Pd α] [Pc α] : ∀ xs : List α, PyData.depthAll (xs.map pd) ≤ Pd.dp α
  | [] => by show PyData.depthAll [] ≤ _; simp [PyData.depthAll]
  | x :: xs => by
    have h1 := Pc.de x
    have h2 := depthAll_le xs
    show PyData.depthAll (pd x :: xs.map pd) ≤ _
    simp only [PyData.depthAll]
    omega
theorem hasDictAll {α : Type} [TD α] [Pd α] [Pc α] : ∀ xs : List α, PyData.hasDictAll (xs.map pd) = false
  | [] => by show PyData.hasDictAll [] = _; simp [PyData.hasDictAll]
  | x :: xs => by
    show PyData.hasDictAll (pd x :: xs.map pd) = _
    simp only [PyData.hasDictAll, Pc.nd x, hasDictAll xs, Bool.or_self]
instance {α : Type} [TD α] [Pd α] [Pc α] : Pc (List α) where
  dp := fun h => by
    cases h with
    | lst o h z l => exact .lst (.of h) (dpAll_of l)
  nd := fun xs => by show PyData.hasDict (.list (xs.map pd)) = _; simp only [PyData.hasDict]; exact hasDictAll xs
  de := fun xs => by have := depthAll_le xs; show PyData.depth (.list (xs.map pd)) ≤ Pd.dp α + 1; simp only [PyData.depth]; omega
instance {α : Type} [TD α] [Pd α] [Pc α] : Pc (Tp α) where
  dp := fun h => by
    cases h with
    | tup h z l => exact .tup h.sq (dpAll_of l)
  nd := fun xs => by show PyData.hasDict (.tuple (xs.l.map pd)) = _; simp only [PyData.hasDict]; exact hasDictAll xs.l
  de := fun xs => by have := depthAll_le xs.l; show PyData.depth (.tuple (xs.l.map pd)) ≤ Pd.dp α + 1; simp only [PyData.depth]; omega
instance {α β : Type} [TD α] [Pd α] [Pc α] [TD β] [Pd β] [Pc β] : Pc (α × β) where
  dp := fun h => by
    cases h with
    | tup h z l => cases l with | cons a l => cases l with | cons b l => cases l; exact .tup h.sq (.cons (Pc.dp a) (.cons (Pc.dp b) .nil))
  nd := fun p => by show PyData.hasDict (.tuple [pd p.1, pd p.2]) = _; simp only [PyData.hasDict, PyData.hasDictAll, Pc.nd p.1, Pc.nd p.2, Bool.or_self]
  de := fun p => by
    have h1 := Pc.de p.1; have h2 := Pc.de p.2
    show PyData.depth (.tuple [pd p.1, pd p.2]) ≤ max (Pd.dp α) (Pd.dp β) + 1
    simp only [PyData.depth, PyData.depthAll]; omega
instance {α β γ : Type} [TD α] [Pd α] [Pc α] [TD β] [Pd β] [Pc β] [TD γ] [Pd γ] [Pc γ] : Pc (T3 α β γ) where
  dp := fun h => by
    cases h with
    | tup h z l => cases l with | cons a l => cases l with | cons b l => cases l with | cons c l => cases l; exact .tup h.sq (.cons (Pc.dp a) (.cons (Pc.dp b) (.cons (Pc.dp c) .nil)))
  nd := fun p => by show PyData.hasDict (.tuple [pd p.a, pd p.b, pd p.c]) = _; simp only [PyData.hasDict, PyData.hasDictAll, Pc.nd p.a, Pc.nd p.b, Pc.nd p.c, Bool.or_self]
  de := fun p => by
    have h1 := Pc.de p.a; have h2 := Pc.de p.b; have h3 := Pc.de p.c
    show PyData.depth (.tuple [pd p.a, pd p.b, pd p.c]) ≤ max (max (Pd.dp α) (Pd.dp β)) (Pd.dp γ) + 1
    simp only [PyData.depth, PyData.depthAll]; omega
/-! shown -/
instance : Psh Str := ⟨fun _ => rfl⟩
instance {α β : Type} [Pd α] [Psh α] [Pd β] [Psh β] : Psh (α × β) := ⟨fun p => by show PyData.showable (.tuple [pd p.1, pd p.2]) = _; simp only [PyData.showable, PyData.showableAll, Psh.sh p.1, Psh.sh p.2, Bool.and_self]⟩
instance {α β γ : Type} [Pd α] [Psh α] [Pd β] [Psh β] [Pd γ] [Psh γ] : Psh (T3 α β γ) := ⟨fun p => by show PyData.showable (.tuple [pd p.a, pd p.b, pd p.c]) = _; simp only [PyData.showable, PyData.showableAll, Psh.sh p.a, Psh.sh p.b, Psh.sh p.c, Bool.and_self]⟩
theorem showAll {α : Type} [Pd α] [Psh α] : ∀ xs : List α, PyData.showableAll (xs.map pd) = true
  | [] => by show PyData.showableAll [] = _; simp [PyData.showableAll]
  | x :: xs => by show PyData.showableAll (pd x :: xs.map pd) = _; simp only [PyData.showableAll, Psh.sh x, showAll xs, Bool.and_self]
instance {α : Type} [Pd α] [Psh α] : Psh (Tp α) := ⟨fun p => by show PyData.showable (.tuple (p.l.map pd)) = _; simp only [PyData.showable]; exact showAll p.l⟩
class Ksh (α : Type) [TD α] [Sk α] : Prop where
  sh : ∀ {K : PySem.W.Frag} {ce : Str → Addr} {H : Hp} {ok : Addr → Prop} {v : V} {x : α}, Da K ce H ok v (td x) → (sk x).length ≤ LINE → ShowsAs K H v (sk x)
instance : Ksh Str := ⟨fun h _ => by cases h; exact .inl rfl⟩
theorem shows_of {α : Type} [TD α] [Pd α] [Pc α] [Psh α] (hd : Pd.dp α ≤ 60) {K : PySem.W.Frag} {ce : Str → Addr} {H : Hp} {ok : Addr → Prop} {v : V} {x : α} (h : Da K ce H ok v (td x)) (hr : ∃ b, v = .ref b) (hl : (pd x).shown.length ≤ LINE) : ShowsAs K H v (pd x).shown := by
  obtain ⟨b, rfl⟩ := hr
  exact .inr ⟨b, pd x, rfl, Pc.dp h, Psh.sh x, Pc.nd x, rfl, by rw [← LINE_eq]; exact hl, Nat.le_trans (Pc.de x) hd⟩
instance : Ksh (T3 Str Str Str) := ⟨fun h hl => shows_of (by decide) h (by cases h; exact ⟨_, rfl⟩) hl⟩
instance : Ksh (Str × Str) := ⟨fun h hl => shows_of (by decide) h (by cases h; exact ⟨_, rfl⟩) hl⟩
instance : Ksh (Tp Str) := ⟨fun h hl => shows_of (by decide) h (by cases h; exact ⟨_, rfl⟩) hl⟩

section
variable {c : Cfg} {H : Hp} {E : List Ent} {i j k : Nat} {v w : V} {b b' : Bool} {Q : VK}
/-- data from an entry, whatever its mode -/
theorem S.dT (s : S c H E) {d : D} (hk : E[k]? = some (en v d b)) : Da c.K c.ce H (fun _ => True) v d := by
  exact Dw.freeze (s.it _ (List.mem_of_getElem? hk)) (fun _ _ _ => trivial) fun _ _ => trivial
section
variable {α : Type} [TD α] [DecidableEq α]
theorem r_eqA {x y : α} (s : S c H E) (h1 : E[i]? = some (en v (td x) b)) (h2 : E[j]? = some (en w (td y) b')) (q : Q (.bl (decide (x = y))) H) : rEqA α c.K v w H Q := ⟨_, _, x, y, s.dT h1, s.dT h2, q⟩
theorem r_neA {x y : α} (s : S c H E) (h1 : E[i]? = some (en v (td x) b)) (h2 : E[j]? = some (en w (td y) b')) (q : Q (.bl (!decide (x = y))) H) : rNeA α c.K v w H Q := ⟨_, _, x, y, s.dT h1, s.dT h2, q⟩
theorem decide_any (p : Prop) [d1 : Decidable p] (d2 : Decidable p) : @decide p d1 = @decide p d2 := by by_cases h : p <;> simp [h]
theorem r_inA {x : α} {ys : List α} [dm : Decidable (x ∈ ys)] (s : S c H E) (h1 : E[i]? = some (en v (td x) b)) (h2 : E[j]? = some (en w (td ys) b')) (q : Q (.bl (@decide _ dm)) H) : rInA α c.K v w H Q := ⟨_, _, x, ys, s.dT h1, s.dT h2, by have e : ∀ d1 : Decidable (x ∈ ys), @decide _ d1 = @decide _ dm := fun d1 => decide_any _ dm; rw [e]; exact q⟩
theorem r_notInA {x : α} {ys : List α} [dm : Decidable (x ∈ ys)] (s : S c H E) (h1 : E[i]? = some (en v (td x) b)) (h2 : E[j]? = some (en w (td ys) b')) (q : Q (.bl (!@decide _ dm)) H) : rNotInA α c.K v w H Q := ⟨_, _, x, ys, s.dT h1, s.dT h2, by have e : ∀ d1 : Decidable (x ∈ ys), @decide _ d1 = @decide _ dm := fun d1 => decide_any _ dm; rw [e]; exact q⟩
end
theorem r_inS' {x : Str} {ys : List Str} (s : S c H E) (h2 : E[j]? = some (en w (td ys) b')) (q : Q (.bl (decide (x ∈ ys))) H) : rInA Str c.K (.str x) w H Q := ⟨_, _, x, ys, .sc _, s.dT h2, q⟩
theorem r_notInS' {x : Str} {ys : List Str} (s : S c H E) (h2 : E[j]? = some (en w (td ys) b')) (q : Q (.bl (!decide (x ∈ ys))) H) : rNotInA Str c.K (.str x) w H Q := ⟨_, _, x, ys, .sc _, s.dT h2, q⟩
theorem S.lstB (s : S c H E) (o : Bool) {p : Addr} {vs : List V} {ds : List D} (hp : H p = none) (h : DaL c.K c.ce H (okA c E) vs ds) (hz : vs.length ≤ sizeLine) : S c (upd H p (.lst vs)) ((en (.ref p) (.lst ds) o) :: E) := by
  cases o with
  | true => exact s.lstO hp h hz
  | false => exact s.lstF hp h hz
theorem catL_of {α : Type} {xs ys zs : List α} (h : catL xs ys = some zs) : xs.length + ys.length ≤ LINE ∧ zs = xs ++ ys := by
  unfold catL at h
  split at h
  · exact ⟨by assumption, (som h).symm⟩
  · cases h
theorem r_catL {α : Type} [TD α] {xs ys zs : List α} (o : Bool) (s : S c H E) (h1 : E[i]? = some (en v (td xs) b)) (h2 : E[j]? = some (en w (td ys) b')) (h : catL xs ys = some zs) (q : ∀ p H', S c H' ((en (.ref p) (td zs) o) :: E) → Q (.ref p) H') : rCat v w H Q := by
  obtain ⟨hz, rfl⟩ := catL_of h
  obtain ⟨a, vs, rfl, ha, za, la⟩ := s.lst (ds := xs.map td) h1
  obtain ⟨a', ws, rfl, hb, zb, lb⟩ := s.lst (ds := ys.map td) h2
  have e : vs.length + ws.length ≤ sizeLine := by rw [la.length, lb.length, List.length_map, List.length_map, ← LINE_eq]; exact hz
  refine ⟨a, a', vs, ws, rfl, rfl, ha, hb, e, fun p hp => q p _ ?_⟩
  have z := s.lstB o hp (la.append lb) (by rw [List.length_append]; exact e)
  rw [← List.map_append] at z
  exact z
theorem cut_len (n m : Nat) (xs : List V) (h : xs.length ≤ sizeLine) : ((xs.drop n).take m).length ≤ sizeLine := by
  rw [List.length_take, List.length_drop]; omega
theorem cutV_eq (xs : List V) (lo hi : Option Int) : cutV xs lo hi = cutL xs lo hi := by
  unfold cutV cutL
  have : ∀ n d (o : Option Int), HT.sIx n d o = sixI n d o := fun n d o => by cases o <;> rfl
  rw [this, this]
theorem r_cutL {α : Type} [TD α] {xs : List α} {lo hi : Option Int} (o : Bool) (s : S c H E) (h1 : E[i]? = some (en v (td xs) b)) (q : ∀ p H', S c H' ((en (.ref p) (td (cutL xs lo hi)) o) :: E) → Q (.ref p) H') : rSlL c.K v lo hi H Q := by
  obtain ⟨a, vs, rfl, ha, za, la⟩ := s.lst (ds := xs.map td) h1
  refine ⟨a, vs, rfl, .of ha, fun p hp => q p _ ?_⟩
  have hl := la.length
  rw [List.length_map] at hl
  have z := s.lstB o hp ((la.drop (sixI xs.length 0 lo)).take (sixI xs.length xs.length hi - sixI xs.length 0 lo)) (cut_len _ _ _ za)
  rw [cutV_eq]
  unfold cutL
  rw [hl]
  have e : (List.take (sixI xs.length xs.length hi - sixI xs.length 0 lo) (List.drop (sixI xs.length 0 lo) (xs.map td))) = (List.take (sixI xs.length xs.length hi - sixI xs.length 0 lo) (List.drop (sixI xs.length 0 lo) xs)).map td := by rw [List.map_take, List.map_drop]
  rw [e] at z
  exact z
/-- list(xs), list(t), tuple(xs), tuple(t) -/
theorem r_listL {α : Type} [TD α] {xs : List α} (o : Bool) (s : S c H E) (h1 : E[i]? = some (en v (td xs) b)) (q : ∀ p H', S c H' ((en (.ref p) (td xs) o) :: E) → Q (.ref p) H') :
    (fun (ys : List V) (H : Hp) (Q : VK) => ∃ p zs, ys = [.ref p] ∧ (SqL c.K H p zs ∨ SqT c.K H p zs) ∧ ∀ l, H l = none → Q (.ref l) (upd H l (.lst zs))) [v] H Q := by
  obtain ⟨a, vs, rfl, ha, za, la⟩ := s.lst (ds := xs.map td) h1
  exact ⟨a, vs, rfl, .inl (.of ha), fun p hp => q p _ (s.lstB o hp la za)⟩
theorem r_listT {α : Type} [TD α] {xs : Tp α} (o : Bool) (s : S c H E) (h1 : E[i]? = some (en v (td xs) b)) (q : ∀ p H', S c H' ((en (.ref p) (td xs.l) o) :: E) → Q (.ref p) H') :
    (fun (ys : List V) (H : Hp) (Q : VK) => ∃ p zs, ys = [.ref p] ∧ (SqL c.K H p zs ∨ SqT c.K H p zs) ∧ ∀ l, H l = none → Q (.ref l) (upd H l (.lst zs))) [v] H Q := by
  obtain ⟨a, vs, rfl, ha, za, la⟩ := s.tupl (ds := xs.l.map td) h1
  exact ⟨a, vs, rfl, .inr ha, fun p hp => q p _ (s.lstB o hp la za)⟩
theorem r_tupL {α : Type} [TD α] {xs : List α} (s : S c H E) (h1 : E[i]? = some (en v (td xs) b)) (q : ∀ p H', S c H' (fz (.ref p) (td (Tp.mk xs)) :: E) → Q (.ref p) H') :
    (fun (ys : List V) (H : Hp) (Q : VK) => ∃ p zs, ys = [.ref p] ∧ ((SqL c.K H p zs ∧ ∀ l, H l = none → Q (.ref l) (upd H l (.tup zs))) ∨ (SqT c.K H p zs ∧ Q (.ref p) H))) [v] H Q := by
  obtain ⟨a, vs, rfl, ha, za, la⟩ := s.lst (ds := xs.map td) h1
  exact ⟨a, vs, rfl, .inl ⟨.of ha, fun p hp => q p _ (s.tup hp la za)⟩⟩
theorem r_tupT {α : Type} [TD α] {xs : Tp α} (s : S c H E) (h1 : E[i]? = some (en v (td xs) b)) (q : Q v H) :
    (fun (ys : List V) (H : Hp) (Q : VK) => ∃ p zs, ys = [.ref p] ∧ ((SqL c.K H p zs ∧ ∀ l, H l = none → Q (.ref l) (upd H l (.tup zs))) ∨ (SqT c.K H p zs ∧ Q (.ref p) H))) [v] H Q := by
  obtain ⟨a, vs, rfl, ha, za, la⟩ := s.tupl (ds := xs.l.map td) h1
  exact ⟨a, vs, rfl, .inr ⟨ha, q⟩⟩
end

/-! ### sorted(.., key=str) -/
section
variable {c : Cfg} {H : Hp} {E : List Ent} {i j k : Nat} {v w : V} {b b' : Bool} {Q : VK}
theorem sortO_of {α : Type} [Sk α] {xs ys : List α} (h : sortO xs = some ys) : (∀ x ∈ xs, (sk x).length ≤ LINE) ∧ ys = xs.mergeSort leK := by
  unfold sortO at h
  split at h
  · rename_i hh
    exact ⟨fun x hx => of_decide_eq_true (List.all_eq_true.mp hh x hx), (som h).symm⟩
  · cases h
/-- the sorted data stands in the sorted list -/
theorem sort_dal {α : Type} [TD α] [Sk α] {K : PySem.W.Frag} {ce : Str → Addr} {ok : Addr → Prop} {vs : List V} {xs : List α} (l : DaL K ce H ok vs (xs.map td)) :
    ∃ ps : List (V × Str), ps.map Prod.fst = vs ∧ (∀ p ∈ ps, ∃ x ∈ xs, Da K ce H ok p.1 (td x) ∧ p.2 = sk x) ∧ DaL K ce H ok ((ps.mergeSort fun p q => leK p.2 q.2).map Prod.fst) ((xs.mergeSort leK).map td) := by
  have hl := l.length
  rw [List.length_map] at hl
  have each : ∀ p ∈ vs.zip xs, p.2 ∈ xs ∧ Da K ce H ok p.1 (td p.2) := fun p hp => by
    obtain ⟨n, hn⟩ := List.mem_iff_getElem?.mp hp
    obtain ⟨h1, h2⟩ := List.getElem?_zip_eq_some.mp hn
    obtain ⟨d, h3, h4⟩ := l.get' h1
    rw [List.getElem?_map, h2] at h3
    cases h3
    exact ⟨List.mem_of_getElem? h2, h4⟩
  refine ⟨(vs.zip xs).map fun p => (p.1, sk p.2), ?_, ?_, ?_⟩
  · rw [List.map_map]
    exact List.map_fst_zip (by omega)
  · intro p hp
    obtain ⟨q, hq, rfl⟩ := List.mem_map.mp hp
    exact ⟨q.2, (each q hq).1, (each q hq).2, rfl⟩
  · have e1 : (((vs.zip xs).map fun p => (p.1, sk p.2)).mergeSort fun p q => leK p.2 q.2) = ((vs.zip xs).mergeSort fun p q => leK p.2 q.2).map fun p => (p.1, sk p.2) :=
      (List.map_mergeSort (f := fun p : V × α => (p.1, sk p.2)) (r := fun p q => leK p.2 q.2) (s := fun p q => leK p.2 q.2) fun a _ b _ => rfl).symm
    have e2 : (xs.mergeSort leK) = ((vs.zip xs).mergeSort fun p q => leK p.2 q.2).map Prod.snd := by
      rw [List.map_mergeSort (s := leK) fun a _ b _ => rfl, List.map_snd_zip (by omega)]
    rw [e1, e2, List.map_map, List.map_map]
    have hp := (List.mergeSort_perm (vs.zip xs) fun p q => leK p.2 q.2)
    have all : ∀ p ∈ ((vs.zip xs).mergeSort fun p q => leK p.2 q.2), Da K ce H ok p.1 (td p.2) := fun p hp' => (each p (hp.mem_iff.mp hp')).2
    generalize ((vs.zip xs).mergeSort fun p q => leK p.2 q.2) = zs at all
    induction zs with
    | nil => exact .nil
    | cons z zs ih => exact .cons (all z List.mem_cons_self) (ih fun p hp => all p (List.mem_cons_of_mem _ hp))
theorem sort_end {α : Type} [TD α] [Sk α] [Ksh α] {xs ys : List α} (o : Bool) (s : S c H E) {vs : List V} (l : DaL c.K c.ce H (okA c E) vs (xs.map td)) (hz : vs.length ≤ sizeLine) (h : sortO xs = some ys) (q : ∀ p H', S c H' ((en (.ref p) (td ys) o) :: E) → Q (.ref p) H') :
    ∃ ps : List (V × Str), ps.map Prod.fst = vs ∧ SortEnd c.K ps H Q := by
  obtain ⟨h1, rfl⟩ := sortO_of h
  obtain ⟨ps, e1, e2, e3⟩ := sort_dal l
  have hpl : ps.length = vs.length := by rw [← e1, List.length_map]
  refine ⟨ps, e1, fun p hp => ?_, by rw [hpl]; exact hz, fun p hp => q p _ ?_⟩
  · obtain ⟨x, hx, da, e⟩ := e2 p hp
    rw [e]
    exact Ksh.sh da (h1 x hx)
  · exact s.lstB o hp e3 (by rw [List.length_map, (List.mergeSort_perm _ _).length_eq, hpl]; exact hz)
theorem r_sortL {α : Type} [TD α] [Sk α] [Ksh α] {xs ys : List α} (o : Bool) (s : S c H E) (h1 : E[i]? = some (en v (td xs) b)) (h : sortO xs = some ys) (q : ∀ p H', S c H' ((en (.ref p) (td ys) o) :: E) → Q (.ref p) H') : rSortKey c.K [v] [.ty "str"] H Q := by
  obtain ⟨a, vs, rfl, ha, za, la⟩ := s.lst (ds := xs.map td) h1
  obtain ⟨ps, e1, e2⟩ := sort_end o s la za h q
  exact ⟨a, rfl, rfl, .inl ⟨ps, e1 ▸ .of ha, e2⟩⟩
end
/-! ### dicts -/
class Kk (κ : Type) where
  key : κ → Key
  inj : ∀ a b, key a = key b → a = b
instance : Kk Str := ⟨.inr, fun _ _ h => Sum.inr.inj h⟩
instance : Kk Int := ⟨.inl, fun _ _ h => Sum.inl.inj h⟩
class Kt (κ : Type) where
  keys : κ → List Key
  inj : ∀ a b, keys a = keys b → a = b
instance {α β : Type} [Kk α] [Kk β] : Kt (α × β) := ⟨fun p => [Kk.key p.1, Kk.key p.2], fun a b h => by simp at h; exact Prod.ext (Kk.inj _ _ h.1) (Kk.inj _ _ h.2)⟩
instance {α β γ : Type} [Kk α] [Kk β] [Kk γ] : Kt (T3 α β γ) := ⟨fun p => [Kk.key p.a, Kk.key p.b, Kk.key p.c], fun a b h => by
  obtain ⟨a, a', a''⟩ := a; obtain ⟨b, b', b''⟩ := b
  simp at h; cases Kk.inj _ _ h.1; cases Kk.inj _ _ h.2.1; cases Kk.inj _ _ h.2.2; rfl⟩
theorem map_inj {α β : Type} {f : α → β} (hf : ∀ a b, f a = f b → a = b) : ∀ {xs ys : List α}, xs.map f = ys.map f → xs = ys
  | [], [], _ => rfl
  | x :: xs, y :: ys, h => by simp at h; rw [hf _ _ h.1, map_inj hf h.2]
  | [], _ :: _, h => by simp at h
  | _ :: _, [], h => by simp at h
instance {α : Type} [Kk α] : Kt (Tp α) := ⟨fun p => p.l.map Kk.key, fun a b h => by obtain ⟨a⟩ := a; obtain ⟨b⟩ := b; cases map_inj Kk.inj h; rfl⟩
instance {κ ν : Type} [Kk κ] [TD ν] : TD (Dk κ ν) := ⟨fun d => .dk (d.l.map fun p => (Kk.key p.1, td p.2))⟩
instance {κ ν : Type} [Kt κ] [TD ν] : TD (Dt κ ν) := ⟨fun d => .dt (d.l.map fun p => (Kt.keys p.1, td p.2))⟩
theorem putE_of {κ ν : Type} [DecidableEq κ] {l l' : List (κ × ν)} {k : κ} {v : ν} (h : putE l k v = some l') : l.length < LINE ∧ l' = setE l k v := by
  unfold putE at h
  split at h
  · exact ⟨by assumption, (som h).symm⟩
  · cases h
/-- a write, seen in the data -/
theorem setE_map {κ ν κ' : Type} [DecidableEq κ] [DecidableEq κ'] {f : κ → κ'} (hf : ∀ a b, f a = f b → a = b) [TD ν] (l : List (κ × ν)) (k : κ) (v : ν) {kvs : List (κ' × V)} {K ce H ok} {w : V}
    (e : kvs.map Prod.fst = (l.map fun p => (f p.1, td p.2)).map Prod.fst) (d : DaL K ce H ok (kvs.map Prod.snd) ((l.map fun p => (f p.1, td p.2)).map Prod.snd)) (hw : Da K ce H ok w (td v)) :
    (L2.putK kvs (f k) w).map Prod.fst = ((setE l k v).map fun p => (f p.1, td p.2)).map Prod.fst ∧ DaL K ce H ok ((L2.putK kvs (f k) w).map Prod.snd) (((setE l k v).map fun p => (f p.1, td p.2)).map Prod.snd) := by
  have anyE : (kvs.any fun kv => decide (kv.1 = f k)) = hasE l k := by
    unfold hasE
    clear d
    induction kvs generalizing l with
    | nil => cases l with | nil => rfl | cons _ _ => cases e
    | cons q kvs ih =>
      cases l with
      | nil => cases e
      | cons p l =>
        simp only [List.map_cons, List.cons.injEq] at e
        rw [List.any_cons, List.any_cons, ih l e.2]
        have : decide (q.1 = f k) = decide (p.1 = k) := by
          rw [e.1]
          by_cases h : p.1 = k
          · rw [h]; simp
          · rw [decide_eq_false h, decide_eq_false fun z => h (hf _ _ z)]
        rw [this]
  unfold L2.putK setE
  rw [anyE]
  cases hasE l k with
  | true =>
    rw [if_pos rfl, if_pos rfl]
    clear anyE
    induction kvs generalizing l with
    | nil => cases l with | nil => exact ⟨rfl, .nil⟩ | cons _ _ => cases e
    | cons q kvs ih =>
      cases l with
      | nil => cases e
      | cons p l =>
        simp only [List.map_cons, List.cons.injEq] at e
        cases d with
        | cons d1 d2 =>
          obtain ⟨i1, i2⟩ := ih l e.2 d2
          have hq : (q.1 = f k) ↔ (p.1 = k) := by rw [e.1]; exact ⟨hf _ _, fun h => by rw [h]⟩
          by_cases h : p.1 = k
          · simp only [List.map_cons, if_pos h, if_pos (hq.mpr h)]
            exact ⟨by rw [i1, e.1], .cons hw i2⟩
          · simp only [List.map_cons, if_neg h, if_neg fun z => h (hq.mp z)]
            exact ⟨by rw [i1, e.1], .cons d1 i2⟩
  | false =>
    rw [if_neg Bool.false_ne_true, if_neg Bool.false_ne_true]
    refine ⟨by simp [e], ?_⟩
    simp only [List.map_append, List.map_cons, List.map_nil] at d ⊢
    exact d.append (.one hw)
section
variable {c : Cfg} {H : Hp} {E : List Ent} {i j k : Nat} {v w : V} {b b' : Bool} {Q : VK}
theorem putK_len {κ : Type} [DecidableEq κ] (kvs : List (κ × V)) (k : κ) (v : V) : (L2.putK kvs k v).length ≤ kvs.length + 1 := by
  unfold L2.putK
  split
  · rw [List.length_map]; omega
  · rw [List.length_append]; simp
/-- {} -/
theorem r_dnewK {κ ν : Type} [Kk κ] [TD ν] (s : S c H E) (q : ∀ p H', S c H' (ow p (td (Dk.mk (κ := κ) (ν := ν) [])) :: E) → Q (.ref p) H') {σ : St} : tDNewK σ H Q := fun p hp =>
  q p _ (s.newO hp fun ok hk => .dk upd_same (Nat.zero_le _) rfl .nil)
theorem r_dnewT {κ ν : Type} [Kt κ] [TD ν] (s : S c H E) (q : ∀ p H', S c H' (ow p (td (Dt.mk (κ := κ) (ν := ν) [])) :: E) → Q (.ref p) H') {σ : St} : tDNewT σ H Q := fun p hp =>
  q p _ (s.newO hp fun ok hk => .dt upd_same (Nat.zero_le _) rfl .nil)
def DPutQ (nx : Hp → Prop) (v : V) : V → V → Hp → Prop := fun x y H3 => ∃ a H4, x = .ref a ∧ DPut H3 a y v H4 ∧ nx H4
/-- d[k] = v, texts or ints as keys -/
theorem r_dputK {κ ν : Type} [Kk κ] [DecidableEq κ] [TD ν] {l l' : List (κ × ν)} {a : Addr} {kk : κ} {x : ν} {nx : Hp → Prop} (s : S c H E) (h1 : E[i]? = some (ow a (td (Dk.mk l)))) (hv : Da c.K c.ce H (okA c E) w (td x)) (h : putE l kk x = some l')
    (q : ∀ H', S c H' (E.set i (ow a (td (Dk.mk l')))) → nx H') : DPutQ nx w (.ref a) (kV (Kk.key kk)) H := by
  obtain ⟨hl, rfl⟩ := putE_of h
  have o := s.own h1
  cases o with
  | @dk kvs _ hH hz e d =>
    have hlen : kvs.length = l.length := by
      have := congrArg List.length e
      rw [List.length_map, List.length_map, List.length_map] at this
      exact this
    obtain ⟨e', d'⟩ := setE_map Kk.inj l kk x e d hv
    refine ⟨a, _, rfl, .k hH (by rw [hlen, ← LINE_eq]; exact hl), q _ (s.put h1 (.dk upd_same ?_ e' (d'.mono (s.keepOwn h1) fun a o _ => o)))⟩
    have := putK_len kvs (Kk.key kk) w
    rw [LINE_eq] at hl
    omega
theorem r_dputT {κ ν : Type} [Kt κ] [DecidableEq κ] [TD ν] {l l' : List (κ × ν)} {a t : Addr} {kk : κ} {x : ν} {nx : Hp → Prop} (s : S c H E) (h1 : E[i]? = some (ow a (td (Dt.mk l)))) (ht : H t = some (.tup ((Kt.keys kk).map kV))) (hv : Da c.K c.ce H (okA c E) w (td x)) (h : putE l kk x = some l')
    (q : ∀ H', S c H' (E.set i (ow a (td (Dt.mk l')))) → nx H') : DPutQ nx w (.ref a) (.ref t) H := by
  obtain ⟨hl, rfl⟩ := putE_of h
  have o := s.own h1
  cases o with
  | @dt kvs _ hH hz e d =>
    have hlen : kvs.length = l.length := by
      have := congrArg List.length e
      rw [List.length_map, List.length_map, List.length_map] at this
      exact this
    obtain ⟨e', d'⟩ := setE_map Kt.inj l kk x e d hv
    refine ⟨a, _, rfl, .t hH ht (by rw [hlen, ← LINE_eq]; exact hl), q _ (s.put h1 (.dt upd_same ?_ e' (d'.mono (s.keepOwn h1) fun a o _ => o)))⟩
    have := putK_len kvs (Kt.keys kk) w
    rw [LINE_eq] at hl
    omega
/-- a tuple of keys stands as it must -/
class Ktd (κ : Type) [TD κ] [Kt κ] : Prop where
  at_ : ∀ {K : PySem.W.Frag} {ce : Str → Addr} {H : Hp} {ok : Addr → Prop} {v : V} {x : κ}, Da K ce H ok v (td x) → (Kt.keys x ≠ []) → ∃ t, v = .ref t ∧ H t = some (.tup ((Kt.keys x).map kV))
  td_ : ∀ {K : PySem.W.Frag} {ce : Str → Addr} {H : Hp} {ok : Addr → Prop} {t : Addr} {x : κ}, H t = some (.tup ((Kt.keys x).map kV)) → (Kt.keys x).length ≤ sizeLine → Da K ce H ok (.ref t) (td x)
class Kkd (κ : Type) [TD κ] [Kk κ] : Prop where
  at_ : ∀ x : κ, td x = .sc (kV (Kk.key x))
instance : Kkd Str := ⟨fun _ => rfl⟩
instance : Kkd Int := ⟨fun _ => rfl⟩
theorem kk_da {κ : Type} [TD κ] [Kk κ] [Kkd κ] {K ce H ok} {v : V} {x : κ} (h : Da K ce H ok v (td x)) : v = kV (Kk.key x) := by rw [Kkd.at_] at h; exact h.ofSc
theorem kk_td {κ : Type} [TD κ] [Kk κ] [Kkd κ] {K ce H ok} (x : κ) : Da K ce H ok (kV (Kk.key x)) (td x) := by rw [Kkd.at_]; exact .sc _
theorem tupAt_ne {K : PySem.W.Frag} {a : Addr} {vs : List V} (h : TupAt K H a vs) (hn : vs ≠ []) : H a = some (.tup vs) := by
  rcases h with h | ⟨rfl, _⟩
  · exact h
  · exact absurd rfl hn
instance {α β : Type} [TD α] [Kk α] [Kkd α] [TD β] [Kk β] [Kkd β] : Ktd (α × β) where
  at_ := fun h _ => by
    cases h with
    | tup h z l => cases l with | cons a l => cases l with | cons b l => cases l; cases kk_da a; cases kk_da b; exact ⟨_, rfl, tupAt_ne h (by simp)⟩
  td_ := fun h hz => .tup (.inl h) (by rw [List.length_map]; exact hz) (.cons (kk_td _) (.cons (kk_td _) .nil))
instance {α β γ : Type} [TD α] [Kk α] [Kkd α] [TD β] [Kk β] [Kkd β] [TD γ] [Kk γ] [Kkd γ] : Ktd (T3 α β γ) where
  at_ := fun h _ => by
    cases h with
    | tup h z l => cases l with | cons a l => cases l with | cons b l => cases l with | cons d l => cases l; cases kk_da a; cases kk_da b; cases kk_da d; exact ⟨_, rfl, tupAt_ne h (by simp)⟩
  td_ := fun h hz => .tup (.inl h) (by rw [List.length_map]; exact hz) (.cons (kk_td _) (.cons (kk_td _) (.cons (kk_td _) .nil)))
theorem S.rdk (s : S c H E) {kds : List (Key × D)} (hk : E[k]? = some (en v (.dk kds) b)) : ∃ a kvs, v = .ref a ∧ Rd H a (.dK kvs) ∧ kvs.length ≤ sizeLine ∧ kvs.map Prod.fst = kds.map Prod.fst ∧ DaL c.K c.ce H (okA c E) (kvs.map Prod.snd) (kds.map Prod.snd) := by
  rcases s.enG hk with ⟨a, rfl, w⟩ | w
  · cases w with
    | dk h z e l => exact ⟨a, _, rfl, .inl h, z, e, l⟩
  · cases w with
    | dk o h z e l => exact ⟨_, _, rfl, h, z, e, l⟩
theorem S.rdt (s : S c H E) {kds : List (List Key × D)} (hk : E[k]? = some (en v (.dt kds) b)) : ∃ a kvs, v = .ref a ∧ Rd H a (.dT kvs) ∧ kvs.length ≤ sizeLine ∧ kvs.map Prod.fst = kds.map Prod.fst ∧ DaL c.K c.ce H (okA c E) (kvs.map Prod.snd) (kds.map Prod.snd) := by
  rcases s.enG hk with ⟨a, rfl, w⟩ | w
  · cases w with
    | dt h z e l => exact ⟨a, _, rfl, .inl h, z, e, l⟩
  · cases w with
    | dt o h z e l => exact ⟨_, _, rfl, h, z, e, l⟩
theorem keysK_dal {κ : Type} [TD κ] [Kk κ] [Kkd κ] {K ce ok} : ∀ xs : List κ, DaL K ce H ok (xs.map fun x => kV (Kk.key x)) (xs.map td)
  | [] => .nil
  | x :: xs => .cons (kk_td x) (keysK_dal xs)
/-- sorted(d, key=str) -/
theorem r_sortK {κ ν : Type} [TD κ] [Kk κ] [Kkd κ] [TD ν] [Sk κ] [Ksh κ] {l : List (κ × ν)} {ys : List κ} (o : Bool) (s : S c H E) (h1 : E[i]? = some (en v (td (Dk.mk l)) b)) (h : sortO (l.map Prod.fst) = some ys) (q : ∀ p H', S c H' ((en (.ref p) (td ys) o) :: E) → Q (.ref p) H') : rSortKey c.K [v] [.ty "str"] H Q := by
  obtain ⟨a, kvs, rfl, hr, hz, e, d⟩ := s.rdk (kds := l.map fun p => (Kk.key p.1, td p.2)) h1
  have ek : kvs.map (fun kv => kV kv.1) = (l.map Prod.fst).map fun x => kV (Kk.key x) := by
    have := congrArg (List.map kV) e
    rw [List.map_map, List.map_map, List.map_map] at this
    rw [List.map_map]
    exact this
  obtain ⟨ps, e1, e2⟩ := sort_end o s (xs := l.map Prod.fst) (keysK_dal (l.map Prod.fst)) (by rw [← ek, List.length_map]; exact hz) h q
  exact ⟨a, rfl, rfl, .inr (.inl ⟨kvs, ps, hr, by rw [e1, ek], e2⟩)⟩
theorem r_sortT {κ ν : Type} [TD κ] [Kt κ] [Ktd κ] [TD ν] [Sk κ] [Ksh κ] {l : List (κ × ν)} {ys : List κ} (hn : ∀ x : κ, (Kt.keys x).length ≤ sizeLine) (o : Bool) (s : S c H E) (h1 : E[i]? = some (en v (td (Dt.mk l)) b)) (h : sortO (l.map Prod.fst) = some ys) (q : ∀ p H', S c H' ((en (.ref p) (td ys) o) :: E) → Q (.ref p) H') : rSortKey c.K [v] [.ty "str"] H Q := by
  obtain ⟨a, kvs, rfl, hr, hz, e, d⟩ := s.rdt (kds := l.map fun p => (Kt.keys p.1, td p.2)) h1
  have hlen : kvs.length = l.length := by
    have := congrArg List.length e
    rw [List.length_map, List.length_map, List.length_map] at this
    exact this
  refine ⟨a, rfl, rfl, .inr (.inr ⟨kvs, hr, fun as hl hat => ?_⟩)⟩
  refine sort_end o s (xs := l.map Prod.fst) ?_ (by rw [List.length_map, hl]; exact hz) h q
  have main : ∀ (kvs : List (List Key × V)) (l : List (κ × ν)) (as : List Addr), kvs.map Prod.fst = (l.map fun p => (Kt.keys p.1, td p.2)).map Prod.fst → as.length = kvs.length →
      (∀ (i : Nat) (k : List Key) (v : V) (q : Addr), kvs[i]? = some (k, v) → as[i]? = some q → H q = some (.tup (k.map kV))) → DaL c.K c.ce H (okA c E) (as.map V.ref) ((l.map Prod.fst).map td) := by
    intro kvs
    induction kvs with
    | nil =>
      intro l as e hl _
      cases as with
      | nil => cases l with | nil => exact .nil | cons _ _ => cases e
      | cons _ _ => cases hl
    | cons kv kvs ih =>
      intro l as e hl hat
      cases l with
      | nil => cases e
      | cons p l =>
        cases as with
        | nil => cases hl
        | cons a as =>
          simp only [List.map_cons, List.cons.injEq] at e
          have h0 := hat 0 kv.1 kv.2 a rfl rfl
          rw [e.1] at h0
          exact .cons (Ktd.td_ h0 (hn _)) (ih l as e.2 (by simpa using hl) fun i k v q h1 h2 => hat (i + 1) k v q (by simpa using h1) (by simpa using h2))
  exact main kvs l as e hl hat
end
end FB

/-! own classes: instances made, their fields, methods, properties -/
namespace FB
open PySem L2
open PyProof.Rows (envOfC)
open ClX (CRead CVal tCVal)
section
variable {P : Program} {w : World} {K : PySem.W.Frag} {mg : Str → Option Value} {base : Heap} {k : Nat} {f : Addr} {fd : FuncData} {ps : List Str} {sp : Sp}
/-- a def that raises nothing -/
theorem Fun.okG0 {x qual : Str} {st : Stmt} {N : List Str} (F : Fun K x qual st f fd) (Sc : FnScope N ps (defScope st)) (len : ∀ vs H Q E, sp vs H Q E → vs.length = ps.length)
    (hb : ∀ (cdv : Value) (A : Around) (o : List Env) (s : Shared) (H : Hp) (vs : List V) (Q : VK) (E : XK), RG k (A.deeper (envOfC qual (defScope st) s.heap.objs.size f cdv)) → sp vs H Q E →
      ∃ t, PSs (cxOf (L2.CX P w) P w K mg base N qual (defScope st) f cdv A o s H E).nox (defBody st) t ∧ t { nx := fun _ H' => Q .non H', rt := Q } (start N vs) H) : FnB P w K mg base (k + 1) f fd ps sp :=
  Fun.okG F Sc len fun cdv A o s H vs Q E hr hs => let ⟨t, h, q⟩ := hb cdv A o s H vs Q E hr hs; ⟨t, h.nox, q⟩
end
section
variable {P : Program} {w : World} {K : PySem.W.Frag} {mg : Str → Option Value} {base : Heap} {k : Nat} {f : Addr} {fd : FuncData} {ps : List Str} {sp : Sp} {x qual : Str} {params : Arguments} {body : List Stmt} {scope : Scope} {dvs : List V} {kws : List (Str × V)}
/-- a def with defaults -/
theorem FunD.okG0 {N : List Str} (F : FunD K x qual params body scope dvs kws f fd) (Sc : FnScope N ps scope) (len : ∀ vs H Q E, sp vs H Q E → vs.length = ps.length)
    (hb : ∀ (cdv : Value) (A : Around) (o : List Env) (s : Shared) (H : Hp) (vs : List V) (Q : VK) (E : XK), RG k (A.deeper (envOfC qual scope s.heap.objs.size f cdv)) → sp vs H Q E →
      ∃ t, PSs (cxOf (L2.CX P w) P w K mg base N qual scope f cdv A o s H E).nox body t ∧ t { nx := fun _ H' => Q .non H', rt := Q } (start N vs) H) : FnB P w K mg base (k + 1) f fd ps sp := by
  obtain ⟨oc, od, dV, kV, doc, pm, an, cdv, ct, osl, rfl, lk, hcd, _, _⟩ := F.ex
  exact fnB_of lk hcd Sc len fun A o s H vs Q E hr hs => let ⟨t, h, q⟩ := hb cdv A o s H vs Q E hr hs; ⟨t, h.nox, q⟩
end
section
variable {c : Cfg} {H : Hp} {E : List Ent} {i j k : Nat} {v w : V} {b b' : Bool} {Q : VK} {cn f : Str} {ns : List Str} {fds : List (Str × D)}
theorem S.made (s : S c H E) {x dx : Addr} (hx : H x = none) (hd : H dx = none) (hn : dx ≠ x) : S c (upd (upd H dx (.own x)) x (.ins (c.ce cn) dx [])) (ow x (.obj cn []) :: E) := by
  have s1 : S c (upd H dx (.own x)) E := s.go (T := []) (fun _ z => nomatch z) (S.keepNew hd) (fun _ z => nomatch z) s.nd (fun a h => .inl h) fun e he => .inl ⟨he, fun _ _ z => nomatch z⟩
  exact s1.newO (by rw [upd_ne (Ne.symm hn)]; exact hx) fun ok hk => .obj upd_same (by simp) rfl .nil
theorem S.insAt (s : S c H E) (hk : E[k]? = some (en v (.obj cn fds) b)) : ∃ a dx fs, v = .ref a ∧ H a = some (.ins (c.ce cn) dx fs) ∧ fs.length ≤ 100 ∧ fs.map Prod.fst = fds.map Prod.fst ∧ DaL c.K c.ce H (okA c E) (fs.map Prod.snd) (fds.map Prod.snd) := by
  rcases s.enG hk with ⟨a, rfl, w⟩ | w
  · cases w with
    | obj h z e l => exact ⟨a, _, _, rfl, h, z, e, l⟩
  · cases w with
    | obj o h z e l => exact ⟨_, _, _, rfl, h, z, e, l⟩
theorem lookup_ix {α : Type} : ∀ {fs : List (Str × α)} {i : Nat} {f : Str} {x : α}, (fs.map Prod.fst).Nodup → fs[i]? = some (f, x) → fs.lookup f = some x
  | [], i, f, x, _, h => by simp at h
  | p :: fs, 0, f, x, _, h => by simp at h; subst h; simp [List.lookup]
  | p :: fs, i + 1, f, x, hn, h => by
    simp at h
    rw [List.map_cons, List.nodup_cons] at hn
    have ne : f ≠ p.1 := fun z => hn.1 (z ▸ List.mem_map.mpr ⟨_, List.mem_of_getElem? h, rfl⟩)
    obtain ⟨p1, p2⟩ := p
    rw [List.lookup_cons, beq_eq_false_iff_ne.mpr ne]
    exact lookup_ix hn.2 h
theorem lookup_no {α : Type} : ∀ {fs : List (Str × α)} {f : Str}, f ∉ fs.map Prod.fst → fs.lookup f = none
  | [], f, _ => rfl
  | p :: fs, f, h => by
    rw [List.map_cons, List.mem_cons, not_or] at h
    obtain ⟨p1, p2⟩ := p
    rw [List.lookup_cons, beq_eq_false_iff_ne.mpr h.1]
    exact lookup_no h.2
theorem fld_at {K : PySem.W.Frag} {ce : Str → Addr} {ok : Addr → Prop} {fs : List (Str × V)} {d : D} (e : fs.map Prod.fst = fds.map Prod.fst) (l : DaL K ce H ok (fs.map Prod.snd) (fds.map Prod.snd)) (hi : fds[i]? = some (f, d)) : ∃ w, fs[i]? = some (f, w) ∧ Da K ce H ok w d := by
  obtain ⟨w, h1, h2⟩ := l.get (i := i) (d := d) (by rw [List.getElem?_map, hi]; rfl)
  rw [List.getElem?_map] at h1
  cases hf : fs[i]? with
  | none => rw [hf] at h1; cases h1
  | some p =>
    rw [hf] at h1
    cases h1
    have h3 : (fs.map Prod.fst)[i]? = (fds.map Prod.fst)[i]? := by rw [e]
    rw [List.getElem?_map, List.getElem?_map, hf, hi] at h3
    cases h3
    exact ⟨_, rfl, h2⟩
/-! fields -/
def RFld (K : PySem.W.Frag) (f : Str) (Q : VK) : VK := fun x H1 => ∃ a C dx fs v, x = .ref a ∧ H1 a = some (.ins C dx fs) ∧ Cls K C ∧ NoAttr K C f ∧ fs.lookup f = some v ∧ Q v H1
theorem w_fld {K : PySem.W.Frag} {ta : TE} {σ : St} (h : ta σ H (RFld K f Q)) : tFld K ta f σ H Q := h
theorem r_fld (s : S c H E) (hc : Cls c.K (c.ce cn)) (ha : NoAttr c.K (c.ce cn) f) (hn : ns.Nodup) (hk : E[k]? = some (en v (.obj cn fds) b)) (e : fds.map Prod.fst = ns) {d : D} (hi : fds[i]? = some (f, d)) (q : ∀ w, S c H (fz w d :: E) → Q w H) : RFld c.K f Q v H := by
  obtain ⟨a, dx, fs, rfl, h, z, e2, l⟩ := s.insAt hk
  obtain ⟨w, h1, h2⟩ := fld_at e2 l hi
  exact ⟨a, _, dx, fs, w, rfl, h, hc, ha, lookup_ix (by rw [e2, e]; exact hn) h1, q w (s.add h2)⟩
theorem r_fldS (s : S c H E) (hc : Cls c.K (c.ce cn)) (ha : NoAttr c.K (c.ce cn) f) (hn : ns.Nodup) (hk : E[k]? = some (en v (.obj cn fds) b)) (e : fds.map Prod.fst = ns) {u : V} (hi : fds[i]? = some (f, .sc u)) (q : Q u H) : RFld c.K f Q v H := by
  obtain ⟨a, dx, fs, rfl, h, z, e2, l⟩ := s.insAt hk
  obtain ⟨w, h1, h2⟩ := fld_at e2 l hi
  rw [h2.ofSc] at h1
  exact ⟨a, _, dx, fs, u, rfl, h, hc, ha, lookup_ix (by rw [e2, e]; exact hn) h1, q⟩
/-! a field stored -/
def RPut (K : PySem.W.Frag) (f : Str) (y : V) (nx : Hp → Prop) : VK := fun x H2 => ∃ a C dx fs, x = .ref a ∧ H2 a = some (.ins C dx fs) ∧ Cls K C ∧ NoAttr K C f ∧ fs.length < 1000 ∧ nx (upd H2 a (.ins C dx (putF f y fs)))
theorem w_asgF {K : PySem.W.Frag} {ta tv : TE} {nx bk ct : St → Hp → Prop} {rt : VK} {σ : St} (h : tv σ H fun y H1 => ta σ H1 (RPut K f y (nx σ))) : sFld K ta tv f ⟨nx, rt, bk, ct⟩ σ H := h
theorem putF_new : ∀ {fs : List (Str × V)} {y : V}, f ∉ fs.map Prod.fst → putF f y fs = fs ++ [(f, y)]
  | [], _, _ => rfl
  | (g, x) :: fs, y, h => by
    rw [List.map_cons, List.mem_cons, not_or] at h
    show (if g = f then _ else _) = _
    rw [if_neg fun z => h.1 z.symm, putF_new h.2]; rfl
theorem putF_set : ∀ {fs : List (Str × V)} {y : V} {i : Nat} {x : V}, (fs.map Prod.fst).Nodup → fs[i]? = some (f, x) → putF f y fs = fs.set i (f, y)
  | [], _, _, _, _, h => by simp at h
  | (g, z) :: fs, y, 0, x, _, h => by
    simp at h
    show (if g = f then _ else _) = _
    rw [if_pos h.1, h.1]; rfl
  | (g, z) :: fs, y, i + 1, x, hn, h => by
    simp at h
    rw [List.map_cons, List.nodup_cons] at hn
    show (if g = f then _ else _) = _
    have ne : g ≠ f := fun e => hn.1 (List.mem_map.mpr ⟨_, List.mem_of_getElem? h, e.symm⟩)
    rw [if_neg ne, putF_set hn.2 h]; rfl
theorem r_putNew {a : Addr} {d : D} {nx : Hp → Prop} (s : S c H E) (hc : Cls c.K (c.ce cn)) (ha : NoAttr c.K (c.ce cn) f) (hk : E[k]? = some (ow a (.obj cn fds))) (e : fds.map Prod.fst = ns) (hn : f ∉ ns) (hz : ns.length < 100) (hv : Da c.K c.ce H (okA c E) w d)
    (q : ∀ H', S c H' (E.set k (ow a (.obj cn (fds ++ [(f, d)])))) → nx H') : RPut c.K f w nx (.ref a) H := by
  have o := s.own hk
  cases o with
  | obj h z e2 l =>
    have hl := congrArg List.length e2
    have hl2 := congrArg List.length e
    rw [List.length_map, List.length_map] at hl
    rw [List.length_map] at hl2
    refine ⟨a, _, _, _, rfl, h, hc, ha, by omega, q _ (s.put hk ?_)⟩
    rw [putF_new (by rw [e2, e]; exact hn)]
    refine .obj upd_same (by rw [List.length_append]; simp; omega) (by rw [List.map_append, List.map_append, e2]; rfl) ?_
    rw [List.map_append, List.map_append]
    exact (l.append (.one hv)).mono (s.keepOwn hk) fun a o _ => o
theorem r_putSet {a : Addr} {d d0 : D} {nx : Hp → Prop} (s : S c H E) (hc : Cls c.K (c.ce cn)) (ha : NoAttr c.K (c.ce cn) f) (hk : E[k]? = some (ow a (.obj cn fds))) (e : fds.map Prod.fst = ns) (hn : ns.Nodup) (hi : fds[i]? = some (f, d0)) (hv : Da c.K c.ce H (okA c E) w d)
    (q : ∀ H', S c H' (E.set k (ow a (.obj cn (fds.set i (f, d))))) → nx H') : RPut c.K f w nx (.ref a) H := by
  have o := s.own hk
  cases o with
  | obj h z e2 l =>
    obtain ⟨w0, h1, h2⟩ := fld_at e2 l hi
    refine ⟨a, _, _, _, rfl, h, hc, ha, by omega, q _ (s.put hk ?_)⟩
    rw [putF_set (by rw [e2, e]; exact hn) h1]
    have em : ∀ {α : Type} (fs : List (Str × α)) (x : α) (x0 : α), fs[i]? = some (f, x0) → (fs.set i (f, x)).map Prod.fst = fs.map Prod.fst := fun fs x x0 hx => by
      refine List.ext_getElem? fun n => ?_
      rw [List.getElem?_map, List.getElem?_map]
      by_cases hin : n = i
      · subst hin
        rw [List.getElem?_set_self (List.getElem?_eq_some_iff.mp hx).1, hx]; rfl
      · rw [List.getElem?_set_ne (Ne.symm hin)]
    refine .obj upd_same (by rw [List.length_set]; exact z) (by rw [em _ _ _ h1, em _ _ _ hi, e2]) ?_
    rw [List.map_set, List.map_set]
    exact (l.set hv i).mono (s.keepOwn hk) fun a o _ => o
/-! constants of the class -/
def RCon (K : PySem.W.Frag) (f : Str) (Q : VK) : VK := fun x H1 => ∃ a C dx fs v u, x = .ref a ∧ H1 a = some (.ins C dx fs) ∧ Cls K C ∧ Con K C f v u ∧ fs.lookup f = none ∧ Q v H1
theorem w_con {K : PySem.W.Frag} {ta : TE} {σ : St} (h : ta σ H (RCon K f Q)) : tCon K ta f σ H Q := h
theorem r_con {u : V} {uv : Value} (s : S c H E) (hc : Cls c.K (c.ce cn)) (ha : Con c.K (c.ce cn) f u uv) (hk : E[k]? = some (en v (.obj cn fds) b)) (e : fds.map Prod.fst = ns) (hn : f ∉ ns) (q : Q u H) : RCon c.K f Q v H := by
  obtain ⟨a, dx, fs, rfl, h, z, e2, l⟩ := s.insAt hk
  exact ⟨a, _, dx, fs, u, uv, rfl, h, hc, ha, lookup_no (by rw [e2, e]; exact hn), q⟩
def RCVal (K : PySem.W.Frag) (f : Str) (Q : VK) : VK := fun x H1 => ∃ C mc v u, x = .ref C ∧ CRead K C mc ∧ CVal K C mc f v u ∧ Q v H1
theorem w_cval {K : PySem.W.Frag} {ta : TE} {σ : St} (h : ta σ H (RCVal K f Q)) : tCVal K ta f σ H Q := h
theorem r_cval {K : PySem.W.Frag} {C : Addr} {mc : Value} {u : V} {uv : Value} (h1 : CRead K C mc) (h2 : CVal K C mc f u uv) (q : Q u H) : RCVal K f Q (.ref C) H := ⟨C, mc, u, uv, rfl, h1, h2, q⟩
/-! calls -/
theorem w_callG {sp : Sp} {W : WX} {t : TA} {σ : St} (h : t σ H fun vs H1 => sp vs H1 Q (WE W σ)) : tCallG sp W t σ H Q := h
def RProp (C : Addr) (sp : Sp) (Q : VK) : VK := fun x H1 => ∃ a dx fs, x = .ref a ∧ H1 a = some (.ins C dx fs) ∧ sp [.ref a] H1 Q fun _ _ _ => False
theorem w_prop {C : Addr} {sp : Sp} {ta : TE} {σ : St} (h : ta σ H (RProp C sp Q)) : tPropG C sp ta σ H Q := h
theorem r_prop {sp : Sp} (s : S c H E) (hk : E[k]? = some (en v (.obj cn fds) b)) (q : sp [v] H Q fun _ _ _ => False) : RProp (c.ce cn) sp Q v H := by
  obtain ⟨a, dx, fs, rfl, h, _⟩ := s.insAt hk
  exact ⟨a, dx, fs, rfl, h, q⟩
def RMeth (C : Addr) (m : Str) (sp : Sp) (W : WX) (σ : St) (t : TA) (Q : VK) : VK := fun x H1 => ∃ a dx fs, x = .ref a ∧ H1 a = some (.ins C dx fs) ∧ fs.lookup m = none ∧ t σ H1 fun vs H2 => sp (x :: vs) H2 Q (WE W σ)
theorem w_meth {C : Addr} {m : Str} {sp : Sp} {W : WX} {ta : TE} {t : TA} {σ : St} (h : ta σ H (RMeth C m sp W σ t Q)) : tMethG C m sp W ta t σ H Q := h
theorem r_meth {m : Str} {sp : Sp} {W : WX} {σ : St} {t : TA} (s : S c H E) (hk : E[k]? = some (en v (.obj cn fds) b)) (e : fds.map Prod.fst = ns) (hn : m ∉ ns) (q : t σ H fun vs H2 => sp (v :: vs) H2 Q (WE W σ)) : RMeth (c.ce cn) m sp W σ t Q v H := by
  obtain ⟨a, dx, fs, rfl, h, z, e2, l⟩ := s.insAt hk
  exact ⟨a, dx, fs, rfl, h, lookup_no (by rw [e2, e]; exact hn), q⟩
def MkQ (C : Addr) (sp : Sp) (W : WX) (σ : St) (Q : VK) : List V → Hp → Prop := fun vs H1 => ∀ x dx, H1 x = none → H1 dx = none → dx ≠ x → sp (.ref x :: vs) (upd (upd H1 dx (.own x)) x (.ins C dx [])) (fun v H2 => v = .non ∧ Q (.ref x) H2) (WE W σ)
theorem w_make {C : Addr} {sp : Sp} {W : WX} {t : TA} {σ : St} (h : t σ H (MkQ C sp W σ Q)) : tMakeG C sp W t σ H Q := h
theorem r_make {sp : Sp} {W : WX} {σ : St} {vs : List V} (s : S c H E) (q : ∀ x H', S c H' (ow x (.obj cn []) :: E) → sp (.ref x :: vs) H' (fun v H2 => v = .non ∧ Q (.ref x) H2) (WE W σ)) : MkQ (c.ce cn) sp W σ Q vs H := fun x dx h1 h2 h3 => q x _ (s.made h1 h2 h3)
/-- x in o, by __contains__ -/
def rHas (C : Addr) (sp : Sp) (neg : Bool) : R2 := fun x y H Q => ∃ a dx fs, y = .ref a ∧ H a = some (.ins C dx fs) ∧ sp [y, x] H (fun v H' => ∃ t, v = .bl t ∧ Q (.bl (if neg then !t else t)) H') fun _ _ _ => False
section
variable {X : Cx} {n : Nat} {C g : Addr} {sp : Sp}
theorem run_has {pins : List (Addr × Obj)} {σ : St} {s : Shared} {a dx : Addr} {fs : List (Str × V)} {u : Value} {x : V} {R : Value → Shared → Prop} (hm : Meth X.K C "__contains__" g) (F : FnG X.prog X.w X.K X.mg X.base n g sp) (hr : RG n X.A) (I : Inv X pins σ H s) (rx : RelV x u)
    {T : VK} (h : sp [.ref a, x] H T fun _ _ _ => False) (hR : ∀ v s', EP X pins σ T v s' → R v s') : wpAny (model X.prog X.w) X.A (call (.ref g) [.ref a, u]) R X.xe s := by
  refine wpAny_call (codeAny_mono (F X.A X.stack s H [.ref a, u] [.ref a, x] T _ hr I.env0 (.cons rfl (.cons rx .nil)) h) fun r s' hq => ?_)
  cases r with
  | error e =>
    obtain ⟨_, _, _, _, _, _, _, _, _, _, _, _, z⟩ := hq
    exact z.elim
  | ok fl =>
    cases fl with
    | ret u => exact hR _ _ (I.after hq)
    | _ => exact hq.elim
theorem op_has (hm : Meth X.K C "__contains__" g) (F : FnG X.prog X.w X.K X.mg X.base n g sp) (hr : RG n X.A) : OpR X (compareOp .In) (rHas C sp false) := by
  intro pins s σ H x y v u Q I rx ry h
  obtain ⟨a, dx, fs, rfl, ea, h⟩ := h
  cases ry
  obtain ⟨mA, J, _⟩ := ins_get I.hok ea
  obtain ⟨od, J, _⟩ := J.look
  obtain ⟨m, hF⟩ := I.fr
  refine PySem.W.in_K hF I.ok.mod.kin J hm.at_ hm.fn (run_has (C := C) (dx := dx) (fs := fs) hm F hr I rx h fun r s' hq => ?_)
  obtain ⟨z, H', I', rz, t, rfl, q⟩ := hq
  cases rz
  exact wpAny_truthy_bool ⟨.bl t, H', I', rfl, q⟩
theorem op_hasnt (hm : Meth X.K C "__contains__" g) (F : FnG X.prog X.w X.K X.mg X.base n g sp) (hr : RG n X.A) : OpR X (compareOp .NotIn) (rHas C sp true) := by
  intro pins s σ H x y v u Q I rx ry h
  obtain ⟨a, dx, fs, rfl, ea, h⟩ := h
  cases ry
  obtain ⟨mA, J, _⟩ := ins_get I.hok ea
  obtain ⟨od, J, _⟩ := J.look
  obtain ⟨m, hF⟩ := I.fr
  refine PySem.W.notIn_K hF I.ok.mod.kin J hm.at_ hm.fn (run_has (C := C) (dx := dx) (fs := fs) hm F hr I rx h fun r s' hq => ?_)
  obtain ⟨z, H', I', rz, t, rfl, q⟩ := hq
  cases rz
  exact wpAny_truthy_bool ⟨.bl (!t), H', I', rfl, q⟩
end
theorem r_has {sp : Sp} {x : V} {neg : Bool} (s : S c H E) (hk : E[k]? = some (en v (.obj cn fds) b)) (q : sp [v, x] H (fun v H' => ∃ t, v = .bl t ∧ Q (.bl (if neg then !t else t)) H') fun _ _ _ => False) : rHas (c.ce cn) sp neg x v H Q := by
  obtain ⟨a, dx, fs, rfl, h, _⟩ := s.insAt hk
  exact ⟨a, dx, fs, rfl, h, q⟩
end
end FB

/-! further readings -/
namespace FB
open PySem L2
section
variable {c : Cfg} {H : Hp} {E : List Ent} {i j k : Nat} {v w : V} {b b' : Bool} {Q : VK}
theorem upperO_of {x z : Str} (h : upperO x = some z) : x.length ≤ 5592405 ∧ z = Txt.upper x := by
  unfold upperO at h
  split at h
  · exact ⟨by assumption, (som h).symm⟩
  · cases h
theorem r_upper {x z : Str} (h : upperO x = some z) (q : Q (.str z) H) : (fun (x : V) (xs : List V) (H : Hp) (Q : VK) => ∃ a, x = .str a ∧ xs = [] ∧ a.length ≤ 5592405 ∧ Q (.str (Txt.upper a)) H) (.str x) [] H Q := by
  obtain ⟨h1, rfl⟩ := upperO_of h
  exact ⟨x, rfl, rfl, h1, q⟩
theorem strI_of {i : Int} {z : Str} (h : strI i = some z) : i.natAbs.log2 < 1920 ∧ z = toString i := by
  unfold strI at h
  split at h
  · exact ⟨by assumption, (som h).symm⟩
  · cases h
theorem r_strI {i : Int} {z : Str} (h : strI i = some z) (q : Q (.str z) H) : (fun (xs : List V) (H : Hp) (Q : VK) => ∃ i, xs = [.int i] ∧ i.natAbs.log2 < 1920 ∧ Q (.str (toString i)) H) [.int i] H Q := by
  obtain ⟨h1, rfl⟩ := strI_of h
  exact ⟨i, rfl, h1, q⟩
theorem r_lenTd {ds : List D} (s : S c H E) (hk : E[k]? = some (en v (.tup ds) b)) {n : Int} (hn : (ds.length : Int) = n) (q : Q (.int n) H) : rLenQ c.K [v] H Q := by
  obtain ⟨a, vs, rfl, h, z, l⟩ := s.tupl hk
  exact ⟨a, vs, rfl, .inr h, by rw [l.length, hn]; exact q⟩
theorem w_gcons {t : TG} {u : TGs} {x : V} {r : List V} {σ : St} {Q : St → Hp → Prop} (h : t x σ H fun σ' H' => u r σ' H' Q) : gCons t u (x :: r) σ H Q := ⟨x, r, rfl, h⟩
theorem w_gnil {σ : St} {Q : St → Hp → Prop} (h : Q σ H) : gNil [] σ H Q := ⟨rfl, h⟩
theorem g_tup2 {α β : Type} [TD α] [TD β] {x : α × β} {t : TGs} {σ : St} {Q : St → Hp → Prop} (s : S c H E) (hk : E[k]? = some (en v (td x) b)) (q : ∀ v1 v2, S c H (fz v1 (td x.1) :: fz v2 (td x.2) :: E) → t [v1, v2] σ H Q) : gTup c.K 2 t v σ H Q := by
  obtain ⟨a, vs, rfl, h, z, l⟩ := s.tupl (ds := [td x.1, td x.2]) hk
  cases l with | cons d1 l => cases l with | cons d2 l => cases l; exact ⟨a, _, rfl, h, rfl, q _ _ ((s.add d2).add d1)⟩
theorem g_tup3 {α β γ : Type} [TD α] [TD β] [TD γ] {x : T3 α β γ} {t : TGs} {σ : St} {Q : St → Hp → Prop} (s : S c H E) (hk : E[k]? = some (en v (td x) b)) (q : ∀ v1 v2 v3, S c H (fz v1 (td x.a) :: fz v2 (td x.b) :: fz v3 (td x.c) :: E) → t [v1, v2, v3] σ H Q) : gTup c.K 3 t v σ H Q := by
  obtain ⟨a, vs, rfl, h, z, l⟩ := s.tupl (ds := [td x.a, td x.b, td x.c]) hk
  cases l with | cons d1 l => cases l with | cons d2 l => cases l with | cons d3 l => cases l; exact ⟨a, _, rfl, h, rfl, q _ _ _ (((s.add d3).add d2).add d1)⟩
theorem w_asgT {te : TE} {t : TG} {nx bk ct : St → Hp → Prop} {rt : VK} {σ : St} (h : te σ H fun v H1 => t v σ H1 nx) : tAsg te t ⟨nx, rt, bk, ct⟩ σ H := h
/-- isinstance of what stands at an address -/
theorem r_isiL {ds : List D} {U : String} {b1 : Bool} (s : S c H E) (hk : E[k]? = some (en v (.lst ds) b)) (hb : kitB "list" U = some b1) (q : Q (.bl b1) H) : rIsi c.K [v, .ty U] H Q := by
  obtain ⟨a, vs, rfl, h, z, l⟩ := s.lst hk
  exact r_isi (.lst h) hb q
theorem S.tupA (s : S c H E) {ds : List D} (hk : E[k]? = some (en v (.tup ds) b)) : ∃ a vs, v = .ref a ∧ TupAt c.K H a vs := by
  have w := s.dT hk
  cases w with
  | tup h z l => exact ⟨_, _, rfl, h⟩
theorem r_isiT {ds : List D} {U : String} {b1 : Bool} (s : S c H E) (hk : E[k]? = some (en v (.tup ds) b)) (hb : kitB "tuple" U = some b1) (q : Q (.bl b1) H) : rIsi c.K [v, .ty U] H Q := by
  obtain ⟨a, vs, rfl, h⟩ := s.tupA hk
  rcases h with h | ⟨_, h⟩
  · exact r_isi (.tup h) hb q
  · rcases h with (h | ⟨_, h⟩) | ⟨o, its, n, h1, h2, _⟩
    · cases h
    · cases h
    · exact ⟨_, .ty U, .type "tuple", .type U, b1, rfl, .ty U, .kTuple h1 h2, kit_ty hb, q⟩

/-! ### named readings -/
def rListOf (K : PySem.W.Frag) : List V → Hp → VK → Prop := fun xs H Q => ∃ p ys, xs = [.ref p] ∧ (SqL K H p ys ∨ SqT K H p ys) ∧ ∀ l, H l = none → Q (.ref l) (upd H l (.lst ys))
theorem call_listOf {X : Cx} : CallR X (.type "list") (rListOf X.K) := call_list_of
def rTupOf (K : PySem.W.Frag) : List V → Hp → VK → Prop := fun xs H Q => ∃ p ys, xs = [.ref p] ∧ ((SqL K H p ys ∧ ∀ l, H l = none → Q (.ref l) (upd H l (.tup ys))) ∨ (SqT K H p ys ∧ Q (.ref p) H))
theorem call_tupOf {X : Cx} : CallR X (.type "tuple") (rTupOf X.K) := call_tuple_of
def rStrI : List V → Hp → VK → Prop := fun xs H Q => ∃ i, xs = [.int i] ∧ i.natAbs.log2 < 1920 ∧ Q (.str (toString i)) H
theorem call_strI {X : Cx} : CallR X (.type "str") rStrI := call_str_int
def rUpper : V → List V → Hp → VK → Prop := fun x xs H Q => ∃ a, x = .str a ∧ xs = [] ∧ a.length ≤ 5592405 ∧ Q (.str (Txt.upper a)) H
theorem mt_upper' {X : Cx} : MtR X "str.upper" rUpper := mt_upper
theorem q_listL {α : Type} [TD α] {xs : List α} (o : Bool) (s : S c H E) (h1 : E[i]? = some (en v (td xs) b)) (q : ∀ p H', S c H' ((en (.ref p) (td xs) o) :: E) → Q (.ref p) H') : rListOf c.K [v] H Q := r_listL o s h1 q
theorem q_listT {α : Type} [TD α] {xs : Tp α} (o : Bool) (s : S c H E) (h1 : E[i]? = some (en v (td xs) b)) (q : ∀ p H', S c H' ((en (.ref p) (td xs.l) o) :: E) → Q (.ref p) H') : rListOf c.K [v] H Q := r_listT o s h1 q
theorem q_tupL {α : Type} [TD α] {xs : List α} (s : S c H E) (h1 : E[i]? = some (en v (td xs) b)) (q : ∀ p H', S c H' (fz (.ref p) (td (Tp.mk xs)) :: E) → Q (.ref p) H') : rTupOf c.K [v] H Q := r_tupL s h1 q
theorem q_tupT {α : Type} [TD α] {xs : Tp α} (s : S c H E) (h1 : E[i]? = some (en v (td xs) b)) (q : Q v H) : rTupOf c.K [v] H Q := r_tupT s h1 q
theorem q_strI {i : Int} {z : Str} (h : strI i = some z) (q : Q (.str z) H) : rStrI [.int i] H Q := r_strI h q
theorem q_upper {x z : Str} (h : upperO x = some z) (q : Q (.str z) H) : rUpper (.str x) [] H Q := r_upper h q
/-- a call with keywords -/
def KwQ (r : List V → List V → Hp → VK → Prop) (tk : TA) (σ : St) (Q : VK) : List V → Hp → Prop := fun vs H1 => tk σ H1 fun zs H2 => r vs zs H2 Q
theorem w_ckw {r : List V → List V → Hp → VK → Prop} {t tk : TA} {σ : St} (h : t σ H (KwQ r tk σ Q)) : tCKw r t tk σ H Q := h
theorem w_kw {r : List V → List V → Hp → VK → Prop} {tk : TA} {σ : St} {vs : List V} (h : tk σ H fun zs H2 => r vs zs H2 Q) : KwQ r tk σ Q vs H := h
/-- a dict written -/
def DvQ (td ty : TE) (σ : St) (nx : Hp → Prop) : VK := fun v H1 => td σ H1 fun x H2 => ty σ H2 fun y H3 => DPutQ nx v x y H3
theorem w_asgD {tv tdd ty : TE} {nx bk ct : St → Hp → Prop} {rt : VK} {σ : St} (h : tv σ H (DvQ tdd ty σ (nx σ))) : sDPut tdd ty tv ⟨nx, rt, bk, ct⟩ σ H := h
theorem w_dv {tdd ty : TE} {σ : St} {nx : Hp → Prop} (h : tdd σ H fun x H2 => ty σ H2 fun y H3 => DPutQ nx v x y H3) : DvQ tdd ty σ nx v H := h
theorem q_dputK {κ ν : Type} [Kk κ] [DecidableEq κ] [TD ν] {l l' : List (κ × ν)} {a : Addr} (kk : κ) {x : ν} {nx : Hp → Prop} (s : S c H E) (h1 : E[i]? = some (ow a (td (Dk.mk l)))) (hv : Da c.K c.ce H (okA c E) w (td x)) (h : putE l kk x = some l')
    (q : ∀ H', S c H' (E.set i (ow a (td (Dk.mk l')))) → nx H') : DPutQ nx w (.ref a) (kV (Kk.key kk)) H := r_dputK s h1 hv h q
theorem q_dputT {κ ν : Type} [TD κ] [Kt κ] [Ktd κ] [DecidableEq κ] [TD ν] {l l' : List (κ × ν)} {a : Addr} {kk : κ} {x : ν} {u : V} {nx : Hp → Prop} (s : S c H E) (h1 : E[i]? = some (ow a (td (Dt.mk l)))) (h2 : E[j]? = some (en u (td kk) b)) (hne : Kt.keys kk ≠ []) (hv : Da c.K c.ce H (okA c E) w (td x)) (h : putE l kk x = some l')
    (q : ∀ H', S c H' (E.set i (ow a (td (Dt.mk l')))) → nx H') : DPutQ nx w (.ref a) u H := by
  obtain ⟨t, rfl, ht⟩ := Ktd.at_ (s.dT h2) hne
  exact r_dputT s h1 ht hv h q
/-- in an own object -/
def rHas1 (C : Addr) (sp : Sp) : R2 := fun x y H Q => ∃ a dx fs, y = .ref a ∧ H a = some (.ins C dx fs) ∧ sp [y, x] H (fun v H' => ∃ t, v = .bl t ∧ Q (.bl t) H') fun _ _ _ => False
def rHas0 (C : Addr) (sp : Sp) : R2 := fun x y H Q => ∃ a dx fs, y = .ref a ∧ H a = some (.ins C dx fs) ∧ sp [y, x] H (fun v H' => ∃ t, v = .bl t ∧ Q (.bl (!t)) H') fun _ _ _ => False
section
variable {X : Cx} {n : Nat} {C g : Addr} {sp : Sp}
theorem op_has1 (hm : Meth X.K C "__contains__" g) (F : FnG X.prog X.w X.K X.mg X.base n g sp) (hr : RG n X.A) : OpR X (compareOp .In) (rHas1 C sp) := fun pins s σ H x y v u Q I rx ry h => op_has hm F hr pins s σ H x y v u Q I rx ry h
theorem op_has0 (hm : Meth X.K C "__contains__" g) (F : FnG X.prog X.w X.K X.mg X.base n g sp) (hr : RG n X.A) : OpR X (compareOp .NotIn) (rHas0 C sp) := fun pins s σ H x y v u Q I rx ry h => op_hasnt hm F hr pins s σ H x y v u Q I rx ry h
end
theorem r_has1 {sp : Sp} {x : V} {cn : Str} {fds : List (Str × D)} (s : S c H E) (hk : E[k]? = some (en v (.obj cn fds) b)) (q : sp [v, x] H (fun v H' => ∃ t, v = .bl t ∧ Q (.bl t) H') fun _ _ _ => False) : rHas1 (c.ce cn) sp x v H Q := by
  obtain ⟨a, dx, fs, rfl, h, _⟩ := s.insAt hk
  exact ⟨a, dx, fs, rfl, h, q⟩
theorem r_has0 {sp : Sp} {x : V} {cn : Str} {fds : List (Str × D)} (s : S c H E) (hk : E[k]? = some (en v (.obj cn fds) b)) (q : sp [v, x] H (fun v H' => ∃ t, v = .bl t ∧ Q (.bl (!t)) H') fun _ _ _ => False) : rHas0 (c.ce cn) sp x v H Q := by
  obtain ⟨a, dx, fs, rfl, h, _⟩ := s.insAt hk
  exact ⟨a, dx, fs, rfl, h, q⟩
theorem l_tupd {ds : List D} {F : L2.It → Hp → Prop} (s : S c H E) (hk : E[k]? = some (en v (.tup ds) b)) (h : ∀ J, Way.Is c.K (.tup v) J → F J H) : LoopT c.K F v H := l_tup s hk h
theorem S.static (s : S c H E) {t : Addr} (h : SqT c.K (fun _ => none) t []) : S c H ((en (.ref t) (.tup []) false) :: E) := s.add (.tup (.inr ⟨rfl, h⟩) (Nat.zero_le _) .nil)
end
end FB

/-! a written tuple of owned lists, walked -/
namespace FB
open PySem L2
theorem capL_of {α : Type} {xs : List α} {u : Unit} (h : capL xs = some u) : xs.length < LINE := by
  unfold capL at h
  split at h
  · assumption
  · cases h
section
variable {c : Cfg} {H : Hp} {E : List Ent} {k : Nat} {w : V} {Q : VK}
theorem r_appLd {ds : List D} {d : D} {a : Addr} (s : S c H E) (hk : E[k]? = some (ow a (.lst ds))) (hw : Da c.K c.ce H (okA c E) w d) (h : ds.length < LINE) (q : ∀ H', S c H' (E.set k (ow a (.lst (ds ++ [d])))) → Q .non H') : rAppend (.ref a) [w] H Q := by
  have o := s.own hk
  cases o with
  | @lst vs _ ha hz' l =>
    have hl := l.length
    rw [LINE_eq] at h
    exact ⟨a, vs, w, rfl, rfl, ha, by omega, q _ (s.put hk (.lst upd_same (by rw [List.length_append, List.length_singleton]; omega) ((l.append (DaL.one hw)).mono (s.keepOwn hk) fun a o _ => o)))⟩
theorem r_newT3 {vs : List V} {F : L2.It → Hp → Prop} (s : S c H E) (hz : vs.length ≤ sizeLine) (q : ∀ t H', S c H' E → H' t = some (.tup vs) → F (Itt c.K t) H') : NewT (LoopT c.K F) vs H := by
  refine ⟨hz, fun t ht => ⟨t, rfl, ⟨vs, .inl (.inl upd_same)⟩, q t _ ?_ upd_same⟩⟩
  exact s.go (T := []) (fun _ z => nomatch z) (S.keepNew ht) (fun _ z => nomatch z) s.nd (fun a h => .inl h) fun e he => .inl ⟨he, fun _ _ z => nomatch z⟩
theorem forT {K : PySem.W.Frag} {a : Addr} {xs : List V} {g : TG} {tb : TS} {nx bk ct : St → Hp → Prop} {rt : VK} {σ : St} {H : Hp} (Pv : Nat → St → Hp → Prop) (h0 : Pv 0 σ H) (hl : ∀ i σ H, i ≤ xs.length → Pv i σ H → SqT K H a xs)
    (hs : ∀ i x σ H, xs[i]? = some x → Pv i σ H → g x σ H fun σ2 H2 => tb ⟨Pv (i + 1), rt, nx, Pv (i + 1)⟩ σ2 H2) (hd : ∀ σ H, Pv xs.length σ H → nx σ H) : ForB (Itt K a) g tb ⟨nx, rt, bk, ct⟩ σ H := for_tup Pv h0 hl hs hd
end
theorem binds_nil {K : PySem.W.Frag} {fd : FuncData} {ps : List Str} {v : V} (h : ∃ ds, Vals ([v].drop 1) ds ∧ Binds K fd ps ds) : Binds K fd ps [] := by
  obtain ⟨ds, h1, h2⟩ := h
  cases h1
  exact h2
end FB

/-! further readings: dicts read, values that may be None, parts taken out and put back, whiles, breaks -/
namespace FB
open PySem L2

/-! ### dicts read -/
section
variable {c : Cfg} {H : Hp} {E : List Ent} {i j k m : Nat} {v w u : V} {b b' : Bool} {Q : VK}
theorem getE_map {κ ν κ' : Type} [DecidableEq κ] [DecidableEq κ'] {f : κ → κ'} (hf : ∀ a b, f a = f b → a = b) [TD ν] (kk : κ) {K ce ok} : ∀ (l : List (κ × ν)) {kvs : List (κ' × V)},
    kvs.map Prod.fst = (l.map fun p => (f p.1, td p.2)).map Prod.fst → DaL K ce H ok (kvs.map Prod.snd) ((l.map fun p => (f p.1, td p.2)).map Prod.snd) →
    (getE l kk = none ∧ valV kvs (f kk) = none) ∨ ∃ x w, getE l kk = some x ∧ valV kvs (f kk) = some w ∧ Da K ce H ok w (td x)
  | [], kvs, e, _ => by
    cases kvs with
    | nil => exact .inl ⟨rfl, rfl⟩
    | cons _ _ => cases e
  | p :: l, kvs, e, d => by
    cases kvs with
    | nil => cases e
    | cons q kvs =>
      simp only [List.map_cons, List.cons.injEq] at e
      cases d with
      | cons d1 d2 =>
        by_cases h : p.1 = kk
        · refine .inr ⟨p.2, q.2, ?_, ?_, d1⟩
          · unfold getE; rw [List.find?_cons_of_pos (by simp [h])]; rfl
          · exact valV_pos (e.1.trans (by rw [h]))
        · have h2 : ¬ q.1 = f kk := fun z => h (hf _ _ (e.1.symm.trans z))
          have e1 : getE (p :: l) kk = getE l kk := by unfold getE; rw [List.find?_cons_of_neg (by simp [h])]
          rw [e1, valV_neg h2]
          exact getE_map hf kk l e.2 d2
theorem hasE_get {κ ν : Type} [DecidableEq κ] (l : List (κ × ν)) (k : κ) : hasE l k = (getE l k).isSome := by
  unfold hasE getE
  rw [Option.isSome_map]
  induction l with
  | nil => rfl
  | cons p l ih =>
    by_cases h : p.1 = k
    · rw [List.any_cons, List.find?_cons_of_pos (by simp [h])]; simp [h]
    · rw [List.any_cons, List.find?_cons_of_neg (by simp [h]), ih]; simp [h]
def DgQ (x : V) (Q : VK) : VK := fun y H2 => ∃ a v, x = .ref a ∧ DGet H2 a y (some v) ∧ Q v H2
theorem w_dget {ta tb : TE} {σ : St} (h : ta σ H fun x H1 => tb σ H1 (DgQ x Q)) : tDGet ta tb σ H Q := h
def DinQ (y : V) (Q : VK) : VK := fun x H2 => ∃ a o, x = .ref a ∧ DGet H2 a y o ∧ Q (.bl o.isSome) H2
theorem w_din {ta tb : TE} {σ : St} (h : ta σ H fun y H1 => tb σ H1 (DinQ y Q)) : tDIn ta tb σ H Q := h
def DniQ (y : V) (Q : VK) : VK := fun x H2 => ∃ a o, x = .ref a ∧ DGet H2 a y o ∧ Q (.bl (!o.isSome)) H2
theorem w_dni {ta tb : TE} {σ : St} (h : ta σ H fun y H1 => tb σ H1 (DniQ y Q)) : tDNotIn ta tb σ H Q := h
def G2x (ty tx : TE) (σ : St) (Q : VK) : VK := fun x H1 => ∃ a, x = .ref a ∧ IsD H1 a ∧ ty σ H1 fun y H2 => tx σ H2 fun z H3 => ∃ o, DGet H3 a y o ∧ Q (o.getD z) H3
def G2y (a : Addr) (tx : TE) (σ : St) (Q : VK) : VK := fun y H2 => tx σ H2 fun z H3 => ∃ o, DGet H3 a y o ∧ Q (o.getD z) H3
def G2z (a : Addr) (y : V) (Q : VK) : VK := fun z H3 => ∃ o, DGet H3 a y o ∧ Q (o.getD z) H3
theorem w_get2 {ta ty tx : TE} {σ : St} (h : ta σ H (G2x ty tx σ Q)) : tDGet2 ta ty tx σ H Q := h
theorem w_g2y {a : Addr} {tx : TE} {σ : St} (h : tx σ H (G2z a w Q)) : G2y a tx σ Q w H := h
section
variable {κ ν : Type} [DecidableEq κ] [TD ν] {l : List (κ × ν)} {kk : κ} {x : ν}
/-- what the dict says of a key -/
theorem S.getK [Kk κ] (s : S c H E) (h1 : E[i]? = some (en v (td (Dk.mk l)) b)) (kk : κ) : ∃ a o, v = .ref a ∧ DGet H a (kV (Kk.key kk)) o ∧ ((getE l kk = none ∧ o = none) ∨ ∃ x w, getE l kk = some x ∧ o = some w ∧ Da c.K c.ce H (okA c E) w (td x)) := by
  obtain ⟨a, kvs, rfl, hr, hz, e, d⟩ := s.rdk (kds := l.map fun p => (Kk.key p.1, td p.2)) h1
  refine ⟨a, valV kvs (Kk.key kk), rfl, .inl ⟨kvs, _, hr, rfl, rfl⟩, ?_⟩
  rcases getE_map Kk.inj kk l e d with h | ⟨x, w, h⟩
  · exact .inl h
  · exact .inr ⟨x, w, h⟩
theorem S.getT [TD κ] [Kt κ] [Ktd κ] (s : S c H E) (h1 : E[i]? = some (en v (td (Dt.mk l)) b)) (h2 : E[j]? = some (en u (td kk) b')) (hne : Kt.keys kk ≠ []) : ∃ a o, v = .ref a ∧ DGet H a u o ∧ ((getE l kk = none ∧ o = none) ∨ ∃ x w, getE l kk = some x ∧ o = some w ∧ Da c.K c.ce H (okA c E) w (td x)) := by
  obtain ⟨a, kvs, rfl, hr, hz, e, d⟩ := s.rdt (kds := l.map fun p => (Kt.keys p.1, td p.2)) h1
  obtain ⟨t, rfl, ht⟩ := Ktd.at_ (s.dT h2) hne
  refine ⟨a, valV kvs (Kt.keys kk), rfl, .inr ⟨kvs, _, t, hr, rfl, ht, rfl⟩, ?_⟩
  rcases getE_map Kt.inj kk l e d with h | ⟨x, w, h⟩
  · exact .inl h
  · exact .inr ⟨x, w, h⟩
theorem r_dgetK [Kk κ] (s : S c H E) (h1 : E[i]? = some (en v (td (Dk.mk l)) b)) (h : getE l kk = some x) (q : ∀ w, S c H (fz w (td x) :: E) → Q w H) : DgQ v Q (kV (Kk.key kk)) H := by
  obtain ⟨a, o, rfl, g, ⟨z, _⟩ | ⟨x', w, e, rfl, d⟩⟩ := s.getK h1 kk
  · rw [h] at z; cases z
  · rw [h] at e; cases e; exact ⟨a, w, rfl, g, q w (s.add d)⟩
theorem r_dgetT [TD κ] [Kt κ] [Ktd κ] (s : S c H E) (h1 : E[i]? = some (en v (td (Dt.mk l)) b)) (h2 : E[j]? = some (en u (td kk) b')) (hne : Kt.keys kk ≠ []) (h : getE l kk = some x) (q : ∀ w, S c H (fz w (td x) :: E) → Q w H) : DgQ v Q u H := by
  obtain ⟨a, o, rfl, g, ⟨z, _⟩ | ⟨x', w, e, rfl, d⟩⟩ := s.getT h1 h2 hne
  · rw [h] at z; cases z
  · rw [h] at e; cases e; exact ⟨a, w, rfl, g, q w (s.add d)⟩
theorem r_dinK [Kk κ] (s : S c H E) (h1 : E[i]? = some (en v (td (Dk.mk l)) b)) (q : Q (.bl (hasE l kk)) H) : DinQ (kV (Kk.key kk)) Q v H := by
  obtain ⟨a, o, rfl, g, ⟨z, rfl⟩ | ⟨x', w, e, rfl, d⟩⟩ := s.getK h1 kk
  · refine ⟨a, none, rfl, g, ?_⟩; rw [hasE_get, z] at q; exact q
  · refine ⟨a, some w, rfl, g, ?_⟩; rw [hasE_get, e] at q; exact q
theorem r_dniK [Kk κ] (s : S c H E) (h1 : E[i]? = some (en v (td (Dk.mk l)) b)) (q : Q (.bl (!hasE l kk)) H) : DniQ (kV (Kk.key kk)) Q v H := by
  obtain ⟨a, o, rfl, g, ⟨z, rfl⟩ | ⟨x', w, e, rfl, d⟩⟩ := s.getK h1 kk
  · refine ⟨a, none, rfl, g, ?_⟩; rw [hasE_get, z] at q; exact q
  · refine ⟨a, some w, rfl, g, ?_⟩; rw [hasE_get, e] at q; exact q
theorem r_dinT [TD κ] [Kt κ] [Ktd κ] (s : S c H E) (h1 : E[i]? = some (en v (td (Dt.mk l)) b)) (h2 : E[j]? = some (en u (td kk) b')) (hne : Kt.keys kk ≠ []) (q : Q (.bl (hasE l kk)) H) : DinQ u Q v H := by
  obtain ⟨a, o, rfl, g, ⟨z, rfl⟩ | ⟨x', w, e, rfl, d⟩⟩ := s.getT h1 h2 hne
  · refine ⟨a, none, rfl, g, ?_⟩; rw [hasE_get, z] at q; exact q
  · refine ⟨a, some w, rfl, g, ?_⟩; rw [hasE_get, e] at q; exact q
theorem r_dniT [TD κ] [Kt κ] [Ktd κ] (s : S c H E) (h1 : E[i]? = some (en v (td (Dt.mk l)) b)) (h2 : E[j]? = some (en u (td kk) b')) (hne : Kt.keys kk ≠ []) (q : Q (.bl (!hasE l kk)) H) : DniQ u Q v H := by
  obtain ⟨a, o, rfl, g, ⟨z, rfl⟩ | ⟨x', w, e, rfl, d⟩⟩ := s.getT h1 h2 hne
  · refine ⟨a, none, rfl, g, ?_⟩; rw [hasE_get, z] at q; exact q
  · refine ⟨a, some w, rfl, g, ?_⟩; rw [hasE_get, e] at q; exact q
theorem r_get2 {κ : Type} [Kk κ] {ν : Type} [TD ν] {l : List (κ × ν)} {ty tx : TE} {σ : St} (s : S c H E) (h1 : E[i]? = some (en v (td (Dk.mk l)) b)) (h : ∀ a, v = .ref a → ty σ H (G2y a tx σ Q)) : G2x ty tx σ Q v H := by
  obtain ⟨a, kvs, rfl, hr, _⟩ := s.rdk (kds := l.map fun p => (Kk.key p.1, td p.2)) h1
  exact ⟨a, rfl, .inl ⟨kvs, hr⟩, h a rfl⟩
theorem r_get2s {κ : Type} [DecidableEq κ] [Kk κ] {ν : Type} [Sc ν] {l : List (κ × ν)} {kk : κ} {x : ν} {a : Addr} (e : v = .ref a) (s : S c H E) (h1 : E[i]? = some (en v (td (Dk.mk l)) b)) (q : Q (Sc.sv ((getE l kk).getD x)) H) : G2z a (kV (Kk.key kk)) Q (Sc.sv x) H := by
  obtain ⟨a', o, e', g, r⟩ := s.getK h1 kk
  rw [e] at e'; cases e'
  refine ⟨o, g, ?_⟩
  rcases r with ⟨z, rfl⟩ | ⟨x', w, e2, rfl, d⟩
  · rw [z] at q; exact q
  · rw [e2] at q
    have d' : Da c.K c.ce H (okA c E) w (.sc (Sc.sv x')) := by rw [← Sc.sc x']; exact d
    rw [d'.ofSc.symm.symm]; exact q
end

/-! ### values that may be None -/
instance {α : Type} [TD α] : TD (Option α) := ⟨fun o => match o with | none => .sc .non | some x => td x⟩
/-- never None -/
class NN (α : Type) [TD α] : Prop where
  nn : ∀ {K : PySem.W.Frag} {ce : Str → Addr} {H : Hp} {ok : Addr → Prop} {v : V} {x : α}, Da K ce H ok v (td x) → v ≠ .non
instance : NN Str := ⟨fun h => by cases h; exact fun z => nomatch z⟩
instance : NN Int := ⟨fun h => by cases h; exact fun z => nomatch z⟩
instance : NN Bool := ⟨fun h => by cases h; exact fun z => nomatch z⟩
instance {α : Type} [TD α] : NN (List α) := ⟨fun h => by cases h; exact fun z => nomatch z⟩
instance {α : Type} [TD α] : NN (Tp α) := ⟨fun h => by cases h; exact fun z => nomatch z⟩
instance {α β : Type} [TD α] [TD β] : NN (α × β) := ⟨fun h => by cases h; exact fun z => nomatch z⟩
instance {α β γ : Type} [TD α] [TD β] [TD γ] : NN (T3 α β γ) := ⟨fun h => by cases h; exact fun z => nomatch z⟩
instance {α β : Type} [TD α] [TD β] : NN (L2' α β) := ⟨fun h => by cases h; exact fun z => nomatch z⟩
instance {κ ν : Type} [Kk κ] [TD ν] : NN (Dk κ ν) := ⟨fun h => by cases h; exact fun z => nomatch z⟩
instance {κ ν : Type} [Kt κ] [TD ν] : NN (Dt κ ν) := ⟨fun h => by cases h; exact fun z => nomatch z⟩
section
variable {c : Cfg} {H : Hp} {E : List Ent} {i j k m : Nat} {v w u : V} {b b' : Bool} {Q : VK} {as : List Addr}
theorem S.dTe {d : D} (s : S c H E) (hk : E[k]? = some ⟨v, d, as⟩) : Da c.K c.ce H (fun _ => True) v d :=
  Dw.freeze (s.it _ (List.mem_of_getElem? hk)) (fun _ _ _ => trivial) fun _ _ => trivial
def rIsN : R2 := fun x y H Q => y = .non ∧ Q (.bl (decide (x = .non))) H
def rNotN : R2 := fun x y H Q => y = .non ∧ Q (.bl (!decide (x = .non))) H
theorem op_isN' {X : Cx} : OpR X (compareOp .Is) rIsN := op_isN
theorem op_notN' {X : Cx} : OpR X (compareOp .IsNot) rNotN := op_notN
theorem isN_eq {α : Type} [TD α] [NN α] {K ce ok} {o : Option α} (h : Da K ce H ok v (td o)) : decide (v = .non) = o.isNone := by
  cases o with
  | none => have h' : Da K ce H ok v (.sc .non) := h; cases h'; rfl
  | some x => exact decide_eq_false (NN.nn (x := x) h)
theorem r_isN {α : Type} [TD α] [NN α] {o : Option α} (s : S c H E) (hk : E[k]? = some ⟨v, td o, as⟩) (q : Q (.bl o.isNone) H) : rIsN v .non H Q := ⟨rfl, by rw [isN_eq (s.dTe hk)]; exact q⟩
theorem r_notN {α : Type} [TD α] [NN α] {o : Option α} (s : S c H E) (hk : E[k]? = some ⟨v, td o, as⟩) (q : Q (.bl (!o.isNone)) H) : rNotN v .non H Q := ⟨rfl, by rw [isN_eq (s.dTe hk)]; exact q⟩
/-- None as an entry -/
theorem S.addN (s : S c H E) (α : Type) [TD α] : S c H (FB.fz V.non (td (none : Option α)) :: E) := s.add (w := V.non) (d := .sc .non) (.sc _)

/-! ### lists -/
theorem seqN_of {i : Int} {n j : Nat} (h : ixI n i = some j) : ixN n i = some j := h
/-- xs.pop() -/
theorem r_popL {α : Type} [TD α] {xs ys : List α} {x : α} {a : Addr} (s : S c H E) (hk : E[k]? = some (ow a (td xs))) (h : popL xs = some (x, ys)) (q : ∀ w H', S c H' (fz w (td x) :: E.set k (ow a (td ys))) → Q w H') : rPop (.ref a) [] H Q := by
  have hx : xs = ys ++ [x] := by
    unfold popL at h
    cases e : xs.getLast? with
    | none => rw [e] at h; cases h
    | some y =>
      rw [e] at h; cases som h
      obtain ⟨ys', rfl⟩ := List.getLast?_eq_some_iff.mp e
      simp
  subst hx
  have o := s.own hk
  cases o with
  | @lst vs _ ha hz l =>
    have hl : vs.length = ys.length + 1 := by rw [l.length, List.length_map, List.length_append]; rfl
    obtain ⟨w, g1, g2⟩ := l.get (i := ys.length) (d := td x) (by simp)
    have e1 : vs.dropLast = vs.take ys.length := by rw [List.dropLast_eq_take, hl]; rfl
    have l2 := (l.take ys.length).mono (s.keepOwn (o := .lst vs.dropLast) hk) (ok' := okA c E) fun a o _ => o
    have e2 : ((ys ++ [x]).map td).take ys.length = ys.map td := by simp
    rw [e2] at l2
    have s2 := s.put (d' := td ys) hk (Ow.lst (vs := vs.dropLast) upd_same (Nat.le_trans (by rw [List.length_dropLast]; omega) hz) (by rw [e1]; exact (e1 ▸ l2)))
    have hw := g2.mono (s.keepOwn (o := .lst vs.dropLast) hk) (ok' := okA c (E.set k (ow a (td ys)))) fun b ok _ => by
      unfold okA at ok ⊢; rw [keys_set (e' := ow a (td ys)) hk rfl]; exact ok
    refine ⟨a, vs, w, rfl, rfl, ha, by rw [hl]; exact g1, q w _ (s2.add hw)⟩
/-- xs.index(x) of texts -/
theorem r_index {xs : List Str} {x : Str} {n : Int} (s : S c H E) (hk : E[k]? = some ⟨v, td xs, as⟩) (h : indexL xs x = some n) (q : Q (.int n) H) : rIndex c.K v [.str x] H Q := by
  have d : Da c.K c.ce H (fun _ => True) v (.lst (xs.map td)) := s.dTe hk
  cases d with
  | @lst a vs _ o ha hz l =>
    have e : vs = xs.map V.str := DaL.scs (ws := xs.map V.str) (by rw [List.map_map]; exact l)
    subst e
    unfold indexL at h
    split at h
    case h_2 => cases h
    rename_i j h1
    cases som h
    obtain ⟨hlt, g1, g2⟩ := List.findIdx?_eq_some_iff_getElem.mp h1
    refine ⟨a, _, .str x, j, .str xs[j], rfl, rfl, .of ha, rfl, ?_, by simp [hlt], ?_, fun m z' hm hz' => ?_, q⟩
    · rw [List.all_map]; exact List.all_eq_true.mpr fun _ _ => rfl
    · have := of_decide_eq_true g1
      show (xs[j] == x) = true
      rw [this]; exact beq_self_eq_true x
    · rw [List.getElem?_map] at hz'
      have hm2 : m < xs.length := Nat.lt_trans hm hlt
      rw [List.getElem?_eq_getElem hm2] at hz'
      cases hz'
      have := g2 m hm
      show (xs[m] == x) = false
      simpa using this
/-! ### texts -/
def rLtS : R2 := fun x y H Q => ∃ i j, x = .str i ∧ y = .str j ∧ Q (.bl (decide (i.cps.toList < j.cps.toList))) H
theorem op_ltS {X : Cx} : OpR X (compareOp .Lt) rLtS := op_lt_str
theorem r_ltS {x y : Str} (q : Q (.bl (ltS x y)) H) : rLtS (.str x) (.str y) H Q := ⟨x, y, rfl, rfl, q⟩
def rStartS : V → List V → Hp → VK → Prop := fun x xs H Q => ∃ a b, x = .str a ∧ xs = [.str b] ∧ Q (.bl (Txt.startswith a b)) H
theorem mt_startswith' {X : Cx} : MtR X "str.startswith" rStartS := mt_startswith
theorem r_startS {x y : Str} (q : Q (.bl (Txt.startswith x y)) H) : rStartS (.str x) [.str y] H Q := ⟨x, y, rfl, rfl, q⟩
def rEndS : V → List V → Hp → VK → Prop := fun x xs H Q => ∃ a b, x = .str a ∧ xs = [.str b] ∧ Q (.bl (Txt.endswith a b)) H
theorem mt_endswith' {X : Cx} : MtR X "str.endswith" rEndS := mt_endswith
theorem r_endS {x y : Str} (q : Q (.bl (Txt.endswith x y)) H) : rEndS (.str x) [.str y] H Q := ⟨x, y, rfl, rfl, q⟩
def rJoin (K : PySem.W.Frag) : V → List V → Hp → VK → Prop := fun x xs H Q => ∃ a p, ∃ ys : List Str, x = .str a ∧ xs = [.ref p] ∧ (SqL K H p (ys.map V.str) ∨ SqT K H p (ys.map V.str)) ∧
    (ys.map (·.length)).sum + ys.length * a.length ≤ 16777216 ∧ Q (.str (Txt.join a ys)) H
theorem mt_join' {X : Cx} : MtR X "str.join" (rJoin X.K) := mt_join
theorem joinO_of {x z : Str} {xs : List Str} (h : joinO x xs = some z) : (xs.map (·.length)).sum + xs.length * x.length ≤ 16777216 ∧ z = Txt.join x xs := by
  unfold joinO at h
  split at h
  · exact ⟨by assumption, (som h).symm⟩
  · cases h
theorem r_joinL {x z : Str} {xs : List Str} (s : S c H E) (hk : E[k]? = some ⟨v, td xs, as⟩) (h : joinO x xs = some z) (q : Q (.str z) H) : rJoin c.K (.str x) [v] H Q := by
  obtain ⟨h1, rfl⟩ := joinO_of h
  have d : Da c.K c.ce H (fun _ => True) v (.lst (xs.map td)) := s.dTe hk
  cases d with
  | @lst a vs _ o ha hz l =>
    have e : vs = xs.map V.str := DaL.scs (ws := xs.map V.str) (by rw [List.map_map]; exact l)
    subst e
    exact ⟨x, a, xs, rfl, rfl, .inl (.of ha), h1, q⟩
theorem r_joinT {x z : Str} {xs : Tp Str} (s : S c H E) (hk : E[k]? = some ⟨v, td xs, as⟩) (h : joinO x xs.l = some z) (q : Q (.str z) H) : rJoin c.K (.str x) [v] H Q := by
  obtain ⟨h1, rfl⟩ := joinO_of h
  have d : Da c.K c.ce H (fun _ => True) v (.tup (xs.l.map td)) := s.dTe hk
  cases d with
  | @tup a vs _ ha hz l =>
    have e : vs = xs.l.map V.str := DaL.scs (ws := xs.l.map V.str) (by rw [List.map_map]; exact l)
    subst e
    exact ⟨x, a, xs.l, rfl, rfl, .inr ha.sq, h1, q⟩
def rSplit : V → List V → Hp → VK → Prop := fun x xs H Q => ∃ a b, x = .str a ∧ xs = [.str b] ∧ (b.length == 0) = false ∧ a.length + 2 ≤ sizeLine ∧ rNewStrs (Txt.split a b) H Q
theorem mt_split' {X : Cx} : MtR X "str.split" rSplit := mt_split
theorem strs_dal {K ce ok} (xs : List Str) : DaL K ce H ok (xs.map V.str) (xs.map td) := by
  have := DaL.of_scs (K := K) (ce := ce) (H := H) (ok := ok) (xs.map V.str)
  rw [List.map_map] at this; exact this
theorem r_split {x y : Str} {zs : List Str} (o : Bool) (s : S c H E) (h : splitO x y = some zs) (hl : zs.length ≤ LINE) (q : ∀ p H', S c H' (en (.ref p) (td zs) o :: E) → Q (.ref p) H') : rSplit (.str x) [.str y] H Q := by
  unfold splitO at h
  split at h
  · rename_i hc
    cases som h
    rw [LINE_eq] at hc
    refine ⟨x, y, rfl, rfl, by simpa using hc.2, hc.1, fun p hp => q p _ (s.lstB o hp (strs_dal _) ?_)⟩
    rw [List.length_map, ← LINE_eq]; exact hl
  · cases h
def rPart : V → List V → Hp → VK → Prop := fun x xs H Q => ∃ a b, x = .str a ∧ xs = [.str b] ∧ (b.length == 0) = false ∧ a.length ≤ sizeLine ∧
    ∀ p, H p = none → Q (.ref p) (upd H p (.tup [.str (Txt.partition a b).1, .str (Txt.partition a b).2.1, .str (Txt.partition a b).2.2]))
theorem mt_partition' {X : Cx} : MtR X "str.partition" rPart := mt_partition
theorem r_part {x y : Str} {z : T3 Str Str Str} (s : S c H E) (h : partO x y = some z) (q : ∀ p H', S c H' (fz (.ref p) (td z) :: E) → Q (.ref p) H') : rPart (.str x) [.str y] H Q := by
  unfold partO at h
  split at h
  · rename_i hc
    cases som h
    rw [LINE_eq] at hc
    exact ⟨x, y, rfl, rfl, by simpa using hc.2, hc.1, fun p hp => q p _ (s.tup hp (.cons (.sc _) (.cons (.sc _) (.cons (.sc _) .nil))) (by show 3 ≤ sizeLine; decide))⟩
  · cases h
/-- a part of an f-string -/
def FmtQ (Q : VK) : VK := fun x H1 => (∃ y : Str, x = .str y ∧ y.length ≤ sizeLine ∧ Q (.str y) H1) ∨ ∃ i : Int, x = .int i ∧ i.natAbs.log2 < 1920 ∧ Q (.str (toString i)) H1
theorem w_fmt {te : TE} {σ : St} (h : te σ H (FmtQ Q)) : tFmt te σ H Q := h
def JsQ (ts : List TE) (acc : Str) (σ : St) (Q : Str → Hp → Prop) : VK := fun x H1 => ∃ y : Str, x = .str y ∧ (acc ++ y).length ≤ sizeLine ∧ tJs ts (acc ++ y) σ H1 Q
theorem w_js {t : TE} {ts : List TE} {acc : Str} {σ : St} {Q : Str → Hp → Prop} (h : t σ H (JsQ ts acc σ Q)) : tJs (t :: ts) acc σ H Q := h
theorem w_jn {acc : Str} {σ : St} {Q : Str → Hp → Prop} (h : Q acc H) : tJs [] acc σ H Q := h
theorem addS_of {x y z : Str} (h : addS x y = some z) : x.length + y.length ≤ LINE ∧ z = x ++ y := by
  unfold addS at h
  split at h
  · exact ⟨by assumption, (som h).symm⟩
  · cases h
theorem r_fmtS {y z acc : Str} {ts : List TE} {σ : St} {Q : Str → Hp → Prop} (h : addS acc y = some z) (q : tJs ts z σ H Q) : FmtQ (JsQ ts acc σ Q) (.str y) H := by
  obtain ⟨h1, rfl⟩ := addS_of h
  rw [LINE_eq] at h1
  exact .inl ⟨y, rfl, by omega, y, rfl, by rw [Str.length_append]; exact h1, q⟩
theorem r_fmtI {i : Int} {y z acc : Str} {ts : List TE} {σ : St} {Q : Str → Hp → Prop} (hi : strI i = some y) (h : addS acc y = some z) (q : tJs ts z σ H Q) : FmtQ (JsQ ts acc σ Q) (.int i) H := by
  obtain ⟨h1, rfl⟩ := addS_of h
  obtain ⟨h2, rfl⟩ := strI_of hi
  rw [LINE_eq] at h1
  exact .inr ⟨i, rfl, h2, toString i, rfl, by rw [Str.length_append]; exact h1, q⟩
theorem r_fmtC {y z acc : Str} {ts : List TE} {σ : St} {Q : Str → Hp → Prop} (h : addS acc y = some z) (q : tJs ts z σ H Q) : JsQ ts acc σ Q (.str y) H := by
  obtain ⟨h1, rfl⟩ := addS_of h
  rw [LINE_eq] at h1
  exact ⟨y, rfl, by rw [Str.length_append]; exact h1, q⟩
/-! ### int(b), x += y -/
theorem w_aug {te : TE} {ti : TIp} {nx bk ct : St → Hp → Prop} {rt : VK} {σ : St} (h1 : σ[i]? = some (some v)) (h : te σ H fun y H1 => ti v y H1 fun z H2 => nx (σ.set i (some z)) H2) : tAug i te ti ⟨nx, rt, bk, ct⟩ σ H := ⟨v, h1, h⟩
theorem r_ipI {f : Int → Int → Int} {x y : Int} (q : Q (.int (f x y)) H) : ipI f (.int x) (.int y) H Q := ⟨x, y, rfl, rfl, q⟩
/-! ### dicts copied, listed -/
def rDictD : List V → Hp → VK → Prop := fun xs H Q => ∃ (a : Addr) (kvs : List (Key × V)), xs = [.ref a] ∧ Rd H a (.dK kvs) ∧ ∀ p, H p = none → Q (.ref p) (upd H p (.dK kvs))
theorem call_dictD' {X : Cx} : CallR X (.type "dict") rDictD := call_dictD
def rListDk : List V → Hp → VK → Prop := fun xs H Q => ∃ (a : Addr) (kvs : List (Key × V)), xs = [.ref a] ∧ Rd H a (.dK kvs) ∧ ∀ p, H p = none → Q (.ref p) (upd H p (.lst (kvs.map fun kv => kV kv.1)))
theorem call_listDk {X : Cx} (hc : X.calm = true) : CallR X (.type "list") rListDk := call_listD hc
theorem S.dkB (s : S c H E) (o : Bool) {p : Addr} {kvs : List (Key × V)} {kds : List (Key × D)} (hp : H p = none) (hz : kvs.length ≤ sizeLine) (e : kvs.map Prod.fst = kds.map Prod.fst) (h : DaL c.K c.ce H (okA c E) (kvs.map Prod.snd) (kds.map Prod.snd)) : S c (upd H p (.dK kvs)) (en (.ref p) (.dk kds) o :: E) := by
  have s1 : S c (upd H p (.dK kvs)) (ow p (.dk kds) :: E) := s.newO hp fun ok hk => .dk upd_same hz e (h.mono (s.tr (T := []) (fun _ z => nomatch z) (S.keepNew hp)) hk)
  cases o with
  | true => exact s1
  | false => exact s1.freeze rfl
theorem r_dictD {κ ν : Type} [Kk κ] [TD ν] {d : Dk κ ν} (o : Bool) (s : S c H E) (h1 : E[i]? = some (en v (td d) b)) (q : ∀ p H', S c H' (en (.ref p) (td d) o :: E) → Q (.ref p) H') : rDictD [v] H Q := by
  obtain ⟨a, kvs, rfl, hr, hz, e, l⟩ := s.rdk (kds := d.l.map fun p => (Kk.key p.1, td p.2)) h1
  exact ⟨a, kvs, rfl, hr, fun p hp => q p _ (s.dkB o hp hz e l)⟩
theorem r_listD {κ ν : Type} [TD κ] [Kk κ] [Kkd κ] [TD ν] {d : Dk κ ν} (o : Bool) (s : S c H E) (h1 : E[i]? = some (en v (td d) b)) (q : ∀ p H', S c H' (en (.ref p) (td (d.l.map Prod.fst)) o :: E) → Q (.ref p) H') : rListDk [v] H Q := by
  obtain ⟨a, kvs, rfl, hr, hz, e, l⟩ := s.rdk (kds := d.l.map fun p => (Kk.key p.1, td p.2)) h1
  refine ⟨a, kvs, rfl, hr, fun p hp => q p _ (s.lstB o hp ?_ (by rw [List.length_map]; exact hz))⟩
  have ek : (kvs.map fun kv => kV kv.1) = (d.l.map Prod.fst).map fun x => kV (Kk.key x) := by
    have := congrArg (List.map kV) e
    rw [List.map_map, List.map_map, List.map_map] at this
    rw [List.map_map]
    exact this
  rw [ek]; exact keysK_dal _
def rLenD : List V → Hp → VK → Prop := fun xs H Q => ∃ a kvs, xs = [V.ref a] ∧ H a = some (.dK kvs) ∧ Q (.int kvs.length) H
/-! ### whiles, breaks -/
def WhQ (tb : TS) (rt : VK) (nx : St → Hp → Prop) (Inv : Nat → St → Hp → Prop) (m : Nat) (σ : St) : Bool → Hp → Prop := fun b H1 => if b = true then ∃ N : St → Hp → Prop, (∀ σ' H', N σ' H' → ∃ m', m' < m ∧ Inv m' σ' H') ∧ tb ⟨N, rt, nx, N⟩ σ H1 else nx σ H1
theorem w_wh {tb : TS} {nx : St → Hp → Prop} {rt : VK} {σ : St} {H : Hp} {Inv : Nat → St → Hp → Prop} {m n : Nat} {b : Bool} (hm : m < n) (h1 : b = true → tb ⟨Inv m, rt, nx, Inv m⟩ σ H) (h2 : b = false → nx σ H) : WhQ tb rt nx Inv n σ b H := by
  unfold WhQ
  cases b with
  | true => rw [if_pos rfl]; exact ⟨Inv m, fun _ _ h => ⟨m, hm, h⟩, h1 rfl⟩
  | false => rw [if_neg Bool.false_ne_true]; exact h2 rfl
theorem whB {c : TT} {tb : TS} {nx bk ct : St → Hp → Prop} {rt : VK} {σ : St} {H : Hp} (Inv : Nat → St → Hp → Prop) {n : Nat} (h0 : Inv n σ H) (turn : ∀ n σ H, Inv n σ H → c σ H (WhQ tb rt nx Inv n σ)) : tWhile c tb ⟨nx, rt, bk, ct⟩ σ H :=
  ⟨Inv, ⟨n, h0⟩, turn⟩
theorem while_cons {ρ β σ : Type} {n : Nat} {s : σ} {f : σ → Option (Lp ρ β σ)} {r : Lp ρ β σ} (h : whileB n s f = some r) :
    ∃ m q, m < n ∧ f s = some q ∧ (∀ s', q = .go s' → whileB m s' f = some r) ∧ (∀ b, q = .brk b → r = .brk b) ∧ (∀ v, q = .ret v → r = .ret v) := by
  cases n with
  | zero => cases h
  | succ n =>
    obtain ⟨q, h1, h2⟩ := bnd h
    refine ⟨n, q, Nat.lt_succ_self n, h1, fun s' e => ?_, fun s' e => ?_, fun v e => ?_⟩
    all_goals subst e
    · exact h2
    · exact (som h2).symm
    · exact (som h2).symm
theorem loopB_cons {α ρ β σ : Type} {x : α} {xs : List α} {s : σ} {f : α → σ → Option (Lp ρ β σ)} {r : Lp ρ β σ} (h : loopB (x :: xs) s f = some r) :
    ∃ q, f x s = some q ∧ (∀ s', q = .go s' → loopB xs s' f = some r) ∧ (∀ b, q = .brk b → r = .brk b) ∧ (∀ v, q = .ret v → r = .ret v) := by
  obtain ⟨q, h1, h2⟩ := bnd h
  refine ⟨q, h1, fun s' e => ?_, fun s' e => ?_, fun v e => ?_⟩
  all_goals subst e
  · exact h2
  · exact (som h2).symm
  · exact (som h2).symm
/-- a for with else -/
def ForBE (J : It) (g : TG) (tb u : TS) (D : Ends) (σ : St) (H : Hp) : Prop := ∃ W : Nat → Nat → St → Hp → Prop, (∃ m, W 0 m σ H) ∧ ∀ i m σ H, W i m σ H →
  (J.stop i H ∧ u D σ H) ∨ (J.go i H ∧ ∃ N : St → Hp → Prop, (∀ σ' H', N σ' H' → ∃ m', m' < m ∧ W (i + 1) m' σ' H') ∧ ∀ x H', J.yld i H x H' → g x σ H' fun σ2 H2 => tb { D with nx := N, ct := N, bk := D.nx } σ2 H2)
theorem forBE {w : Way} {J : It} {α : Type} [TD α] {g : TG} {tb u : TS} {nx bk ct : St → Hp → Prop} {rt : VK} {σ : St} {H : Hp} (xs : List α) (hJ : w.Is c.K J) (Inv : List α → St → Hp → Prop) (h0 : Inv xs σ H) (hG : ∀ l σ H, Inv l σ H → w.At c (xs.map td) H)
    (turn : ∀ d l x σ H, Inv (d :: l) σ H → w.Gives c (xs.map td) (td d) x H → g x σ H fun σ2 H2 => tb ⟨Inv l, rt, nx, Inv l⟩ σ2 H2) (done : ∀ σ H, Inv [] σ H → u ⟨nx, rt, bk, ct⟩ σ H) : ForBE J g tb u ⟨nx, rt, bk, ct⟩ σ H := by
  have W := Way.walk (c := c) (ds := xs.map td) hJ
  refine ⟨fun i m σ H => m + i = (xs.map td).length ∧ Inv (xs.drop i) σ H, ⟨(xs.map td).length, by simp, by simpa using h0⟩, fun i m σ H ⟨hm, hi⟩ => ?_⟩
  by_cases hlt : i < (xs.map td).length
  · refine .inr ⟨W.goes i H hlt (hG _ _ _ hi), Inv (xs.drop (i + 1)), fun σ' H' h => ⟨m - 1, by omega, by omega, h⟩, fun x H' y => ?_⟩
    obtain ⟨e1, d, h1, h2⟩ := W.yields i H x H' hlt (hG _ _ _ hi) y
    subst e1
    rw [List.getElem?_map] at h1
    cases hx : xs[i]? with
    | none => rw [hx] at h1; cases h1
    | some d0 =>
      rw [hx] at h1
      cases som h1
      have hd : xs.drop i = d0 :: xs.drop (i + 1) := by
        obtain ⟨hlt, e⟩ := List.getElem?_eq_some_iff.mp hx
        rw [← e]; exact List.drop_eq_getElem_cons hlt
      exact turn d0 (xs.drop (i + 1)) x σ H' (by rw [← hd]; exact hi) h2
  · have e : i = (xs.map td).length := by omega
    subst e
    refine .inl ⟨W.stops H (hG _ _ _ hi), done σ H ?_⟩
    rw [List.length_map, List.drop_length] at hi
    exact hi
end
section
variable {K : PySem.W.Frag} {g : TG} {tb u : TS} {D : Ends} {σ : St} {H : Hp} {tl : TE} {ta : TA}
theorem w_foeL (h : tl σ H (LoopL K fun J H => ForBE J g tb u D σ H)) : tForE (iList K tl) g tb u D σ H := h
theorem w_foeT (h : tl σ H (LoopT K fun J H => ForBE J g tb u D σ H)) : tForE (iTup K tl) g tb u D σ H := h
theorem w_foeS (h : tl σ H (LoopS fun J H => ForBE J g tb u D σ H)) : tForE (iStr tl) g tb u D σ H := h
theorem w_foeR (h : ta σ H (LoopR fun J H => ForBE J g tb u D σ H)) : tForE (iRng1 ta) g tb u D σ H := h
theorem w_foeR2 (h : ta σ H (LoopR2 fun J H => ForBE J g tb u D σ H)) : tForE (iRng2 ta) g tb u D σ H := h
end
end
end FB

/-! what is owned with all its parts: parts are taken out, changed and put back -/
namespace FB
open PySem L2
mutual
/-- how many things that may change stand in the data -/
def nm : D → Nat
  | .sc _ => 0
  | .tup ds => nmL ds
  | .lst ds => 1 + nmL ds
  | .dk kvs => 1 + nmK kvs
  | .dt kvs => 1 + nmT kvs
  | .obj _ fs => 1 + nmF fs
def nmL : List D → Nat
  | [] => 0
  | d :: ds => nm d + nmL ds
def nmK : List (Key × D) → Nat
  | [] => 0
  | (_, d) :: ds => nm d + nmK ds
def nmT : List (List Key × D) → Nat
  | [] => 0
  | (_, d) :: ds => nm d + nmT ds
def nmF : List (Str × D) → Nat
  | [] => 0
  | (_, d) :: ds => nm d + nmF ds
end
theorem nmK_eq : ∀ kvs : List (Key × D), nmK kvs = nmL (kvs.map Prod.snd)
  | [] => rfl
  | (_, d) :: r => by rw [nmK, List.map_cons, nmL, nmK_eq r]
theorem nmT_eq : ∀ kvs : List (List Key × D), nmT kvs = nmL (kvs.map Prod.snd)
  | [] => rfl
  | (_, d) :: r => by rw [nmT, List.map_cons, nmL, nmT_eq r]
theorem nmF_eq : ∀ kvs : List (Str × D), nmF kvs = nmL (kvs.map Prod.snd)
  | [] => rfl
  | (_, d) :: r => by rw [nmF, List.map_cons, nmL, nmF_eq r]
theorem nmL_append : ∀ a b : List D, nmL (a ++ b) = nmL a + nmL b
  | [], b => by simp [nmL]
  | d :: a, b => by rw [List.cons_append, nmL, nmL, nmL_append a b]; omega
theorem nmL_set : ∀ (ds : List D) (i : Nat) (d d' : D), ds[i]? = some d → nmL (ds.set i d') + nm d = nmL ds + nm d'
  | [], i, d, d', h => by simp at h
  | e :: ds, 0, d, d', h => by simp at h; subst h; rw [List.set_cons_zero, nmL, nmL]; omega
  | e :: ds, i + 1, d, d', h => by
    simp at h
    have := nmL_set ds i d d' h
    rw [List.set_cons_succ, nmL, nmL]; omega
/-- addresses for all that may change in d -/
structure Fu (d : D) where
  l : List Addr
  h : l.length = nm d
abbrev dq (v : V) (d : D) (f : Fu d) : Ent := ⟨v, d, f.l⟩
section
variable {K : PySem.W.Frag} {ce : Str → Addr} {H H' : Hp} {ok ok' : Addr → Prop}
theorem Dw.le {as : List Addr} {v : V} {d : D} (h : Dw K ce H ok as v d) : as.length ≤ nm d :=
  Dw.rec (motive_1 := fun as v d _ => as.length ≤ nm d) (motive_2 := fun as vs ds _ => as.length ≤ nmL ds)
    (fun _ => Nat.zero_le _) (fun _ _ _ ih => by rw [nm]; exact ih)
    (fun _ _ _ ih => by rw [nm, List.length_cons]; omega) (fun _ _ _ _ ih => by rw [nm, nmK_eq, List.length_cons]; omega) (fun _ _ _ _ ih => by rw [nm, nmT_eq, List.length_cons]; omega) (fun _ _ _ _ ih => by rw [nm, nmF_eq, List.length_cons]; omega)
    (Nat.zero_le _) (fun _ _ i1 i2 => by rw [nmL, List.length_append]; omega) h
theorem DwL.le {as : List Addr} {vs : List V} {ds : List D} (h : DwL K ce H ok as vs ds) : as.length ≤ nmL ds := by
  induction ds generalizing as vs with
  | nil => cases h; exact Nat.zero_le _
  | cons d ds ih => cases h with | cons h1 h2 => have := h1.le; have := ih h2; rw [nmL, List.length_append]; omega
theorem DwL.out {as : List Addr} {vs : List V} {ds : List D} {i : Nat} {d : D} (h : DwL K ce H ok as vs ds) (hi : ds[i]? = some d) :
    ∃ w as1 as2, vs[i]? = some w ∧ Dw K ce H ok as1 w d ∧ DwL K ce H ok as2 vs (ds.set i (.sc w)) ∧ as.Perm (as1 ++ as2) := by
  induction ds generalizing as vs i with
  | nil => simp at hi
  | cons e ds ih =>
    cases h with
    | @cons as bs v vs _ _ h1 h2 =>
      cases i with
      | zero =>
        simp at hi; subst hi
        exact ⟨v, as, bs, rfl, h1, .cons (as := []) (.fr (.sc v)) h2, List.Perm.refl _⟩
      | succ i =>
        simp at hi
        obtain ⟨w, a1, a2, g1, g2, g3, g4⟩ := ih h2 hi
        refine ⟨w, a1, as ++ a2, by simpa using g1, g2, .cons h1 g3, ?_⟩
        refine (g4.append_left as).trans ?_
        rw [← List.append_assoc, ← List.append_assoc]
        exact List.perm_append_comm.append_right a2
theorem DwL.inn {as1 as2 : List Addr} {vs : List V} {ds : List D} {i : Nat} {d : D} {w : V} (h : DwL K ce H ok as2 vs ds) (hi : ds[i]? = some (.sc w)) (h1 : Dw K ce H ok as1 w d) :
    ∃ as, DwL K ce H ok as vs (ds.set i d) ∧ as.Perm (as1 ++ as2) := by
  induction ds generalizing as2 vs i with
  | nil => simp at hi
  | cons e ds ih =>
    cases h with
    | @cons as bs v vs _ _ g1 g2 =>
      cases i with
      | zero =>
        simp at hi; subst hi
        have e1 : as = [] := by have := g1.le; rw [nm] at this; exact List.eq_nil_of_length_eq_zero (by omega)
        subst e1
        have e2 : v = w := (Dw.da g1).ofSc
        subst e2
        exact ⟨as1 ++ bs, .cons h1 g2, List.Perm.refl _⟩
      | succ i =>
        simp at hi
        obtain ⟨a, k1, k2⟩ := ih g2 hi
        refine ⟨as ++ a, .cons g1 k1, ?_⟩
        refine (k2.append_left as).trans ?_
        rw [← List.append_assoc, ← List.append_assoc]
        exact List.perm_append_comm.append_right bs
/-- a scalar in the place of a scalar -/
theorem DwL.setS {as : List Addr} {vs : List V} {ds : List D} {i : Nat} {w w' : V} (h : DwL K ce H ok as vs ds) (hi : ds[i]? = some (.sc w)) : DwL K ce H ok as (vs.set i w') (ds.set i (.sc w')) := by
  induction ds generalizing as vs i with
  | nil => simp at hi
  | cons e ds ih =>
    cases h with
    | @cons as bs v vs _ _ g1 g2 =>
      cases i with
      | zero =>
        simp at hi; subst hi
        have e1 : as = [] := by have := g1.le; rw [nm] at this; exact List.eq_nil_of_length_eq_zero (by omega)
        subst e1
        exact .cons (as := []) (.fr (.sc w')) g2
      | succ i => simp at hi; exact .cons g1 (ih g2 hi)
theorem DwL.snocS {as : List Addr} {vs : List V} {ds : List D} (w : V) (h : DwL K ce H ok as vs ds) : DwL K ce H ok as (vs ++ [w]) (ds ++ [.sc w]) := by
  induction ds generalizing as vs with
  | nil => cases h; exact .cons (as := []) (.fr (.sc w)) .nil
  | cons d ds ih => cases h with | cons h1 h2 => exact .cons h1 (ih h2)
end
section
variable {c : Cfg} {H H' : Hp} {E E' : List Ent} {v w : V} {i : Nat}
theorem S.re (s : S c H E) (hp : (keys E').Perm (keys E)) (h : ∀ e ∈ E', Good c H (okA c E) e) : S c H E' :=
  s.sub (hp.nodup_iff.mpr s.nd) (fun e he => .inr ((h e he).mono Kp.refl (fun a ok _ => ⟨fun z => ok.1 (hp.mem_iff.mp z), ok.2⟩) fun _ _ => rfl)) fun a h => hp.mem_iff.mp h
theorem S.goodHd {e : Ent} (s : S c H (e :: E)) : Dw c.K c.ce H (okA c (e :: E)) e.as e.v e.d := s.it _ List.mem_cons_self
theorem S.goodTl {e : Ent} (s : S c H (e :: E)) : ∀ x ∈ E, Good c H (okA c (e :: E)) x := fun x h => s.it _ (List.mem_cons_of_mem _ h)
theorem perm3 {a b d : List Addr} {x : Addr} {K : List Addr} (h : a.Perm (b ++ d)) : (b ++ ((x :: d) ++ K)).Perm ((x :: a) ++ K) := by
  have h1 : (b ++ (x :: (d ++ K))).Perm (x :: (b ++ (d ++ K))) := List.perm_middle
  refine h1.trans ?_
  show (x :: (b ++ (d ++ K))).Perm (x :: (a ++ K))
  rw [← List.append_assoc]
  exact (h.symm.append_right K).cons x
/-! #### lists -/
theorem S.takeL {ds : List D} {d : D} {f : Fu (.lst ds)} (s : S c H (dq v (.lst ds) f :: E)) (hi : ds[i]? = some d) :
    ∃ (a : Addr) (vs : List V) (w : V) (f1 : Fu d) (f2 : Fu (.lst (ds.set i (.sc w)))), v = .ref a ∧ H a = some (.lst vs) ∧ vs.length = ds.length ∧ vs[i]? = some w ∧ S c H (dq w d f1 :: dq v (.lst (ds.set i (.sc w))) f2 :: E) := by
  have g := s.goodHd
  have gt := s.goodTl
  obtain ⟨as, hf⟩ := f
  rw [nm] at hf
  change Dw c.K c.ce H _ as v (.lst ds) at g
  cases g with
  | fr _ => simp at hf; omega
  | @lst a as vs _ ha hz l =>
    obtain ⟨w, a1, a2, g1, g2, g3, g4⟩ := l.out hi
    have hl := g4.length_eq
    rw [List.length_append] at hl
    have h1 := g2.le
    have h2 := g3.le
    have h3 := nmL_set ds i d (.sc w) hi
    rw [nm] at h3
    rw [List.length_cons] at hf
    refine ⟨a, vs, w, ⟨a1, by omega⟩, ⟨a :: a2, by rw [nm, List.length_cons]; omega⟩, rfl, ha, l.length, g1, s.re ?_ fun e he => ?_⟩
    · rw [keys_cons, keys_cons, keys_cons]
      exact perm3 g4
    · rcases List.mem_cons.mp he with rfl | he
      · exact g2
      rcases List.mem_cons.mp he with rfl | he
      · exact .lst ha hz g3
      · exact gt e he
theorem S.putL {ds : List D} {d : D} {f1 : Fu d} {f2 : Fu (.lst ds)} (s : S c H (dq w d f1 :: dq v (.lst ds) f2 :: E)) (hi : ds[i]? = some (.sc w)) :
    ∃ f : Fu (.lst (ds.set i d)), S c H (dq v (.lst (ds.set i d)) f :: E) := by
  have g1 := s.goodHd
  have gt := s.goodTl
  have g := gt _ List.mem_cons_self
  obtain ⟨as1, hf1⟩ := f1
  obtain ⟨as, hf⟩ := f2
  rw [nm] at hf
  change Dw c.K c.ce H _ as v (.lst ds) at g
  change Dw c.K c.ce H _ as1 w d at g1
  have e1 := keys_cons (dq w d ⟨as1, hf1⟩) (dq v (.lst ds) ⟨as, by rw [nm]; exact hf⟩ :: E)
  have e2 := keys_cons (dq v (.lst ds) ⟨as, by rw [nm]; exact hf⟩) E
  cases g with
  | fr _ => simp at hf; omega
  | @lst a as vs _ ha hz l =>
    obtain ⟨as', k1, k2⟩ := l.inn hi g1
    have hl := k2.length_eq
    rw [List.length_append] at hl
    have h3 := nmL_set ds i (.sc w) d hi
    rw [nm] at h3
    rw [List.length_cons] at hf
    refine ⟨⟨a :: as', by rw [nm, List.length_cons]; omega⟩, s.re ?_ fun e he => ?_⟩
    · rw [keys_cons, e1, e2]
      exact (perm3 k2).symm
    · rcases List.mem_cons.mp he with rfl | he
      · exact .lst ha hz k1
      · exact gt e (List.mem_cons_of_mem _ he)
/-! #### dicts -/
theorem S.takeK {ds : List (Key × D)} {k : Key} {d : D} {f : Fu (.dk ds)} (s : S c H (dq v (.dk ds) f :: E)) (hi : ds[i]? = some (k, d)) :
    ∃ (a : Addr) (vs : List (Key × V)) (w : V) (f1 : Fu d) (f2 : Fu (.dk (ds.set i (k, .sc w)))), v = .ref a ∧ H a = some (.dK vs) ∧ vs.length ≤ sizeLine ∧ vs.map Prod.fst = ds.map Prod.fst ∧ vs[i]? = some (k, w) ∧ S c H (dq w d f1 :: dq v (.dk (ds.set i (k, .sc w))) f2 :: E) := by
  have g := s.goodHd
  have gt := s.goodTl
  obtain ⟨as, hf⟩ := f
  rw [nm, nmK_eq] at hf
  change Dw c.K c.ce H _ as v (.dk ds) at g
  cases g with
  | fr _ => simp at hf; omega
  | @dk a as vs _ ha hz e l =>
    have hi2 : (ds.map Prod.snd)[i]? = some d := by rw [List.getElem?_map, hi]; rfl
    obtain ⟨w, a1, a2, g1, g2, g3, g4⟩ := l.out hi2
    have hl := g4.length_eq
    rw [List.length_append] at hl
    have h1 := g2.le
    have h2 := g3.le
    have h3 := nmL_set (ds.map Prod.snd) i d (.sc w) hi2
    rw [nm] at h3
    rw [List.length_cons] at hf
    have em : (ds.set i (k, D.sc w)).map Prod.snd = (ds.map Prod.snd).set i (.sc w) := by rw [List.map_set]
    have ef : (ds.set i (k, D.sc w)).map Prod.fst = ds.map Prod.fst := by
      rw [List.map_set]
      refine List.ext_getElem? fun j => ?_
      rw [List.getElem?_set]
      split
      · rename_i hj; subst hj
        rw [List.getElem?_map, hi]
        have := (List.getElem?_eq_some_iff.mp hi).1
        simp [this]
      · rfl
    have hv : vs[i]? = some (k, w) := by
      rw [List.getElem?_map] at g1
      cases hx : vs[i]? with
      | none => rw [hx] at g1; cases g1
      | some p =>
        rw [hx] at g1; cases g1
        have h5 : (vs.map Prod.fst)[i]? = (ds.map Prod.fst)[i]? := by rw [e]
        rw [List.getElem?_map, List.getElem?_map, hx, hi] at h5
        cases h5; rfl
    refine ⟨a, vs, w, ⟨a1, by omega⟩, ⟨a :: a2, by rw [nm, nmK_eq, em, List.length_cons]; omega⟩, rfl, ha, hz, e, hv, s.re ?_ fun x he => ?_⟩
    · rw [keys_cons, keys_cons, keys_cons]
      exact perm3 g4
    · rcases List.mem_cons.mp he with rfl | he
      · exact g2
      rcases List.mem_cons.mp he with rfl | he
      · exact .dk ha hz (by rw [ef]; exact e) (by rw [em]; exact g3)
      · exact gt x he
theorem S.putK {ds : List (Key × D)} {k : Key} {d : D} {f1 : Fu d} {f2 : Fu (.dk ds)} (s : S c H (dq w d f1 :: dq v (.dk ds) f2 :: E)) (hi : ds[i]? = some (k, .sc w)) :
    ∃ f : Fu (.dk (ds.set i (k, d))), S c H (dq v (.dk (ds.set i (k, d))) f :: E) := by
  have g1 := s.goodHd
  have gt := s.goodTl
  have g := gt _ List.mem_cons_self
  obtain ⟨as1, hf1⟩ := f1
  obtain ⟨as, hf⟩ := f2
  have hf' := hf
  rw [nm, nmK_eq] at hf
  change Dw c.K c.ce H _ as v (.dk ds) at g
  change Dw c.K c.ce H _ as1 w d at g1
  have e1 := keys_cons (dq w d ⟨as1, hf1⟩) (dq v (.dk ds) ⟨as, hf'⟩ :: E)
  have e2 := keys_cons (dq v (.dk ds) ⟨as, hf'⟩) E
  cases g with
  | fr _ => simp at hf; omega
  | @dk a as vs _ ha hz e l =>
    have hi2 : (ds.map Prod.snd)[i]? = some (.sc w) := by rw [List.getElem?_map, hi]; rfl
    obtain ⟨as', k1, k2⟩ := l.inn hi2 g1
    have hl := k2.length_eq
    rw [List.length_append] at hl
    have h3 := nmL_set (ds.map Prod.snd) i (.sc w) d hi2
    rw [nm] at h3
    rw [List.length_cons] at hf
    have em : (ds.set i (k, d)).map Prod.snd = (ds.map Prod.snd).set i d := by rw [List.map_set]
    have ef : (ds.set i (k, d)).map Prod.fst = ds.map Prod.fst := by
      rw [List.map_set]
      refine List.ext_getElem? fun j => ?_
      rw [List.getElem?_set]
      split
      · rename_i hj; subst hj
        rw [List.getElem?_map, hi]
        have := (List.getElem?_eq_some_iff.mp hi).1
        simp [this]
      · rfl
    refine ⟨⟨a :: as', by rw [nm, nmK_eq, em, List.length_cons]; omega⟩, s.re ?_ fun x he => ?_⟩
    · rw [keys_cons, e1, e2]
      exact (perm3 k2).symm
    · rcases List.mem_cons.mp he with rfl | he
      · exact .dk ha hz (by rw [ef]; exact e) (by rw [em]; exact k1)
      · exact gt x (List.mem_cons_of_mem _ he)
end

/-! ### data without parts that may change -/
class Fl0 (α : Type) [TD α] : Prop where
  z : ∀ x : α, nm (td x) = 0
instance : Fl0 Str := ⟨fun _ => by show nm (.sc _) = 0; rw [nm]⟩
instance : Fl0 Int := ⟨fun _ => by show nm (.sc _) = 0; rw [nm]⟩
instance : Fl0 Bool := ⟨fun _ => by show nm (.sc _) = 0; rw [nm]⟩
theorem nmL_fl {α : Type} [TD α] [Fl0 α] : ∀ xs : List α, nmL (xs.map td) = 0
  | [] => rfl
  | x :: xs => by rw [List.map_cons, nmL, Fl0.z, nmL_fl xs]
instance {α β : Type} [TD α] [Fl0 α] [TD β] [Fl0 β] : Fl0 (α × β) := ⟨fun x => by show nm (.tup [td x.1, td x.2]) = 0; rw [nm, nmL, nmL, nmL, Fl0.z, Fl0.z]⟩
instance {α β γ : Type} [TD α] [Fl0 α] [TD β] [Fl0 β] [TD γ] [Fl0 γ] : Fl0 (T3 α β γ) := ⟨fun x => by show nm (.tup [td x.a, td x.b, td x.c]) = 0; rw [nm, nmL, nmL, nmL, nmL, Fl0.z, Fl0.z, Fl0.z]⟩
instance {α : Type} [TD α] [Fl0 α] : Fl0 (Tp α) := ⟨fun x => by show nm (.tup (x.l.map td)) = 0; rw [nm, nmL_fl]⟩
/-- one thing that may change, its parts do not -/
class Fl1 (α : Type) [TD α] : Prop where
  o : ∀ x : α, nm (td x) = 1
instance {α : Type} [TD α] [Fl0 α] : Fl1 (List α) := ⟨fun xs => by show nm (.lst (xs.map td)) = 1; rw [nm, nmL_fl]⟩
instance {κ ν : Type} [Kk κ] [TD ν] [Fl0 ν] : Fl1 (Dk κ ν) := ⟨fun d => by
  show nm (.dk (d.l.map fun p => (Kk.key p.1, td p.2))) = 1
  rw [nm, nmK_eq, List.map_map]
  have : (Prod.snd ∘ fun p : κ × ν => (Kk.key p.1, td p.2)) = fun p => td p.2 := rfl
  rw [this, show (d.l.map fun p => td p.2) = (d.l.map Prod.snd).map td by rw [List.map_map]; rfl, nmL_fl]⟩
theorem nm_nilL {α : Type} [TD α] : nm (td ([] : List α)) = 1 := by show nm (.lst []) = 1; rw [nm, nmL]
theorem nm_nilK {κ ν : Type} [Kk κ] [TD ν] : nm (td (Dk.mk ([] : List (κ × ν)))) = 1 := by show nm (.dk []) = 1; rw [nm, nmK]
section
variable {c : Cfg} {H H' : Hp} {E E' : List Ent} {v w : V} {i : Nat} {Q : VK}
theorem S.toQ {d : D} {p : Addr} (s : S c H (ow p d :: E)) (h : nm d = 1) : ∃ f : Fu d, S c H (dq (.ref p) d f :: E) := ⟨⟨[p], h.symm⟩, s⟩
theorem S.fromQL {α : Type} [TD α] [Fl0 α] {xs : List α} {f : Fu (td xs)} (s : S c H (dq v (td xs) f :: E)) : ∃ p, v = .ref p ∧ S c H (ow p (td xs) :: E) := by
  have g := s.goodHd
  obtain ⟨as, hf⟩ := f
  rw [Fl1.o] at hf
  match as, hf with
  | [p], hf =>
    change Dw c.K c.ce H _ [p] v (.lst (xs.map td)) at g
    suffices e : v = .ref p by subst e; exact ⟨p, rfl, s⟩
    cases g with
    | lst hh z l => rfl
theorem S.fromQK {κ ν : Type} [Kk κ] [TD ν] [Fl0 ν] {d : Dk κ ν} {f : Fu (td d)} (s : S c H (dq v (td d) f :: E)) : ∃ p, v = .ref p ∧ S c H (ow p (td d) :: E) := by
  have g := s.goodHd
  obtain ⟨as, hf⟩ := f
  rw [Fl1.o] at hf
  match as, hf with
  | [p], hf =>
    change Dw c.K c.ce H _ [p] v (.dk (d.l.map fun p => (Kk.key p.1, td p.2))) at g
    suffices e : v = .ref p by subst e; exact ⟨p, rfl, s⟩
    cases g with
    | dk hh z e l => rfl
theorem getE_upd {κ ν : Type} [DecidableEq κ] {γ : Type} (g : κ × ν → γ) : ∀ (l : List (κ × ν)) (kk : κ) (x : ν), getE l kk = some x → ∃ i, l[i]? = some (kk, x) ∧ (∀ j p, j < i → l[j]? = some p → p.1 ≠ kk) ∧ ∀ x', (l.map g).set i (g (kk, x')) = (updE l kk x').map g
  | [], kk, x, h => by cases h
  | p :: l, kk, x, h => by
    by_cases e : p.1 = kk
    · have h2 : p.2 = x := by unfold getE at h; rw [List.find?_cons_of_pos (by simp [e])] at h; simpa using h
      refine ⟨0, by simp [← e, ← h2], fun j p hj => absurd hj (Nat.not_lt_zero j), fun x' => ?_⟩
      rw [updE, if_pos e, List.map_cons, List.map_cons, List.set_cons_zero, e]
    · have h2 : getE l kk = some x := by unfold getE at h ⊢; rw [List.find?_cons_of_neg (by simp [e])] at h; exact h
      obtain ⟨i, h3, h5, h4⟩ := getE_upd g l kk x h2
      refine ⟨i + 1, by simpa using h3, fun j q hj hq => ?_, fun x' => ?_⟩
      · cases j with
        | zero => simp at hq; subst hq; exact e
        | succ j => exact h5 j q (by omega) (by simpa using hq)
      rw [updE, if_neg e, List.map_cons, List.map_cons, List.set_cons_succ, h4]
theorem valV_ix {κ : Type} [DecidableEq κ] : ∀ {vs : List (κ × V)} {i : Nat} {k : κ} {w : V}, vs[i]? = some (k, w) → (∀ j p, j < i → vs[j]? = some p → p.1 ≠ k) → valV vs k = some w
  | [], i, k, w, h, _ => by simp at h
  | p :: vs, 0, k, w, h, _ => by simp at h; subst h; exact valV_pos rfl
  | p :: vs, i + 1, k, w, h, hn => by
    rw [valV_neg (hn 0 p (Nat.succ_pos i) rfl)]
    exact valV_ix (i := i) (by simpa using h) fun j q hj hq => hn (j + 1) q (by omega) (by simpa using hq)
/-- the value of a key is taken out, and put back -/
theorem S.borrowK {κ ν : Type} [DecidableEq κ] [Kk κ] [TD ν] {l : List (κ × ν)} {kk : κ} {x : ν} {f : Fu (td (Dk.mk l))} (s : S c H (dq v (td (Dk.mk l)) f :: E)) (h : getE l kk = some x) :
    ∃ (w : V) (f1 : Fu (td x)) (hole : D) (f2 : Fu hole), (∃ a, v = .ref a ∧ DGet H a (kV (Kk.key kk)) (some w)) ∧ S c H (dq w (td x) f1 :: dq v hole f2 :: E) ∧
      ∀ {H' : Hp} {E' : List Ent} {x' : ν} {f1' : Fu (td x')}, S c H' (dq w (td x') f1' :: dq v hole f2 :: E') → ∃ f' : Fu (td (Dk.mk (updE l kk x'))), S c H' (dq v (td (Dk.mk (updE l kk x'))) f' :: E') := by
  obtain ⟨i, h1, h0, h2⟩ := getE_upd (fun p : κ × ν => (Kk.key p.1, td p.2)) l kk x h
  have hi : (l.map fun p : κ × ν => (Kk.key p.1, td p.2))[i]? = some (Kk.key kk, td x) := by rw [List.getElem?_map, h1]; rfl
  have hlt := (List.getElem?_eq_some_iff.mp hi).1
  obtain ⟨a, vs, w, f1, f2, e1, e2, e3, e4, e5, s2⟩ := s.takeK (ds := l.map fun p : κ × ν => (Kk.key p.1, td p.2)) (f := f) hi
  refine ⟨w, f1, _, f2, ⟨a, e1, ?_⟩, s2, fun {H' E' x' f1'} s' => ?_⟩
  · have key : valV vs (Kk.key kk) = some w := by
      refine valV_ix e5 fun j p hj hp => ?_
      have h6 : (vs.map Prod.fst)[j]? = ((l.map fun p : κ × ν => (Kk.key p.1, td p.2)).map Prod.fst)[j]? := by rw [e4]
      rw [List.getElem?_map, hp, List.getElem?_map, List.getElem?_map] at h6
      cases hq : l[j]? with
      | none => rw [hq] at h6; cases h6
      | some q =>
        rw [hq] at h6
        have h7 : p.1 = Kk.key q.1 := by simpa using h6
        rw [h7]
        exact fun z => h0 j q hj hq (Kk.inj _ _ z)
    exact .inl ⟨vs, _, .inl e2, rfl, key.symm⟩
  · have hset : ((l.map fun p : κ × ν => (Kk.key p.1, td p.2)).set i (Kk.key kk, D.sc w))[i]? = some (Kk.key kk, D.sc w) := by rw [List.getElem?_set_self hlt]
    have q := s'.putK (i := i) (k := Kk.key kk) hset
    have e6 : ((l.map fun p : κ × ν => (Kk.key p.1, td p.2)).set i (Kk.key kk, D.sc w)).set i (Kk.key kk, td x') = (updE l kk x').map fun p : κ × ν => (Kk.key p.1, td p.2) := by rw [List.set_set]; exact h2 x'
    rw [e6] at q
    exact q
/-- a new key with an owned value -/
theorem r_dnewq {κ ν : Type} [DecidableEq κ] [Kk κ] [TD ν] {l l' : List (κ × ν)} {kk : κ} {x : ν} {f1 : Fu (td x)} {f : Fu (td (Dk.mk l))} {nx : Hp → Prop} (s : S c H (dq w (td x) f1 :: dq v (td (Dk.mk l)) f :: E)) (h : newE l kk x = some l')
    (q : ∀ H' (f' : Fu (td (Dk.mk l'))), S c H' (dq v (td (Dk.mk l')) f' :: E) → nx H') : DPutQ nx w v (kV (Kk.key kk)) H := by
  unfold newE at h
  split at h
  case isFalse => cases h
  rename_i hc
  cases som h
  obtain ⟨hl, hnew⟩ := hc
  have g := s.goodTl _ List.mem_cons_self
  obtain ⟨as, hf⟩ := f
  have hf' : as.length = 1 + nmL ((l.map fun p : κ × ν => (Kk.key p.1, td p.2)).map Prod.snd) := by rw [hf]; show nm (.dk _) = _; rw [nm, nmK_eq]
  change Dw c.K c.ce H _ as v (.dk (l.map fun p : κ × ν => (Kk.key p.1, td p.2))) at g
  cases g with
  | fr _ => simp at hf'; omega
  | @dk a as kvs _ ha hz e d =>
    have hlen : kvs.length = l.length := by
      have := congrArg List.length e
      rw [List.length_map, List.length_map, List.length_map] at this; exact this
    have hno : valV kvs (Kk.key kk) = none := by
      cases hv : valV kvs (Kk.key kk) with
      | none => rfl
      | some z =>
        exfalso
        have hm : Kk.key kk ∈ kvs.map Prod.fst := valV_in hv
        rw [e, List.map_map] at hm
        obtain ⟨p, hp, e5⟩ := List.mem_map.mp hm
        have : hasE l kk = true := List.any_eq_true.mpr ⟨p, hp, decide_eq_true (Kk.inj _ _ e5)⟩
        rw [this] at hnew; cases hnew
    rw [LINE_eq] at hl
    refine ⟨a, _, rfl, .k ha (by omega), ?_⟩
    rw [putK_new w hno]
    -- the new entry is first a hole
    have s2 : S c (upd H a (.dK (kvs ++ [(Kk.key kk, w)]))) (dq w (td x) f1 :: dq (.ref a) (.dk ((l.map fun p : κ × ν => (Kk.key p.1, td p.2)) ++ [(Kk.key kk, .sc w)])) ⟨a :: as, by rw [nm, nmK_eq, List.map_append, nmL_append]; show _ = 1 + (_ + (nm (.sc w) + 0)); rw [nm]; simpa using hf'⟩ :: E) := by
      refine s.putD (k := 1) (e := dq (.ref a) (td (Dk.mk l)) ⟨a :: as, hf⟩) (e' := dq (.ref a) (.dk ((l.map fun p : κ × ν => (Kk.key p.1, td p.2)) ++ [(Kk.key kk, .sc w)])) ⟨a :: as, _⟩) rfl List.mem_cons_self rfl ?_
      refine Dw.dk upd_same (by rw [List.length_append]; simp; omega) (by rw [List.map_append, List.map_append, e]; rfl) ?_
      rw [List.map_append, List.map_append]
      have hk : Kp (okA c (dq w (td x) f1 :: dq (.ref a) (td (Dk.mk l)) ⟨a :: as, hf⟩ :: E)) H (upd H a (.dK (kvs ++ [(Kk.key kk, w)]))) :=
        s.tr (T := [a]) (fun b z => by rw [List.mem_singleton.mp z]; exact mem_keys.mpr ⟨_, List.mem_cons_of_mem _ List.mem_cons_self, List.mem_cons_self⟩) (fun b u hb e => by rw [upd_ne (by simpa using hb)]; exact e)
      have hn : a ∉ as := by
        have := s.nd
        rw [keys_cons, keys_cons] at this
        have h2 := (List.nodup_append.mp this).2.1
        have h3 := (List.nodup_append.mp h2).1
        exact (List.nodup_cons.mp h3).1
      exact DwL.snocS w (d.mono hk (fun _ o _ => o) fun b hb => upd_ne (fun z => hn (z ▸ hb)))
    have hset : ((l.map fun p : κ × ν => (Kk.key p.1, td p.2)) ++ [(Kk.key kk, D.sc w)])[l.length]? = some (Kk.key kk, D.sc w) := by rw [List.getElem?_append_right (by simp)]; simp
    have q2 := s2.putK hset
    have e6 : (((l.map fun p : κ × ν => (Kk.key p.1, td p.2)) ++ [(Kk.key kk, D.sc w)]).set l.length (Kk.key kk, td x)) = (l ++ [(kk, x)]).map fun p : κ × ν => (Kk.key p.1, td p.2) := by
      simp [List.set_append]
    rw [e6] at q2
    obtain ⟨f', s3⟩ := q2
    exact q _ f' s3
end
end FB

/-! dicts walked (locked meanwhile), dict comprehensions -/
namespace FB
open PySem L2
def Cfg.lock (c : Cfg) (d : Addr) (od : Obj) (u : HO) : Cfg := { K := c.K, ce := c.ce, Z := c.Z, H0 := c.H0, M0 := c.M0, L := (d, od, u) :: c.L }
section
variable {c : Cfg} {H H' : Hp} {E E' : List Ent} {v w : V} {i k : Nat} {Q : VK} {d : Addr} {od : Obj} {kvs : List (Key × V)}
theorem S.lock (s : S c H E) (hd : H d = some (.dK kvs)) (ok : okA c E d) : S (c.lock d od (.dK kvs)) (upd H d (.frz od (.dK kvs))) E := by
  have kp : Kp (okA c E) H (upd H d (.frz od (.dK kvs))) := by
    refine ⟨fun a u nf _ r => ?_, fun a o _ l r => ?_, fun a xs r => ?_⟩
    · by_cases e : a = d
      · subst e
        rcases r with r | ⟨o, r⟩
        · rw [hd] at r; cases r; exact .inr ⟨od, upd_same⟩
        · rw [hd] at r; cases r
      · rcases r with r | ⟨o, r⟩
        · exact .inl (by rw [upd_ne e]; exact r)
        · exact .inr ⟨o, by rw [upd_ne e]; exact r⟩
    · have e : a ≠ d := fun z => by subst z; rw [hd] at r; cases r; exact l
      rw [upd_ne e]; exact r
    · have e : a ≠ d := fun z => by subst z; rw [hd] at r; cases r
      rw [upd_ne e]; exact r
  refine ⟨s.nd, s.z, s.org, fun e he => ?_, fun a z => ?_, fun a u hm r => ?_, fun a o hm l r => ?_, fun a xs r => kp.tp a xs (s.tp a xs r), fun a h => ?_, s.zl, fun p hp => ?_⟩
  · exact (s.it e he).mono kp (fun _ o _ => o) fun a ha => upd_ne fun z => ok.1 (z ▸ mem_keys.mpr ⟨e, he, ha⟩)
  · rw [upd_ne (fun q => by subst q; exact ok.2 z)]; exact s.zx a z
  · have r1 := s.ex a u hm r
    by_cases e : a = d
    · subst e
      rcases r1 with r1 | ⟨o, r1⟩
      · rw [hd] at r1; cases r1; exact .inr ⟨od, upd_same⟩
      · rw [hd] at r1; cases r1
    · rcases r1 with r1 | ⟨o, r1⟩
      · exact .inl (by rw [upd_ne e]; exact r1)
      · exact .inr ⟨o, by rw [upd_ne e]; exact r1⟩
  · have r1 := s.ei a o hm l r
    have e : a ≠ d := fun z => by subst z; rw [hd] at r1; cases r1; exact l
    rw [upd_ne e]; exact r1
  · by_cases e : a = d
    · subst e; rw [upd_same]; exact fun z => nomatch z
    · rw [upd_ne e]; exact s.lv a h
  · rcases List.mem_cons.mp hp with rfl | hp
    · exact upd_same
    · have e := s.lk p hp
      rw [upd_ne (fun z => by rw [z, hd] at e; cases e)]; exact e
theorem S.relock (s : S c H E) (hd : H d = some (.frz od (.dK kvs))) : S (c.lock d od (.dK kvs)) H E :=
  ⟨s.nd, s.z, s.org, s.it, s.zx, s.ex, s.ei, s.tp, s.lv, s.zl, fun p hp => by
    rcases List.mem_cons.mp hp with rfl | hp
    · exact hd
    · exact s.lk p hp⟩
theorem S.norelock (s : S (c.lock d od (.dK kvs)) H E) : S c H E :=
  ⟨s.nd, s.z, s.org, s.it, s.zx, s.ex, s.ei, s.tp, s.lv, s.zl, fun p hp => s.lk p (List.mem_cons_of_mem _ hp)⟩
theorem S.unlock (s0 : S c H E) (hd : H d = some (.dK kvs)) (ok : okA c E d) (s : S (c.lock d od (.dK kvs)) H' E') : H' d = some (.frz od (.dK kvs)) ∧ S c (upd H' d (.dK kvs)) E' := by
  have hl : H' d = some (.frz od (.dK kvs)) := s.lk _ List.mem_cons_self
  have nk : d ∉ keys E' := fun z => by
    obtain ⟨o, e, m⟩ := s.owns z
    rw [hl] at e; cases e; exact m
  have kp : Kp (okA c E') H' (upd H' d (.dK kvs)) := by
    refine ⟨fun a u nf _ r => ?_, fun a o _ l r => ?_, fun a xs r => ?_⟩
    · by_cases e : a = d
      · subst e
        rcases r with r | ⟨o, r⟩
        · rw [hl] at r; cases r; exact absurd rfl (nf _ _)
        · rw [hl] at r; cases r; exact .inl upd_same
      · rcases r with r | ⟨o, r⟩
        · exact .inl (by rw [upd_ne e]; exact r)
        · exact .inr ⟨o, by rw [upd_ne e]; exact r⟩
    · have e : a ≠ d := fun z => by subst z; rw [hl] at r; cases r; exact l
      rw [upd_ne e]; exact r
    · have e : a ≠ d := fun z => by subst z; rw [hl] at r; cases r
      rw [upd_ne e]; exact r
  refine ⟨hl, s.nd, s.z, s.org, fun e he => ?_, fun a z => ?_, fun a u hm r => ?_, fun a o hm l r => ?_, fun a xs r => kp.tp a xs (s.tp a xs r), fun a h => ?_, s.zl, fun p hp => ?_⟩
  · exact (s.it e he).mono kp (fun _ o _ => o) fun a ha => upd_ne fun z => nk (z ▸ mem_keys.mpr ⟨e, he, ha⟩)
  · rw [upd_ne (fun q => by subst q; exact ok.2 z)]; exact s.zx a z
  · by_cases e : a = d
    · subst e
      rcases s0.ex a u hm r with r1 | ⟨o, r1⟩
      · rw [hd] at r1; cases r1; exact .inl upd_same
      · rw [hd] at r1; cases r1
    · rcases s.ex a u hm r with r1 | ⟨o, r1⟩
      · exact .inl (by rw [upd_ne e]; exact r1)
      · exact .inr ⟨o, by rw [upd_ne e]; exact r1⟩
  · have r1 := s.ei a o hm l r
    have e : a ≠ d := fun z => by subst z; rw [hl] at r1; cases r1; exact l
    rw [upd_ne e]; exact r1
  · by_cases e : a = d
    · subst e; rw [upd_same]; exact fun z => nomatch z
    · rw [upd_ne e]; exact s.lv a h
  · have e := s.lk p (List.mem_cons_of_mem _ hp)
    have e2 := s0.lk p hp
    rw [upd_ne (fun z => by rw [z, hd] at e2; cases e2)]; exact e
/-- the dict is locked by this statement, or it is already -/
def tLockM (t : TS) : TS := fun D σ H => ∃ d u, Mut (some u) ∧ ((H d = some u ∧ ∀ od, t ⟨fun σ' H' => H' d = some (.frz od u) ∧ D.nx σ' (upd H' d u), fun v H' => H' d = some (.frz od u) ∧ D.rt v (upd H' d u), fun σ' H' => H' d = some (.frz od u) ∧ D.bk σ' (upd H' d u), fun σ' H' => H' d = some (.frz od u) ∧ D.ct σ' (upd H' d u)⟩ σ (upd H d (.frz od u))) ∨
  t D σ H)
theorem ps_lockM {X : Cx} {st : Stmt} {t : TS} (h : PS X st t) : PS X st (tLockM t) := by
  refine ⟨fun pins s σ H D I hw => ?_⟩
  obtain ⟨d, u, mu, ⟨hd, hw⟩ | hw⟩ := hw
  · exact (ps_lock h).run pins s σ H D I ⟨d, u, hd, mu, hw⟩
  · exact h.run pins s σ H D I hw
def tLockEM (t : TE) : TE := fun σ H Q => ∃ d u, Mut (some u) ∧ ((H d = some u ∧ ∀ od, t σ (upd H d (.frz od u)) fun v H' => H' d = some (.frz od u) ∧ Q v (upd H' d u)) ∨ t σ H Q)
theorem pe_lockM {X : Cx} {e : Expr} {t : TE} (h : PE X e t) : PE X e (tLockEM t) := by
  refine ⟨fun pins s σ H Q I hw => ?_⟩
  obtain ⟨d, u, mu, ⟨hd, hw⟩ | hw⟩ := hw
  · exact (pe_lock h).run pins s σ H Q I ⟨d, u, hd, mu, hw⟩
  · exact h.run pins s σ H Q I hw
theorem mut_dK {kvs : List (Key × V)} : Mut (some (HO.dK kvs)) := trivial
theorem w_lockM {t : TS} {nx bk ct : St → Hp → Prop} {rt : VK} {σ : St} {kds : List (Key × D)} (s : S c H E) (hk : E[k]? = some (fz v (.dk kds)))
    (h : ∀ (d : Addr) (od : Obj) (kvs : List (Key × V)) (n' b' c' : St → Hp → Prop) (r' : VK) (H1 : Hp), v = .ref d → kvs.map Prod.fst = kds.map Prod.fst → kvs.length ≤ sizeLine → S (c.lock d od (.dK kvs)) H1 E →
      (∀ E' σ' H', S (c.lock d od (.dK kvs)) H' E' → (∀ H'', S c H'' E' → nx σ' H'') → n' σ' H') → (∀ E' σ' H', S (c.lock d od (.dK kvs)) H' E' → (∀ H'', S c H'' E' → bk σ' H'') → b' σ' H') →
      (∀ E' σ' H', S (c.lock d od (.dK kvs)) H' E' → (∀ H'', S c H'' E' → ct σ' H'') → c' σ' H') → (∀ E' w H', S (c.lock d od (.dK kvs)) H' E' → (∀ H'', S c H'' E' → rt w H'') → r' w H') → t ⟨n', r', b', c'⟩ σ H1) :
    tLockM t ⟨nx, rt, bk, ct⟩ σ H := by
  have g := s.fz hk
  cases g with
  | @dk d kvs _ ok r z e l =>
    refine ⟨d, .dK kvs, mut_dK, ?_⟩
    rcases r with hd | ⟨od, hd⟩
    · refine .inl ⟨hd, fun od => h d od kvs _ _ _ _ _ rfl e z (s.lock hd ok) (fun E' σ' H' s' q => ?_) (fun E' σ' H' s' q => ?_) (fun E' σ' H' s' q => ?_) fun E' w H' s' q => ?_⟩
      all_goals
        obtain ⟨h1, h2⟩ := s.unlock hd ok s'
        exact ⟨h1, q _ h2⟩
    · exact .inr (h d od kvs nx bk ct rt H rfl e z (s.relock hd) (fun E' σ' H' s' q => q _ s'.norelock) (fun E' σ' H' s' q => q _ s'.norelock) (fun E' σ' H' s' q => q _ s'.norelock) fun E' w H' s' q => q _ s'.norelock)
theorem w_lockE {t : TE} {σ : St} {kds : List (Key × D)} (s : S c H E) (hk : E[k]? = some (fz v (.dk kds)))
    (h : ∀ (d : Addr) (od : Obj) (kvs : List (Key × V)) (Q' : VK) (H1 : Hp), v = .ref d → kvs.map Prod.fst = kds.map Prod.fst → kvs.length ≤ sizeLine → S (c.lock d od (.dK kvs)) H1 E →
      (∀ E' w H', S (c.lock d od (.dK kvs)) H' E' → (∀ H'', S c H'' E' → Q w H'') → Q' w H') → t σ H1 Q') : tLockEM t σ H Q := by
  have g := s.fz hk
  cases g with
  | @dk d kvs _ ok r z e l =>
    refine ⟨d, .dK kvs, mut_dK, ?_⟩
    rcases r with hd | ⟨od, hd⟩
    · refine .inl ⟨hd, fun od => h d od kvs _ _ rfl e z (s.lock hd ok) fun E' w H' s' q => ?_⟩
      obtain ⟨h1, h2⟩ := s.unlock hd ok s'
      exact ⟨h1, q _ h2⟩
    · exact .inr (h d od kvs Q H rfl e z (s.relock hd) fun E' w H' s' q => q _ s'.norelock)
/-- the loop's readings over a locked dict -/
def LoopK (F : L2.It → Hp → Prop) : VK := fun x H1 => ∃ d o, x = .ref d ∧ ((∃ kvs, H1 d = some (.frz o (.dK kvs)) ∧ F (Itk d o kvs) H1) ∨ ∃ kvs, H1 d = some (.frz o (.dT kvs)) ∧ F (Itkt d o kvs) H1)
theorem w_forK {g : TG} {tb : TS} {D : Ends} {σ : St} {tl : TE} (h : tl σ H (LoopK fun J H => ForB J g tb D σ H)) : tFor (iKeys tl) g tb D σ H := h
theorem w_foeK {g : TG} {tb u : TS} {D : Ends} {σ : St} {tl : TE} (h : tl σ H (LoopK fun J H => ForBE J g tb u D σ H)) : tForE (iKeys tl) g tb u D σ H := h
theorem w_lcK {g : TG} {tt : TT} {te tl : TE} {vs : List Nat} {σ : St} (h : tl σ H (LoopK fun J H => LcB J g tt te vs σ H Q)) : tLc (iKeys tl) g tt te vs σ H Q := h
theorem l_key {F : L2.It → Hp → Prop} (s : S c H E) (hm : (d, od, HO.dK kvs) ∈ c.L) (e : v = .ref d) (h : ∀ J, Way.Is c.K (.key d od kvs) J → F J H) : LoopK F v H := by
  subst e
  exact ⟨d, od, rfl, .inl ⟨kvs, s.lk _ hm, h _ rfl⟩⟩
theorem key_at {κ ν : Type} [TD κ] [Kk κ] [Kkd κ] [TD ν] {l : List (κ × ν)} (s : S c H E) (hm : (d, od, HO.dK kvs) ∈ c.L) (e : kvs.map Prod.fst = (l.map fun p => (Kk.key p.1, td p.2)).map Prod.fst) : Way.At c ((l.map Prod.fst).map td) (.key d od kvs) H := by
  refine ⟨⟨E, s⟩, hm, ?_⟩
  have := congrArg (List.map fun k => D.sc (kV k)) e
  rw [List.map_map, List.map_map, List.map_map] at this
  rw [List.map_map]
  refine Eq.trans ?_ this.symm
  refine List.map_congr_left fun p _ => ?_
  exact Kkd.at_ p.1
/-! ### dict comprehensions -/
def DcB (J : It) (g : TG) (tt : TT) (tk tv : TE) (vs : List Nat) (σ : St) (H1 : Hp) (Q : VK) : Prop := ∀ D, H1 D = none → ∃ W : Nat → Nat → Hp → Prop, (∃ m, W 0 m (upd H1 D (.dK []))) ∧ ∀ i m H, W i m H →
  (J.stop i H ∧ Q (.ref D) H) ∨ (J.go i H ∧ ∃ Nx : Hp → Prop, (∀ H', Nx H' → ∃ m', m' < m ∧ W (i + 1) m' H') ∧ ∀ x H', J.yld i H x H' → g x (wipe σ vs) H' fun σ2 H2 => wipe σ2 vs = wipe σ vs ∧ tt σ2 H2 fun b H3 =>
    if b = true then tk σ2 H3 fun y H4 => tv σ2 H4 fun z H5 => ∃ kvs k, y = kV k ∧ H5 D = some (.dK kvs) ∧ kvs.length < sizeLine ∧ Nx (upd H5 D (.dK (putK kvs k z))) else Nx H3)
theorem w_dcK {g : TG} {tt : TT} {tk tv tl : TE} {vs : List Nat} {σ : St} (h : tl σ H (LoopK fun J H => DcB J g tt tk tv vs σ H Q)) : tDc (iKeys tl) g tt tk tv vs σ H Q := h
theorem w_dcL {K : PySem.W.Frag} {g : TG} {tt : TT} {tk tv tl : TE} {vs : List Nat} {σ : St} (h : tl σ H (LoopL K fun J H => DcB J g tt tk tv vs σ H Q)) : tDc (iList K tl) g tt tk tv vs σ H Q := h
end
/-- a comprehension into a dict: each item gives a key and a value -/
theorem dcB {c : Cfg} {w : Way} {J : It} {α κ ν : Type} [TD α] [DecidableEq κ] [Kk κ] [TD ν] {xs : List α} {l0 : List (κ × ν)} {g : TG} {tt : TT} {tk tv : TE} {vs : List Nat} {σ : St} {H : Hp} {Q : VK} {E : List Ent} {f : α → Option (Option (κ × ν))}
    (hJ : w.Is c.K J) (s : S c H E) (hn : xs.length ≤ LINE) (hf : dcompO xs [] f = some l0) (hG : ∀ H', (∃ D ds, S c H' (ow D (.dk ds) :: E)) → w.At c (xs.map td) H')
    (turn : ∀ d o D acc x H', f d = some o → S c H' (ow D (td (Dk.mk (acc : List (κ × ν)))) :: E) → w.Gives c (xs.map td) (td d) x H' → ∀ (R0 : Hp → Prop) (R1 : V → VK), (o = none → ∀ H3, S c H3 (ow D (td (Dk.mk acc)) :: E) → R0 H3) →
        (∀ y z, o = some (y, z) → ∀ u H4, S c H4 (fz u (td z) :: ow D (td (Dk.mk acc)) :: E) → R1 (kV (Kk.key y)) u H4) →
      g x (wipe σ vs) H' fun σ2 H2 => wipe σ2 vs = wipe σ vs ∧ tt σ2 H2 (IfQ (fun H3 => tk σ2 H3 fun y H4 => tv σ2 H4 (R1 y)) R0))
    (q : ∀ D H', S c H' (ow D (td (Dk.mk l0)) :: E) → Q (.ref D) H') : DcB J g tt tk tv vs σ H Q := by
  intro D hD
  have W := Way.walk (c := c) (ds := xs.map td) hJ
  let Inv : Nat → Hp → Prop := fun i H' => i ≤ xs.length ∧ ∃ acc : List (κ × ν), acc.length ≤ i ∧ S c H' (ow D (td (Dk.mk acc)) :: E) ∧ dcompO (xs.drop i) acc f = some l0
  have inv0 : Inv 0 (upd H D (.dK [])) := ⟨Nat.zero_le _, [], Nat.le_refl _, s.newO hD fun ok hk => .dk upd_same (Nat.zero_le _) rfl .nil, by simpa using hf⟩
  refine ⟨fun i m H' => m + i = xs.length ∧ Inv i H', ⟨xs.length, rfl, inv0⟩, fun i m H' ⟨hm, hle, acc, hacc, s1, hr⟩ => ?_⟩
  have hAt : w.At c (xs.map td) H' := hG H' ⟨D, _, s1⟩
  by_cases hlt : i < xs.length
  · refine .inr ⟨W.goes i H' (by simpa using hlt) hAt, Inv (i + 1), fun H2 h => ⟨m - 1, by omega, by omega, h⟩, fun x H2 y => ?_⟩
    obtain ⟨e1, d, h1, h2⟩ := W.yields i H' x H2 (by simpa using hlt) hAt y
    subst e1
    rw [List.getElem?_map] at h1
    cases hx : xs[i]? with
    | none => rw [hx] at h1; cases h1
    | some d0 =>
      rw [hx] at h1
      cases som h1
      have hd : xs.drop i = d0 :: xs.drop (i + 1) := by
        obtain ⟨hlt, e⟩ := List.getElem?_eq_some_iff.mp hx
        rw [← e]; exact List.drop_eq_getElem_cons hlt
      rw [hd] at hr
      obtain ⟨o, ho, hr⟩ := bnd hr
      refine turn d0 o D acc x H2 ho s1 h2 (Inv (i + 1)) (fun y z H5 => ∃ kvs k, y = kV k ∧ H5 D = some (.dK kvs) ∧ kvs.length < sizeLine ∧ Inv (i + 1) (upd H5 D (.dK (putK kvs k z)))) ?_ ?_
      · intro e H3 s3
        subst e
        exact ⟨hlt, acc, by omega, s3, hr⟩
      · intro y z e u H4 s4
        subst e
        rw [LINE_eq] at hn
        have o4 := s4.own (k := 1) (a := D) rfl
        cases o4 with
        | @dk kvs _ hD4 hz4 e4 l4 =>
          have hl : kvs.length = acc.length := by
            have := congrArg List.length e4
            rw [List.length_map, List.length_map, List.length_map] at this; exact this
          have hu := s4.fz (k := 0) rfl
          obtain ⟨e5, l5⟩ := setE_map Kk.inj acc y z e4 l4 hu
          refine ⟨kvs, Kk.key y, rfl, hD4, by omega, hlt, setE acc y z, ?_, ?_, hr⟩
          · have : (setE acc y z).length ≤ acc.length + 1 := by
              unfold setE; split
              · rw [List.length_map]; omega
              · rw [List.length_append]; simp
            omega
          · have s5 := s4.put (k := 1) (a := D) (d' := td (Dk.mk (setE acc y z))) (o := .dK (putK kvs (Kk.key y) u)) rfl (.dk upd_same (by have := putK_len kvs (Kk.key y) u; omega) e5 (l5.mono (s4.keepOwn (a := D) (k := 1) rfl) fun a o _ => o))
            exact s5.sub (E' := ow D (td (Dk.mk (setE acc y z))) :: E) s5.nd (fun e he => .inl (List.mem_cons_of_mem _ he)) (fun a h => h)
  · have e : i = xs.length := by omega
    subst e
    refine .inl ⟨by have := W.stops H' hAt; rw [List.length_map] at this; exact this, q D H' ?_⟩
    rw [List.drop_length] at hr
    cases som hr
    exact s1
end FB

/-! in over tuples; zip; more -/
namespace FB
open PySem L2
section
variable {α : Type} [TD α] [DecidableEq α] {X : Cx} {k : Nat}
def rInT (α : Type) [TD α] [DecidableEq α] (K : PySem.W.Frag) : R2 := fun v w H Q => ∃ (ce : Str → Addr) (ok : Addr → Prop) (x : α) (ys : List α), Da K ce H ok v (td x) ∧ Da K ce H ok w (td (Tp.mk ys)) ∧ Q (.bl (decide (x ∈ ys))) H
def rNotInT (α : Type) [TD α] [DecidableEq α] (K : PySem.W.Frag) : R2 := fun v w H Q => ∃ (ce : Str → Addr) (ok : Addr → Prop) (x : α) (ys : List α), Da K ce H ok v (td x) ∧ Da K ce H ok w (td (Tp.mk ys)) ∧ Q (.bl (!decide (x ∈ ys))) H
theorem op_inT [Pe α] (hr : RG k X.A) (hn : Pe.n α ≤ 60) : OpR X (compareOp .In) (rInT α X.K) := by
  intro pins s σ H x y v u Q I rx ry h
  obtain ⟨ce, ok, a, b, h1, h2, q⟩ := h
  have hu := hr.r.un
  cases h2 with
  | tup e z l =>
    cases ry
    obtain ⟨its, r, pl, hz⟩ := I.tuple e.sq
    obtain ⟨f, h3, h4⟩ := in_items (A := X.A.in1) I (show X.A.units + 1 + Pe.n α < cLine by omega) h1 rx l r
    refine SeqAt.in_tupleAt f pl (fun w hw => h3 w (by simpa using hw)) ⟨.bl _, H, I, rfl, ?_⟩
    rw [show its.toArray.any f = its.any f by simp, h4]
    exact q
theorem op_notInT [Pe α] (hr : RG k X.A) (hn : Pe.n α ≤ 60) : OpR X (compareOp .NotIn) (rNotInT α X.K) := by
  intro pins s σ H x y v u Q I rx ry h
  obtain ⟨ce, ok, a, b, h1, h2, q⟩ := h
  have hu := hr.r.un
  cases h2 with
  | tup e z l =>
    cases ry
    obtain ⟨its, r, pl, hz⟩ := I.tuple e.sq
    obtain ⟨f, h3, h4⟩ := in_items (A := X.A.in1) I (show X.A.units + 1 + Pe.n α < cLine by omega) h1 rx l r
    refine SeqAt.notIn_tupleAt f pl (fun w hw => h3 w (by simpa using hw)) ⟨.bl _, H, I, rfl, ?_⟩
    rw [show its.toArray.any f = its.any f by simp, h4]
    exact q
end
section
variable {α : Type} [TD α] [DecidableEq α] {c : Cfg} {H : Hp} {E : List Ent} {i j : Nat} {v w : V} {Q : VK} {as bs : List Addr}
theorem r_inT {x : α} (ys : List α) [dm : Decidable (x ∈ ys)] (s : S c H E) (h1 : E[i]? = some ⟨v, td x, as⟩) (h2 : E[j]? = some ⟨w, .tup (ys.map td), bs⟩) (q : Q (.bl (@decide _ dm)) H) : rInT α c.K v w H Q := ⟨_, _, x, ys, s.dTe h1, s.dTe h2, by have e : ∀ d1 : Decidable (x ∈ ys), @decide _ d1 = @decide _ dm := fun d1 => decide_any _ dm; rw [e]; exact q⟩
theorem r_notInT {x : α} (ys : List α) [dm : Decidable (x ∈ ys)] (s : S c H E) (h1 : E[i]? = some ⟨v, td x, as⟩) (h2 : E[j]? = some ⟨w, .tup (ys.map td), bs⟩) (q : Q (.bl (!@decide _ dm)) H) : rNotInT α c.K v w H Q := ⟨_, _, x, ys, s.dTe h1, s.dTe h2, by have e : ∀ d1 : Decidable (x ∈ ys), @decide _ d1 = @decide _ dm := fun d1 => decide_any _ dm; rw [e]; exact q⟩
theorem r_inTs {x : Str} (ys : List Str) (s : S c H E) (h2 : E[j]? = some ⟨w, .tup (ys.map td), bs⟩) (q : Q (.bl (decide (x ∈ ys))) H) : rInT Str c.K (.str x) w H Q := ⟨_, _, x, ys, .sc _, s.dTe h2, q⟩
theorem r_notInTs {x : Str} (ys : List Str) (s : S c H E) (h2 : E[j]? = some ⟨w, .tup (ys.map td), bs⟩) (q : Q (.bl (!decide (x ∈ ys))) H) : rNotInT Str c.K (.str x) w H Q := ⟨_, _, x, ys, .sc _, s.dTe h2, q⟩
end
def rInt1 : List V → Hp → VK → Prop := fun xs H Q => (∃ i, xs = [.int i] ∧ Q (.int i) H) ∨ ∃ k, xs = [.bl k] ∧ Q (.int (if k then 1 else 0)) H
theorem call_int1' {X : Cx} : CallR X (.type "int") rInt1 := call_int1
theorem r_intI {i : Int} {H : Hp} {Q : VK} (q : Q (.int i) H) : rInt1 [.int i] H Q := .inl ⟨i, rfl, q⟩
theorem r_intB {b : Bool} {H : Hp} {Q : VK} (q : Q (.int (b2I b)) H) : rInt1 [.bl b] H Q := .inr ⟨b, rfl, q⟩
/-- isinstance of an own instance and its own class -/
structure IsC (K : PySem.W.Frag) (C : Addr) : Prop where
  cl : Cls K C
  ha : PySem.W.findIn K (.ref C) "__class__" = some (some (.builtin "object.__class__"))
  hn : PySem.W.specialIn K (.builtin "object.__class__") "__get__" = some (some (.builtin "getset_descriptor.__get__"))
  ht : PySem.W.takesIn K (.builtin "object.__class__") = some true
  hm : PySem.W.mroIn K C (.type "object") = some true
theorem r_isiO {c : Cfg} {H : Hp} {E : List Ent} {k : Nat} {v : V} {Q : VK} {as : List Addr} {cn : Str} {fds : List (Str × D)} (s : S c H E) (hk : E[k]? = some ⟨v, .obj cn fds, as⟩) (I : IsC c.K (c.ce cn)) (q : Q (.bl true) H) : rIsi c.K [v, .ref (c.ce cn)] H Q := by
  have d := s.dTe hk
  cases d with
  | obj _ h z e l => exact ⟨_, _, _, _, true, rfl, .own _, .base (.ins h I.cl I.ha I.hn I.ht I.hm), if_pos (by simp), q⟩
theorem fitL_of {α : Type} {xs : List α} {u : Unit} (h : fitL xs = some u) : xs.length ≤ LINE := by
  unfold fitL at h
  split at h
  · assumption
  · cases h
theorem keyLen {κ ν : Type} [Kk κ] [TD ν] {kvs : List (Key × V)} {l : List (κ × ν)} (e : kvs.map Prod.fst = (l.map fun p => (Kk.key p.1, td p.2)).map Prod.fst) (hz : kvs.length ≤ sizeLine) : (l.map Prod.fst).length ≤ LINE := by
  have := congrArg List.length e
  rw [List.length_map, List.length_map, List.length_map] at this
  rw [List.length_map, LINE_eq]; omega
/-! ### a function that hands back something that may be None, owned -/
theorem nm_none {α : Type} [TD α] : nm (td (none : Option α)) = 0 := by show nm (.sc _) = 0; rw [nm]
instance {α : Type} [TD α] [Fl0 α] : Fl0 (Option α) := ⟨fun o => match o with | none => nm_none | some x => Fl0.z x⟩
theorem addNq {c : Cfg} {H : Hp} {E : List Ent} (s : S c H E) (α : Type) [TD α] : S c H (dq V.non (td (none : Option α)) ⟨[], nm_none.symm⟩ :: E) := s.addN α
end FB

/-! own exceptions whose __init__ begins with super().__init__(..) -/
namespace FB
open PySem PySem.Spec PyProof.Rows L2 NdefX
/-- the function at f has the cell of __class__ -/
structure ClF (P : Program) (K : PySem.W.Frag) (mg : Str → Option Value) (name qual : Str) (params : Arguments) (body : List Stmt) (scope : Scope) (f C cc cda : Addr) (fd : FuncData) (x0 : Str) : Prop where
  lk : ∃ (oc dV kV doc pm ct : Value) (an od : Option Addr) (osl : Array (Option Value)), fd = PySem.W.fnX name qual params body scope [("__class__", cc)] dV kV doc pm an (.ref cda) ct ∧ K.lookup f = some ⟨oc, od, .func fd, osl⟩
  cd : PySem.W.codeIn K (.ref cda) qual = true
  first : ∃ ar : Arg, (params.posonlyargs ++ params.args).head? = some ar ∧ ar.arg = x0
  code : ∃ (ccl : Value) (cdd : Option Addr) (fvs : Array Value) (ccs : Array (Option Value)) (file : Str) (tf : Tok), K.lookup cda = some ⟨ccl, cdd, .fields fvs, ccs⟩ ∧ fvs[2]? = some (.str file tf) ∧ ((P.main.file : Str) == file) = true
  cell : ∃ (cl : Value) (cld : Option Addr) (csl : Array (Option Value)), K.lookup cc = some ⟨cl, cld, .cell (some (.ref C)), csl⟩
  cls : ∃ cdD, PySem.W.clsIn K C = some cdD
  sub : PySem.W.subIn K (.ref C) (.ref C) = some true
  sup : mg "super" = none
  ks : scope.names.lookup ("super" : Str) = some .globalImplicit
  kc : scope.names.lookup ("__class__" : Str) = some .free
  top : (P.main.scope.names.lookup ("super" : Str)).isSome = false
  opq : PySem.W.nsIn K cStatics "thirdparty.any" = some none
/-- .. and it is the __init__ of an exception over ValueError -/
structure ClE (K : PySem.W.Frag) (C : Addr) : Prop where
  ini : PySem.W.ks_superIn K C C "__init__" = some (some (.builtin "ValueError.__init__"))
  ve : PySem.W.subIn K (.ref C) (.type "ValueError") = some true
abbrev superInit (p0 p1 apos cpos epos : Pos) (e : Expr) : Stmt := .Expr (.Call (.Attribute (.Call (.Name "super" p0) [] [] p1) "__init__" apos) [e] [] cpos) epos
section
variable {X : Cx} {pins : List (Addr × Obj)} {σ : L2.St} {H : Hp} {s : Shared} {a u C : Addr} {E : Value → Shared → Prop} {A : Around}
/-- ValueError's __init__ bound to the object, called: nothing of it is told -/
theorem mwinit_ok {us : List Value} {Q : Value → Shared → Prop} (T : OexC X.K C) (I : Inv X pins σ H s) (e : H a = some (exo a C none)) (hu : s.heap.get? u = some (PySem.W.kxs_mw "ValueError.__init__" a)) (hl : us.length ≤ sizeLine) (h : ∀ s', Inv X pins σ H s' → Q .none s') :
    wpAny (model X.prog X.w) A (call (.ref u) us) Q E s := by
  obtain ⟨nm, q, N, bs, bm, sn, sub, ab, col, dd, k0, k1, k2, k3, k5, hC, hbm⟩ := T.cls
  obtain ⟨t1, ho⟩ := exo_at I.hok e
  have hC := I.kIn _ _ hC
  have fin : ∀ h', (∀ b o, b ≠ a → s.heap.get? b = some o → h'.get? b = some o) → (∃ t2 : Addr, h'.get? a = some ({ cls := .ref C, dict := none, data := .fields #[.ref t2, .none, .none, .none, .bool false, .none] } : Obj)) → Q .none { s with heap := h' } := fun h' k ⟨t2, hx⟩ => by
    have J := I.write (t' := s.toks) (x := a) (e := a) (o := exo a C none) (by rw [e]; exact True.intro) (.inl rfl) k ⟨_, hx⟩ (exo_ok hx)
    have eu : upd H a (exo a C none) = H := by
      funext b
      by_cases hb : b = a
      · rw [hb, upd_same, e]
      · rw [upd_ne hb]
    rw [eu] at J
    exact h _ J
  obtain ⟨hh, g, d, tk, os⟩ := s
  refine wpAny_call (codeAny_of_tree ?_)
  show wpAny _ A.in1 (callAny (.ref u) ⟨us, []⟩) _ _ _
  simp only [callAny]
  refine wpAny_bind (wpAny_load hu ?_)
  simp only [PySem.W.kxs_mw, show (Value.type "method-wrapper" == Value.type "method" || Value.type "method-wrapper" == Value.type "builtin_function_or_method" || Value.type "method-wrapper" == Value.type "method-wrapper") = true by decide, if_true]
  refine PySem.W.KFB.if_so (by decide) ?_
  refine wpAny_bind (PySem.W.check_bound_init F.excBase_ValueError.toExcCallFacts hC ho rfl ?_)
  refine wpAny_bind (wpAny_pure (wpAny_pure ?_))
  refine ⟨Code.quiet_builtin _ (by decide +kernel), codeAny_builtin F.excBase_ValueError.initEntry ?_⟩
  exact PySem.W.exc_init_tree (cls := .ref C) (t0 := t1) (dv := none) (c2 := .none) (c3 := .none) (b4 := .bool false) ho hl fun h' k hx _ => fin h' k ⟨_, hx⟩
end
section
variable {CX : CXT} {P : Program} {w : World} {K : PySem.W.Frag} {mg : Str → Option Value} {base : Heap} {N ps : List Str} {name qual x0 : Str} {params : Arguments} {rest : List Stmt} {scope : Scope} {f C cc cda : Addr} {fd : FuncData} {k : Nat} {sp : Sp} {p0 p1 apos cpos epos : Pos} {e : Expr}
theorem fnS_init (CF : ClF P K mg name qual params (superInit p0 p1 apos cpos epos e :: rest) scope f C cc cda fd x0) (CI : ClE K C) (T : OexC K C) (Sc : NScope N ps ["__class__"] scope) (hps : ps.head? = some x0)
    (he : ∀ env, eval (.Call (.Attribute (.Call (.Name "super" p0) [] [] p1) "__init__" apos) [e] [] cpos) env = (do
      let ov ← attributeBase (.Call (.Name "super" p0) [] [] p1) "__init__" env (eval (.Call (.Name "super" p0) [] [] p1) env)
      standAt apos.atName
      let (f, first) ← holding [ov] (getMethod ov "__init__" (do return (← importBound (.Call (.Name "super" p0) [] [] p1) env).getD true))
      callWith cpos f first (backTo cpos (starEach [e] env)) []))
    (hse : ∀ env, starEach [e] env = [(false, eval e env)]) (len : ∀ vs H Q E, sp vs H Q E → vs.length = ps.length)
    (hb : ∀ (A : Around) (outer : List Env) (s : Shared) (H : Hp) (vs : List V) (Q : VK) (E : XK), Room k (A.deeper (envF ⟨name, qual, params, superInit p0 p1 apos cpos epos e :: rest, scope, [("__class__", cc)], cda⟩ f s.heap.objs.size)) → sp vs H Q E →
      ∃ (a : Addr) (ta : TA) (t : TS), vs.head? = some (.ref a) ∧ H a = some (exo a C none) ∧ PA (ncx CX P w K mg base N ⟨name, qual, params, superInit p0 p1 apos cpos epos e :: rest, scope, [("__class__", cc)], cda⟩ f A outer s H E) [e] ta ∧
        PSs (ncx CX P w K mg base N ⟨name, qual, params, superInit p0 p1 apos cpos epos e :: rest, scope, [("__class__", cc)], cda⟩ f A outer s H E) rest t ∧
        ta (startF N vs [none]) H fun ws H1 => ws.length ≤ 1000 ∧ H1 a = some (exo a C none) ∧ t { nx := fun _ H' => Q .non H', rt := Q } (startF N vs [none]) H1) :
    FnOk P w K mg base CX (k + 1) f fd ps sp := by
  refine ⟨len, fun A outer s H args us vs Q E hr e0 bt rv hsp => ?_⟩
  have hl := len _ _ _ _ hsp
  have kin : K.In s.heap := e0.mod.kin.keeps fun b o' e => (e0.bs b o' e).1
  have lim : s.heap.NoLimit := e0.mod.nolimit.keeps fun b o e => (e0.bs b o e).1
  obtain ⟨oc, dV, kV, doc, pm, ct, an, od, osl, rfl, lk⟩ := CF.lk
  obtain ⟨ccl, cdd, fvs, ccs, file, tf, hcode, hvs, hfile⟩ := CF.code
  obtain ⟨cl, cld, csl, hcell⟩ := CF.cell
  obtain ⟨cdD, hcls⟩ := CF.cls
  obtain ⟨ar, har, harx⟩ := CF.first
  have hrun := hb A outer s H vs Q E (hr.deeper _) hsp
  obtain ⟨a, ta, t, hv0, hHa, hPA, hPS, hta⟩ := hrun
  let F : NF := ⟨name, qual, params, superInit p0 p1 apos cpos epos e :: rest, scope, [("__class__", cc)], cda⟩
  have lkc : ∀ {y : Str} {d : Addr}, F.cl.lookup y = some d → y = "__class__" ∧ d = cc := fun {y d} h => by
    change List.lookup y [(("__class__" : Str), cc)] = some d at h
    rw [List.lookup_cons] at h
    split at h
    · rename_i q; cases h; exact ⟨beq_iff_eq.mp q, rfl⟩
    · cases h
  have hcellH : H cc = none ∧ ∃ v, s.heap.IsCell cc v := ⟨(e0.bs _ _ (e0.mod.kin _ _ hcell)).2, _, _, kin _ _ hcell, rfl⟩
  have C0 : CellsAt F.cl ["__class__"] [none] s.heap H := by
    refine ⟨rfl, fun y d h => ?_, fun x y d h1 h2 => (lkc h1).1.trans (lkc h2).1.symm, fun i y h => ?_⟩
    · obtain ⟨_, rfl⟩ := lkc h; exact hcellH
    · cases i with
      | zero => simp at h; subst h; exact ⟨cc, by first | rfl | decide, fun v z => by cases z⟩
      | succ i => simp at h
  refine codeAny_call_function hr.depth (kin _ _ lk) rfl Sc.co Sc.gen rfl (PySem.W.codeRec_of kin CF.cd) (bt _ _ _ _ (wpAny_newFunctionEnv Sc.nocell (fun ⟨n, _⟩ hy => Sc.par n (List.of_mem_zip hy).1) (fun h₁ hns hsb => ⟨lim.fresh _ hsb, ?_⟩) Sc.kind))
  show codeAny _ _ (.func F.body (envF F f s.heap.objs.size)) _ _
  have kp : ∀ b o, s.heap.get? b = some o → h₁.get? b = some o := fun b o e => hsb.extBut b o (Nat.ne_of_lt (Heap.lt_size e)) (Heap.get?_push_of_some _ e)
  have I : Inv (ncx CX P w K mg base N F f A outer s H E) [] (startF N vs [none]) H { s with heap := h₁, toks := s.toks + (ps.zip us).length } := inv_startN Sc hr.hd e0 hl rv C0 hns kp
  refine PySem.ks_codeAny_funcAt ?_
  have kin1 : K.In h₁ := kin.keeps kp
  obtain ⟨u0, hu0, hua⟩ : ∃ u0, us[0]? = some u0 ∧ u0 = Value.ref a := by
    cases rv with
    | nil => cases hv0
    | cons r1 _ => cases hv0; exact ⟨_, rfl, r1⟩
  subst hua
  have hself : (ps.zip us).reverse.lookup x0 = some (.ref a) := by
    refine zip_look (i := 0) ?_ (by cases ps with | nil => cases hps | cons _ _ => simpa using hps) hu0
    have q := Sc.nd.sublist (List.take_sublist (ps.length + [("__class__" : Str)].length) N)
    rw [Sc.pre] at q
    exact (List.nodup_append.mp q).1
  have hx0 : scope.names.lookup x0 = some .local := Sc.par x0 (by cases ps with | nil => cases hps | cons _ _ => cases hps; exact List.mem_cons_self)
  obtain ⟨t1, ho⟩ := exo_at I.hok hHa
  obtain ⟨oD, hD1, hD2⟩ : ∃ oD, h₁.get? C = some oD ∧ oD.data = .cls cdD := by
    have hc := hcls
    unfold PySem.W.clsIn at hc
    split at hc
    · rename_i q1 q2 q3 q4 hoo
      cases hc
      exact ⟨_, kin1 _ _ hoo, rfl⟩
    · cases hc
  obtain ⟨mb, hb1, hb2⟩ := I.mod.blt
  have fin : ∀ {σ' : L2.St} {H' : Hp} {v : V} {u : Value} {s' : Shared}, Inv (ncx CX P w K mg base N F f A outer s H E) [] σ' H' s' → L2.RelV v u → Q v H' → CE outer P w H s Q u s' :=
    fun {σ' H' v u s'} J rv q => ⟨v, H', J.os, J.bare, J.base, J.hok, rv, q⟩
  refine PySem.ks_wpAt_execs_cons (PySem.ks_wpAt_Expr_any (PySem.ks_wpAt_MethodCall (PySem.ks_wpAt_super_base (env := envF F f s.heap.objs.size) CF.ks CF.kc (by decide) rfl (kin1 _ _ lk) rfl har rfl (kin1 _ _ hcode) rfl hvs hfile CF.top ?_) (he _)) I.quiet)
  refine PySem.W.ks_loadName_global Sc.kind CF.ks (Calls.loadGlobal_builtin (env := envF F f s.heap.objs.size) (I.mod.glob.keeps I.bk) CF.sup (hb1.keeps I.bk) ((hb2 "super" (by decide)).trans (by decide +kernel : bootBuiltins "super" = some (.type "super"))) ⟨rfl, ?_⟩)
  refine wpAny_loadName_free Sc.kind CF.kc rfl ⟨_, kin1 _ _ hcell, rfl⟩ ?_
  rw [harx]
  refine wpAny_loadName_local Sc.kind hx0 hns hself ?_
  refine PySem.ks_wpAny_isType_cls hD1 hD2 ⟨rfl, ?_⟩
  refine PySem.ks_wpAny_call_super hD1 hD2 ho rfl (fun c e => by cases e) (PySem.W.looks_subIn kin1 CF.sub) (fun h2 e2 k2 => ?_)
  have kin2 : K.In h2 := kin1.keeps fun b o e => k2 b o e
  have hI2 : PySem.W.Looks (model P w) h2 (isInstance (.ref a) (.type "ValueError")) true := by
    refine PySem.W.Looks.andThen (fun A Q E s k q => wpAny_typeOf_ref (k _ _ (k2 _ _ ho)) q) (PySem.W.looks_subIn kin2 CI.ve)
  have hmro := CI.ini
  unfold PySem.W.ks_superIn at hmro
  rw [hcls] at hmro
  have hne : a ≠ C := fun z => by
    rw [z, hD1] at ho; cases ho; cases hD2
  refine PySem.W.kxs_getMethod PySem.W.kxs_ValueError e2 (PySem.W.looks_opaque kin2 CF.opq) (l₀ := cdD.mro) (fun A Q E s k q => wpAny_bind ((PySem.W.looks_clsIn kin2 hcls) A _ E s k (wpAny_pure q))) rfl kin2 hmro hI2 hne (by decide) ?_
  have I2 : Inv (ncx CX P w K mg base N F f A outer s H E) [(h2.objs.size, PySem.W.kxs_mw "ValueError.__init__" a)] (startF N vs [none]) H ⟨h2.push (PySem.W.kxs_mw "ValueError.__init__" a), s.gens, s.drawn, s.toks + (ps.zip us).length + 1, s.os⟩ := by
    have J := I.kept (h' := h2.push (PySem.W.kxs_mw "ValueError.__init__" a)) (t' := s.toks + (ps.zip us).length + 1) fun b u e => Heap.get?_push_of_some _ (k2 b u e)
    refine J.pins_of fun p hp => ?_
    rw [List.mem_singleton.mp hp]
    have hge : h₁.objs.size ≤ h2.objs.size := Nat.le_of_lt (Heap.lt_size e2)
    exact ⟨Heap.get?_push_at rfl rfl, I.hok.fresh hge, fun z => absurd I.lt (by rw [← z]; exact Nat.not_lt.mpr hge), I.nofs hge, fun v z => by cases z⟩
  refine PySem.W.kxs_callWith (i := "ValueError.__init__") (x := a) (by rw [hse]; rfl) ?_
  rw [hse]
  have run1 := hPA.run cpos _ _ _ _ _ I2 hta
  rw [hse] at run1
  refine PySem.Calls.evalArgs_plain (wpAny_mono run1 (fun us1 s1 hs1 => ?_) fun e s' hs => hs)
  obtain ⟨ws, H1, I3, r1, hl1, hH1, ht1⟩ := hs1
  have hp := I3.pin (h2.objs.size, PySem.W.kxs_mw "ValueError.__init__" a) (List.mem_append_right _ (List.mem_singleton.mpr rfl))
  refine ⟨hp.1, ?_⟩
  refine mwinit_ok (X := ncx CX P w K mg base N F f A outer s H E) T I3 hH1 hp.1 (by show us1.length ≤ sizeLine; rw [← r1.length, sizeLine_eq]; omega) fun s2 I4 => ?_
  have I5 : Inv (ncx CX P w K mg base N F f A outer s H E) [] (startF N vs [none]) H1 s2 := I4.pins_of fun p hp => nomatch hp
  refine PySem.wpAt_of_wpAny (wpAny_mono (hPS.run [] _ _ _ _ I5 ht1) (fun fl s' hs => ?_) fun e s' hs => hs)
  cases fl with
  | ret u =>
    obtain ⟨v, σ', H', J, rv, q⟩ := hs
    exact fin J rv q
  | next =>
    obtain ⟨σ', H', J, q⟩ := hs
    exact fin (v := V.non) (u := Value.none) J rfl q
  | brk =>
    obtain ⟨_, _, _, q⟩ := hs
    exact False.elim q
  | cont =>
    obtain ⟨_, _, _, q⟩ := hs
    exact False.elim q
end
end FB

/-! own exceptions: made, raised, caught by one of several clauses 'except X as e', their fields read -/
namespace FB
open PySem PySem.Spec PyProof.Rows L2 NdefX
/-- what the clauses 'except X as n' wish, one after the other; slot i is n's -/
def wManyA (K : PySem.W.Frag) (i : Nat) (Wout : WX) (D : Ends) : List (Value × (Addr → Value → Option Addr → TS)) → WX
  | [] => Wout
  | (c, ts) :: r => fun cls d σ H => ∃ b, PySem.W.exmOne K cls c = some b ∧
      (b = true → ∀ a, H a = none → ts a cls d { nx := fun σ' H' => D.nx (σ'.set i none) H', rt := D.rt, bk := fun σ' H' => D.bk (σ'.set i none) H', ct := fun σ' H' => D.ct (σ'.set i none) H' } (σ.set i (some (.ref a))) H) ∧
      (b = false → wManyA K i Wout D r cls d σ H)
inductive HdsA (X : Cx) (n : Str) : List ExceptHandler → List (Value × (Addr → Value → Option Addr → TS)) → Prop
  | nil : HdsA X n [] []
  | cons {x : Str} {c : Value} {ts : Addr → Value → Option Addr → TS} {b₀ : Stmt} {suite : List Stmt} {np pos' : Pos} {hds : List ExceptHandler} {l : List (Value × (Addr → Value → Option Addr → TS))} (hc : Names X x c)
      (hsu : ∀ (a : Addr) (oe : Obj) (cls : Value) (d : Option Addr) (pn : List (Addr × Obj)), Zc cls d oe → (∃ vs, oe.data = .fields vs) → PSs (X.suite a ((a, oe) :: pn)) (b₀ :: suite) (ts a cls d)) (r : HdsA X n hds l) :
      HdsA X n (.ExceptHandler (some (.Name x np)) (some n) (b₀ :: suite) pos' :: hds) ((c, ts) :: l)
section
variable {X : Cx} {n : Str} {i : Nat} {body : List Stmt} {h₀ : ExceptHandler} {hds : List ExceptHandler} {l : List (Value × (Addr → Value → Option Addr → TS))} {pos : Pos} {tb : WX → TS} {Wout : WX}
theorem ps_try_asM (hs : X.stack = X.env :: X.outer) (hf : X.env.frame = some X.env.locals) (hN : X.N.Nodup) (hi : X.N[i]? = some n) (hln : X.env.kindOf n = some .local) (tk : Takes X Wout)
    (hb : ∀ (W : WX) (pn : List (Addr × Obj)) (xe : Value → Shared → Prop), Takes (X.tr pn xe) W → PassesOwn (model X.prog X.w) X.A X.env xe → PSs (X.tr pn xe) body (tb W))
    (hh : HdsA X n (h₀ :: hds) l) : PS X (.Try body (h₀ :: hds) [] [] pos) (fun D σ H => tb (wManyA X.K i Wout D l) D σ H) := by
  refine ⟨fun pins s σ H D I h => ?_⟩
  have ok := I.ok
  have hloc : Loc X.env.scope n := .inl hln
  have hfr : X.A.frames = some (X.env :: X.outer) := by rw [ok.frames, hs]
  refine wpAny_Try_except ?_
  refine wpAny_mono ((hb (wManyA X.K i Wout D l) (X.pn ++ pins) (fun e s₁ => wpAny (model X.prog X.w) X.A (noteFrame e X.env) (fun _ s₂ => wpAny (model X.prog X.w) X.A (setFlight e none) (fun _ s₃ =>
    wpAny (model X.prog X.w) X.A (handleBy e X.env (h₀ :: hds)) (SP X pins D) X.xe s₃) X.xe s₂) X.xe s₁) (fun u s' xx => ?_) PassesOwn.looking).run [] s σ H D (I.toTry _) h) (fun f s1 hsp => ?_) (fun e s1 he => he)
  · obtain ⟨a, B, sI, pins', σ', H', cls, d, rfl, J', nb, up, sky, na, os, ag, w⟩ := xx
    have J : Inv X pins σ' H' sI := J'.ofTry ok
    have sky' : Sky B (X.env :: X.outer) a (Zc cls d) X.env.locals s'.heap := by rw [← hs]; exact sky
    show wpAny (model X.prog X.w) X.A (noteFrame (.ref a) X.env) _ _ _
    refine Sky.land Zc.steady hfr hf sky' fun h3 fl3 up3 => ?_
    have J3 : Inv X pins σ' H' { s' with heap := h3 } := J.landed nb fl3.1 (up.trans up3) os ag
    obtain ⟨oe3, vs3, he3, hz3, hd3⟩ := fl3.there
    have notFr : ∀ {h : Heap} {o : Obj} {vs : Array Value}, h.FunFrames B (X.env :: X.outer) → h.get? a = some o → o.data = .fields vs → a ∉ frs (X.env :: X.outer) := fun {h o vs} ff e dd hm => by
      obtain ⟨_, o', e', hnf⟩ := ff.mem hm
      rw [e] at e'; cases e'
      exact hnf _ dd
    have nfr := notFr fl3.2.2.1 he3 hd3
    have nL : a ≠ X.env.locals := fun z => nfr (List.mem_filterMap.mpr ⟨X.env, List.mem_cons_self, by rw [hf, z]⟩)
    have nF : a ∉ X.fs := fun hm => by
      obtain ⟨e, he, q⟩ := List.mem_filterMap.mp hm
      exact nfr (List.mem_filterMap.mpr ⟨e, List.mem_cons_of_mem _ he, q⟩)
    have S3 := J3.suite he3 hd3 na nL nF
    have go : ∀ {hds' : List ExceptHandler} {l' : List (Value × (Addr → Value → Option Addr → TS))}, HdsA X n hds' l' → wManyA X.K i Wout D l' cls d σ' H' →
        wpAny (model X.prog X.w) X.A (handleBy (.ref a) X.env hds') (SP X pins D) X.xe { s' with heap := h3 } := by
      intro hds' l' hk
      induction hk with
      | nil =>
        intro w
        refine wpAny_handleBy_nil ?_
        obtain ⟨k1, k2, k3, oe, vs, T, oT, ts', he, hz, hd, h1, hr⟩ := id fl3
        unfold PySem.passOn
        refine wpAny_bind (wpAny_field he hd h1 ?_)
        rw [if_neg (show ¬ ((Value.ref T == Value.none) = true) from by simp)]
        have fin : wpAny (model X.prog X.w) X.A (setFlight (.ref a) X.env.frame) (fun _ s4 => wpAny (model X.prog X.w) X.A (throw (.ref a) : Sem Flow) (SP X pins D) X.xe s4) X.xe { s' with heap := h3 } := by
          rw [hf]
          refine HandSPX.setFlight_upZ fl3 fun h4 hh4 up4 => wpAny_throw (tk _ _ ?_)
          exact ⟨a, B, sI, pins, σ', H', cls, d, rfl, J, nb, (up.trans up3).trans up4, .inr (.inr (by rw [hs]; exact hh4)), na, os, ag, w⟩
        first
          | exact wpAny_bind (wpAny_pure (wpAny_bind fin))
          | exact wpAny_bind fin
      | @cons x c ts b₀ suite np pos' hds2 l2 hc hsu r ih =>
        intro w
        obtain ⟨b, hb1, hyes, hno⟩ := w
        refine wpAny_handleBy_cons (codeAny_handlers_test ?_) (by intro q; cases q)
        have LT : PySem.W.Looks (model X.prog X.w) h3 (typeOf (.ref a)) cls := fun A Q E s k q => wpAny_typeOf_ref (k _ _ he3) (by rw [hz3.1]; exact q)
        have LM := PySem.W.exm_one (M := model X.prog X.w) (J3.kIn) LT hb1
        have test : ∀ {Q : Value → Shared → Prop} {E : Value → Shared → Prop}, Q c { s' with heap := h3 } → wpAny (model X.prog X.w) (X.A.mark (some (.ref a))) (eval (.Name x np) X.env) Q E { s' with heap := h3 } := fun {Q E} q => by
          obtain ⟨hg, hdbg, hm | ⟨hm, hv, hnn⟩⟩ := hc
          · exact ld_glob (X := X.suite a ((a, oe3) :: (X.pn ++ pins))) S3 hg hm q hdbg
          · exact ld_blt (X := X.suite a ((a, oe3) :: (X.pn ++ pins))) S3 hg hm hv q hnn hdbg
        refine test (LM.here ?_)
        cases b with
        | true =>
          refine codeAny_handlers_suite_as ?_
          refine HandSPX.lands_againZ fl3 fun h4 fl4 up4 => ?_
          have J4 : Inv X pins σ' H' { s' with heap := h4 } := J.landed nb fl4.1 ((up.trans up3).trans up4) os ag
          obtain ⟨oe4, vs4, he4, hz4, hd4⟩ := fl4.there
          have S4 := J4.suite he4 hd4 na nL nF
          refine store_ok (X := X.suite a ((a, oe4) :: (X.pn ++ pins))) (v := .ref a) S4 hN hi hloc rfl (fun s5 S5 => ?_) (.inr hln)
          refine wpAny_mono ((hsu a oe4 cls d (X.pn ++ pins) hz4 ⟨_, hd4⟩).run [] s5 _ H' _ S5 (hyes rfl a na)) (fun f s6 hsp => ?_) (fun _ _ z => False.elim z)
          have end_ : ∀ {σ6 : L2.St} {H6 : Hp} {Q : Shared → Prop}, Inv (X.suite a ((a, oe4) :: (X.pn ++ pins))) [] σ6 H6 s6 → (∀ s7, Inv X pins (σ6.set i none) H6 s7 → Q s7) →
              wpAny (model X.prog X.w) X.A (do bindName X.env n .none; unbindBehindTheSuite X.env n pos') (fun _ s7 => Q s7) X.xe s6 := fun {σ6 H6 Q} S6 hq => gone_ok (S6.unsuite ok) hN hi hln hq
          cases f with
          | next =>
            obtain ⟨σ6, H6, S6, q6⟩ := hsp
            exact end_ S6 fun s7 J7 => ⟨_, _, J7, q6⟩
          | brk =>
            obtain ⟨σ6, H6, S6, q6⟩ := hsp
            exact end_ S6 fun s7 J7 => ⟨_, _, J7, q6⟩
          | cont =>
            obtain ⟨σ6, H6, S6, q6⟩ := hsp
            exact end_ S6 fun s7 J7 => ⟨_, _, J7, q6⟩
          | ret u =>
            obtain ⟨v6, σ6, H6, S6, r6, q6⟩ := hsp
            exact end_ S6 fun s7 J7 => ⟨_, _, _, J7, r6, q6⟩
        | false =>
          show wpAny _ X.A (handleBy (.ref a) X.env hds2) _ _ _
          exact ih (hno rfl)
    exact go hh w
  · cases f with
    | next =>
      obtain ⟨σ', H', J', q⟩ := hsp
      exact wpAny_execs_nil ⟨σ', H', J'.ofTry ok, q⟩
    | brk =>
      obtain ⟨σ', H', J', q⟩ := hsp
      exact ⟨σ', H', J'.ofTry ok, q⟩
    | cont =>
      obtain ⟨σ', H', J', q⟩ := hsp
      exact ⟨σ', H', J'.ofTry ok, q⟩
    | ret u =>
      obtain ⟨v, σ', H', J', r, q⟩ := hsp
      exact ⟨v, σ', H', J'.ofTry ok, r, q⟩
end
/-! ### made -/
/-- the promise of an __init__ that sets one field -/
def IniP (C : Addr) (f : Str) (ok : V → Prop) : Sp := fun vs H Q _ => ∃ (a : Addr) (v : V), vs = [.ref a, v] ∧ H a = some (exo a C none) ∧ ok v ∧
  ∀ dx, H dx = none → dx ≠ a → Q .non (upd (upd H dx (exd dx [(f, v)])) a (exo a C (some dx)))
def RMk (C : Addr) (sp : Sp) (dvs : List V) (Q : XK) : List V → Hp → Prop := fun vs H1 => vs.length ≤ 1000 ∧ ∀ a, H1 a = none → sp (.ref a :: (vs ++ dvs)) (upd H1 a (exo a C none))
  (fun v H2 => v = .non ∧ ∃ (d : Addr) (fs : List (Str × V)), H2 a = some (exo a C (some d)) ∧ H2 d = some (exd d fs) ∧ H1 d = none ∧ Q (.ref C) (some d) (upd (del H2 a) d (.xd fs))) (fun _ _ _ => False)
section
variable {c : Cfg} {H : Hp} {E : List Ent} {C : Addr} {sp : Sp} {dvs : List V} {ta : TA} {W : WX} {σ : L2.St} {D : Ends} {f : Str} {ok : V → Prop} {v : V}
theorem w_raise (h : ta σ H (RMk C sp dvs fun cls d H' => W cls d σ H')) : (fun (_ : Ends) σ H => tMkO C sp dvs ta σ H fun cls d H' => W cls d σ H') D σ H := h
theorem w_mkO {Q : XK} {H : Hp} (h : ta σ H (RMk C sp dvs Q)) : tMkO C sp dvs ta σ H Q := h
/-- an object that no entry tells of -/
theorem S.more (s : S c H E) {p : Addr} {o : HO} (hp : H p = none) : S c (upd H p o) E :=
  s.go (T := []) (fun _ z => nomatch z) (S.keepNew hp) (fun _ z => nomatch z) s.nd (fun a h => .inl h) fun e he => .inl ⟨he, fun _ _ z => nomatch z⟩
theorem r_mk1 (s : S c H E) (hv : ok v) {Q : XK} (q : ∀ d H', S c H' E → H' d = some (.xd [(f, v)]) → Q (.ref C) (some d) H') : RMk C (IniP C f ok) [] Q [v] H := by
  refine ⟨by simp, fun a ha => ⟨a, v, rfl, upd_same, hv, fun dx hd hn => ⟨rfl, dx, [(f, v)], upd_same, ?_, ?_, ?_⟩⟩⟩
  · rw [upd_ne hn, upd_same]
  · rw [upd_ne hn] at hd; exact hd
  · rw [upd_ne hn] at hd
    have e : upd (del (upd (upd (upd H a (exo a C none)) dx (exd dx [(f, v)])) a (exo a C (some dx))) a) dx (.xd [(f, v)]) = upd H dx (.xd [(f, v)]) := by
      funext b
      by_cases h1 : b = dx
      · subst h1; rw [upd_same, upd_same]
      · rw [upd_ne h1, upd_ne h1]
        by_cases h2 : b = a
        · subst h2; rw [del_same]; exact ha.symm
        · rw [del_ne h2, upd_ne h2, upd_ne h1, upd_ne h2]
    rw [e]
    exact q dx _ (s.more hd) upd_same
end
/-! ### caught -/
section
variable {c : Cfg} {H : Hp} {E : List Ent} {σ : L2.St} {Q : VK} {a C : Addr} {cls : Value} {d : Option Addr} {f : Str} {te : TE} {v : V}
def RXf (a : Addr) (cls : Value) (d : Option Addr) (C : Addr) (f : Str) (Q : VK) : VK := fun x H1 => x = .ref a ∧ cls = .ref C ∧ ∃ (dd : Addr) (fs : List (Str × V)) (v : V), d = some dd ∧ H1 dd = some (.xd fs) ∧ fs.lookup f = some v ∧ Q v H1
theorem w_xf (h : te σ H (RXf a cls d C f Q)) : tXf a cls d C f te σ H Q := h
theorem r_xf {dd : Addr} {fs : List (Str × V)} (hd : H dd = some (.xd fs)) (hl : fs.lookup f = some v) (q : Q v H) : RXf a (.ref C) (some dd) C f Q (.ref a) H := ⟨rfl, rfl, dd, fs, v, rfl, hd, hl, q⟩
variable {K : PySem.W.Frag} {i : Nat} {Wout : WX} {D : Ends} {ts : Addr → Value → Option Addr → TS} {r : List (Value × (Addr → Value → Option Addr → TS))} {cv : Value}
theorem x_yes (h : PySem.W.exmOne K cls cv = some true)
    (q : ∀ a, H a = none → ts a cls d { nx := fun σ' H' => D.nx (σ'.set i none) H', rt := D.rt, bk := fun σ' H' => D.bk (σ'.set i none) H', ct := fun σ' H' => D.ct (σ'.set i none) H' } (σ.set i (some (.ref a))) H) :
    wManyA K i Wout D ((cv, ts) :: r) cls d σ H := ⟨true, h, fun _ => q, fun z => nomatch z⟩
theorem x_no (h : PySem.W.exmOne K cls cv = some false) (q : wManyA K i Wout D r cls d σ H) : wManyA K i Wout D ((cv, ts) :: r) cls d σ H := ⟨false, h, (fun z => nomatch z), fun _ => q⟩
theorem x_end (q : Wout cls d σ H) : wManyA K i Wout D [] cls d σ H := q
end
/-- a try -/
theorem w_try {tb : WX → TS} {K : PySem.W.Frag} {i : Nat} {Wout : WX} {l : List (Value × (Addr → Value → Option Addr → TS))} {D : Ends} {σ : L2.St} {H : Hp} (h : tb (wManyA K i Wout D l) D σ H) : (fun D σ H => tb (wManyA K i Wout D l) D σ H) D σ H := h
def rFindS : V → List V → Hp → VK → Prop := fun x xs H Q => ∃ a b, x = .str a ∧ xs = [.str b] ∧ Q (.int (Txt.find a b)) H
theorem mt_find' {X : Cx} : MtR X "str.find" rFindS := mt_find
theorem r_findS {x y : Str} {H : Hp} {Q : VK} (q : Q (.int (Txt.find x y)) H) : rFindS (.str x) [.str y] H Q := ⟨x, y, rfl, rfl, q⟩
/-- self.f = e in an error's __init__ -/
theorem w_ost {K : PySem.W.Frag} {f : Str} {to te : TE} {nx bk ct : L2.St → Hp → Prop} {rt : VK} {σ : L2.St} {H : Hp} (h : te σ H fun y H1 => to σ H1 fun x H2 => ∃ a C : Addr, x = .ref a ∧ OexC K C ∧ PySem.W.findIn K (.ref C) f = some none ∧
  ((H2 a = some (exo a C none) ∧ ∀ dx, H2 dx = none → dx ≠ a → nx σ (upd (upd H2 dx (exd dx [(f, y)])) a (exo a C (some dx)))) ∨
    ∃ (dx : Addr) (fs : List (Str × V)), H2 a = some (exo a C (some dx)) ∧ H2 dx = some (exd dx fs) ∧ fs.length ≤ 900 ∧ nx σ (upd H2 dx (exd dx ((f, y) :: fs))))) : tOst K f to te ⟨nx, rt, bk, ct⟩ σ H := h
/-- what an except clause's class says of an error's class -/
theorem exm_sub {K : PySem.W.Frag} {C S : Addr} {b : Bool} (h1 : PySem.W.subIn K (.ref S) (.type "BaseException") = some true) (h2 : PySem.W.isClsIn K S = true) (h3 : PySem.W.typeIn K (.ref S) = some (.type "type")) (h4 : PySem.W.subIn K (.ref C) (.ref S) = some b) :
    PySem.W.exmOne K (.ref C) (.ref S) = some b := by
  have e1 : (PySem.W.subIn K (.ref S) (.type "BaseException") == some true) = true := by rw [h1]; rfl
  have e2 : ((PySem.W.clsIn K S).isSome && PySem.W.typeIn K (.ref S) == some (.type "type")) = true := by
    have h2' : (PySem.W.clsIn K S).isSome = true := h2
    rw [h2', h3]; rfl
  show (if (PySem.W.subIn K (.ref S) (.type "BaseException") == some true) = true then (if ((PySem.W.clsIn K S).isSome && PySem.W.typeIn K (.ref S) == some (.type "type")) = true then PySem.W.subIn K (.ref C) (.ref S) else none) else none) = some b
  rw [if_pos e1, if_pos e2]
  exact h4
theorem cls_of {K : PySem.W.Frag} {C : Addr} {nm q : Str} {N : Addr} {bs bm : List Value} {hd : Bool} {sn : List Str} {sub : List Value} {ab : Bool} {col : Option Bool} {dd : Option Addr} {k0 k1 k2 k3 k5 : Option Value} {nw : String} (h : K.lookup C = some (excClassObj nm q C N bs bm hd sn sub ab col dd k0 k1 k2 k3 k5 nw)) : ∃ cd, PySem.W.clsIn K C = some cd := by
  unfold PySem.W.clsIn
  rw [h]
  exact ⟨_, rfl⟩
/-! ### several promises of one def -/
def spOr (a b : Sp) : Sp := fun vs H Q E => a vs H Q E ∨ b vs H Q E
theorem FnG.or {P : Program} {w : World} {K : PySem.W.Frag} {mg : Str → Option Value} {base : Heap} {k j : Nat} {f : Addr} {a b : Sp} (F : FnG P w K mg base k f a) (G : FnG P w K mg base j f b) : FnG P w K mg base (max k j) f (spOr a b) := fun A o s H us vs Q E hr e0 rv h =>
  h.elim (fun h => (F.mono (Nat.le_max_left k j)) A o s H us vs Q E hr e0 rv h) fun h => (G.mono (Nat.le_max_right k j)) A o s H us vs Q E hr e0 rv h
/-! ### words -/
def Rs.okP {ε α : Type} : Rs ε α → (α → Prop) → Prop
  | .ok a, P => P a
  | .ex _, _ => True
def Rs.exP {ε α : Type} : Rs ε α → (ε → Prop) → Prop
  | .ok _, _ => True
  | .ex e, P => P e
def sumP {α β : Type} : α ⊕ β → (α → Prop) → (β → Prop) → Prop
  | .inl a, P, _ => P a
  | .inr b, _, Q => Q b
theorem okO_some {ε α : Type} {x : Option (Rs ε α)} {a : α} (h : okO x = some a) : x = some (.ok a) := by
  unfold okO at h
  split at h
  · cases h; rfl
  · cases h
end FB

/-! unlike values compared -/
namespace FB
open PySem L2
open SeqAt
inductive Kd where
  | non | int | str | lst | tup
  deriving DecidableEq
/-- what kind of value it is (a bool is told of nowhere: True == 1) -/
def kd : D → Option Kd
  | .sc .non => some .non
  | .sc (.int _) => some .int
  | .sc (.str _) => some .str
  | .lst _ => some .lst
  | .tup _ => some .tup
  | _ => none
/-- the machine's value of this kind -/
def KVal (s : Shared) : Kd → Value → Prop
  | .non, u => u = .none
  | .int, u => ∃ i t, u = .int i t
  | .str, u => ∃ z t, u = .str z t
  | .lst, u => ∃ a its, u = .ref a ∧ s.heap.IsList a its
  | .tup, u => ∃ a its, u = .ref a ∧ s.heap.IsTuple a its
theorem kval {X : Cx} {pins : List (Addr × Obj)} {σ : L2.St} {H : Hp} {s : Shared} {ce : Str → Addr} {ok : Addr → Prop} {v : V} {u : Value} {d : D} {k : Kd} (I : Inv X pins σ H s) (h : Da X.K ce H ok v d) (hk : kd d = some k) (r : RelV v u) : KVal s k u := by
  cases h with
  | sc v =>
    cases v with
    | non => cases hk; exact r
    | int i => cases hk; obtain ⟨t, q⟩ := r; exact ⟨i, t, q⟩
    | str z => cases hk; obtain ⟨t, q⟩ := r; exact ⟨z, t, q⟩
    | _ => cases hk
  | tup e z l =>
    cases hk; cases r
    obtain ⟨its, _, t, _⟩ := I.tuple e.sq
    exact ⟨_, _, rfl, t⟩
  | lst o e z l =>
    cases hk; cases r
    obtain ⟨its, _, t, _⟩ := I.list (.of e)
    exact ⟨_, _, rfl, t.isList⟩
  | _ => cases hk
theorem kmix {A : Around} {s : Shared} (hu : A.units < cLine) : ∀ {k k' : Kd} {u u' : Value}, KVal s k u → KVal s k' u' → k ≠ k' → Rc2 A s u u' false ∧ EqAt A s u u' false
  | .non, .non, _, _, _, _, hne => absurd rfl hne
  | .non, .int, _, _, rfl, ⟨j, w, rfl⟩, _ => ⟨⟨RcAt.none_int _ _, RcNeAt.none_int _ _⟩, EqAt.none_int _ _⟩
  | .non, .str, _, _, rfl, ⟨j, w, rfl⟩, _ => ⟨⟨RcAt.none_str _ _, RcNeAt.none_str _ _⟩, EqAt.none_str _ _⟩
  | .non, .lst, _, _, rfl, ⟨b, j, rfl, q'⟩, _ => ⟨⟨RcAt.none_list q' hu, RcNeAt.none_list q' hu⟩, EqAt.none_list q' hu⟩
  | .non, .tup, _, _, rfl, ⟨b, j, rfl, q'⟩, _ => ⟨⟨RcAt.none_tuple q' hu, RcNeAt.none_tuple q' hu⟩, EqAt.none_tuple q' hu⟩
  | .int, .non, _, _, ⟨i, t, rfl⟩, rfl, _ => ⟨⟨RcAt.int_none _ _, RcNeAt.int_none _ _⟩, EqAt.int_none _ _⟩
  | .int, .int, _, _, _, _, hne => absurd rfl hne
  | .int, .str, _, _, ⟨i, t, rfl⟩, ⟨j, w, rfl⟩, _ => ⟨⟨RcAt.int_str _ _ _ _, RcNeAt.int_str _ _ _ _⟩, EqAt.int_str _ _ _ _⟩
  | .int, .lst, _, _, ⟨i, t, rfl⟩, ⟨b, j, rfl, q'⟩, _ => ⟨⟨RcAt.int_list _ _ q' hu, RcNeAt.int_list _ _ q' hu⟩, EqAt.int_list _ _ q' hu⟩
  | .int, .tup, _, _, ⟨i, t, rfl⟩, ⟨b, j, rfl, q'⟩, _ => ⟨⟨RcAt.int_tuple _ _ q' hu, RcNeAt.int_tuple _ _ q' hu⟩, EqAt.int_tuple _ _ q' hu⟩
  | .str, .non, _, _, ⟨i, t, rfl⟩, rfl, _ => ⟨⟨RcAt.str_none _ _, RcNeAt.str_none _ _⟩, EqAt.str_none _ _⟩
  | .str, .int, _, _, ⟨i, t, rfl⟩, ⟨j, w, rfl⟩, _ => ⟨⟨RcAt.str_int _ _ _ _, RcNeAt.str_int _ _ _ _⟩, EqAt.str_int _ _ _ _⟩
  | .str, .str, _, _, _, _, hne => absurd rfl hne
  | .str, .lst, _, _, ⟨i, t, rfl⟩, ⟨b, j, rfl, q'⟩, _ => ⟨⟨RcAt.str_list _ _ q' hu, RcNeAt.str_list _ _ q' hu⟩, EqAt.str_list _ _ q' hu⟩
  | .str, .tup, _, _, ⟨i, t, rfl⟩, ⟨b, j, rfl, q'⟩, _ => ⟨⟨RcAt.str_tuple _ _ q' hu, RcNeAt.str_tuple _ _ q' hu⟩, EqAt.str_tuple _ _ q' hu⟩
  | .lst, .non, _, _, ⟨a, i, rfl, q⟩, rfl, _ => ⟨⟨RcAt.list_none q hu, RcNeAt.list_none q hu⟩, EqAt.list_none q hu⟩
  | .lst, .int, _, _, ⟨a, i, rfl, q⟩, ⟨j, w, rfl⟩, _ => ⟨⟨RcAt.list_int _ _ q hu, RcNeAt.list_int _ _ q hu⟩, EqAt.list_int _ _ q hu⟩
  | .lst, .str, _, _, ⟨a, i, rfl, q⟩, ⟨j, w, rfl⟩, _ => ⟨⟨RcAt.list_str _ _ q hu, RcNeAt.list_str _ _ q hu⟩, EqAt.list_str _ _ q hu⟩
  | .lst, .lst, _, _, _, _, hne => absurd rfl hne
  | .lst, .tup, _, _, ⟨a, i, rfl, q⟩, ⟨b, j, rfl, q'⟩, _ => ⟨⟨RcAt.list_tuple q q' hu, RcNeAt.list_tuple q q' hu⟩, EqAt.list_tuple q q' hu⟩
  | .tup, .non, _, _, ⟨a, i, rfl, q⟩, rfl, _ => ⟨⟨RcAt.tuple_none q hu, RcNeAt.tuple_none q hu⟩, EqAt.tuple_none q hu⟩
  | .tup, .int, _, _, ⟨a, i, rfl, q⟩, ⟨j, w, rfl⟩, _ => ⟨⟨RcAt.tuple_int _ _ q hu, RcNeAt.tuple_int _ _ q hu⟩, EqAt.tuple_int _ _ q hu⟩
  | .tup, .str, _, _, ⟨a, i, rfl, q⟩, ⟨j, w, rfl⟩, _ => ⟨⟨RcAt.tuple_str _ _ q hu, RcNeAt.tuple_str _ _ q hu⟩, EqAt.tuple_str _ _ q hu⟩
  | .tup, .lst, _, _, ⟨a, i, rfl, q⟩, ⟨b, j, rfl, q'⟩, _ => ⟨⟨RcAt.tuple_list q q' hu, RcNeAt.tuple_list q q' hu⟩, EqAt.tuple_list q q' hu⟩
  | .tup, .tup, _, _, _, _, hne => absurd rfl hne
/-- kinds that differ -/
class Kx (α β : Type) [TD α] [TD β] : Prop where
  ne : ∀ (x : α) (y : β), ∃ k k', kd (td x) = some k ∧ kd (td y) = some k' ∧ k ≠ k'
/-- == and != of a type's values, wherever they stand -/
class Pq (α : Type) [TD α] [DecidableEq α] extends Pe α where
  rc : ∀ {X : Cx} {pins : List (Addr × Obj)} {σ : L2.St} {H : Hp} {s : Shared} {A : Around} {ce ce' : Str → Addr} {ok ok' : Addr → Prop} {v w : V} {u u' : Value} {x y : α}, Inv X pins σ H s → A.units + n < cLine →
    Da X.K ce H ok v (td x) → Da X.K ce' H ok' w (td y) → RelV v u → RelV w u' → Rc2 A s u u' (decide (x = y))
instance pqR {α : Type} [TD α] [DecidableEq α] [Pr α] : Pq α where
  rc := fun I hu h h' r r' => FB.Pr.rc I hu h h' r r'
instance pqS : Pq Str where
  rc := fun I hu h h' r r' => by
    cases h; cases h'
    obtain ⟨t, rfl⟩ := r
    obtain ⟨t', rfl⟩ := r'
    exact ⟨RcAt.str_str _ _ _ _, RcNeAt.str_str _ _ _ _⟩
instance pqI : Pq Int where
  rc := fun I hu h h' r r' => by
    cases h; cases h'
    obtain ⟨t, rfl⟩ := r
    obtain ⟨t', rfl⟩ := r'
    exact ⟨RcAt.int_int _ _ _ _, RcNeAt.int_int _ _ _ _⟩
instance peN : Pe Unit where
  n := 0
  un := fun _ h h' => rfl
  eq := fun I hu h h' r r' => by
    cases h; cases h'
    obtain rfl := r
    obtain rfl := r'
    exact EqAt.same _
instance pqN : Pq Unit where
  rc := fun I hu h h' r r' => by
    cases h; cases h'
    obtain rfl := r
    obtain rfl := r'
    exact ⟨RcAt.none_none, RcNeAt.none_none⟩
instance {α β : Type} [TD α] [TD β] : TD (α ⊕ β) := ⟨fun q => match q with | .inl a => td a | .inr b => td b⟩
/-- unlike alternatives -/
instance pqSum {α β : Type} [TD α] [TD β] [DecidableEq α] [DecidableEq β] [Pq α] [Pq β] [Kx α β] : FB.Pr (α ⊕ β) :=
  have mix : ∀ {X : Cx} {pins : List (Addr × Obj)} {σ : L2.St} {H : Hp} {s : Shared} {A : Around} {ce ce' : Str → Addr} {ok ok' : Addr → Prop} {v w : V} {u u' : Value} {x : α} {y : β}, Inv X pins σ H s → A.units < cLine →
      Da X.K ce H ok v (td x) → Da X.K ce' H ok' w (td y) → RelV v u → RelV w u' → (Rc2 A s u u' false ∧ EqAt A s u u' false) ∧ (Rc2 A s u' u false ∧ EqAt A s u' u false) := fun {X pins σ H s A ce ce' ok ok' v w u u' x y} I hu h h' r r' => by
    obtain ⟨k, k', h1, h2, hn⟩ := Kx.ne x y
    exact ⟨kmix hu (kval I h h1 r) (kval I h' h2 r') hn, kmix hu (kval I h' h2 r') (kval I h h1 r) (Ne.symm hn)⟩
  have nosame : ∀ {K : PySem.W.Frag} {ce ce' : Str → Addr} {H : Hp} {ok ok' : Addr → Prop} {v : V} {x : α} {y : β}, (∀ a o, K.lookup a = some o → H a = none) → Da K ce H ok v (td x) → Da K ce' H ok' v (td y) → False := fun {K ce ce' H ok ok' v x y} hK h h' => by
    obtain ⟨k, k', h1, h2, hn⟩ := Kx.ne x y
    generalize td x = d at h h1
    generalize td y = d' at h' h2
    have out : ∀ {a : Addr} {vs ws : List V}, TupAt K H a vs → H a = some (.lst ws) → False := fun {a vs ws} ht hl => by
      rcases ht with q | ⟨_, q⟩
      · rw [hl] at q; cases q
      · rcases q with (q | ⟨_, q⟩) | ⟨o, _, _, q, _⟩
        · cases q
        · cases q
        · rw [hK _ o q] at hl; cases hl
    cases h with
    | sc v =>
      cases v <;> cases h1 <;> cases h' <;> cases h2 <;> exact hn rfl
    | tup e z l =>
      cases h1
      cases h' with
      | sc => cases h2
      | tup e' z' l' => cases h2; exact hn rfl
      | lst o' e' z' l' => exact out e e'
      | _ => cases h2
    | lst o e z l =>
      cases h1
      cases h' with
      | sc => cases h2
      | tup e' z' l' => exact out e' e
      | lst o' e' z' l' => cases h2; exact hn rfl
      | _ => cases h2
    | _ => cases h1
  { n := max (Pe.n α) (Pe.n β)
    un := fun {K ce ce' H ok ok' v x y} hK h h' => by
      match x, y, h, h' with
      | .inl x, .inl y, h, h' => exact congrArg Sum.inl (Pe.un hK h h')
      | .inr x, .inr y, h, h' => exact congrArg Sum.inr (Pe.un hK h h')
      | .inl x, .inr y, h, h' => exact (nosame hK h h').elim
      | .inr x, .inl y, h, h' => exact (nosame hK h' h).elim
    eq := fun {X pins σ H s A ce ce' ok ok' v w u u' x y} I hu h h' r r' => by
      match x, y, h, h' with
      | .inl x, .inl y, h, h' =>
        have q := Pe.eq (α := α) (A := A) I (by omega) h h' r r'
        have e : decide (Sum.inl x = (Sum.inl y : α ⊕ β)) = decide (x = y) := by by_cases z : x = y <;> simp [z]
        rw [e]; exact q
      | .inr x, .inr y, h, h' =>
        have q := Pe.eq (α := β) (A := A) I (by omega) h h' r r'
        have e : decide (Sum.inr x = (Sum.inr y : α ⊕ β)) = decide (x = y) := by by_cases z : x = y <;> simp [z]
        rw [e]; exact q
      | .inl x, .inr y, h, h' =>
        have e : decide (Sum.inl x = (Sum.inr y : α ⊕ β)) = false := by simp
        rw [e]; exact (mix I (by omega) h h' r r').1.2
      | .inr x, .inl y, h, h' =>
        have e : decide (Sum.inr x = (Sum.inl y : α ⊕ β)) = false := by simp
        rw [e]; exact (mix I (by omega) h' h r' r).2.2
    rc := fun {X pins σ H s A ce ce' ok ok' v w u u' x y} I hu h h' r r' => by
      match x, y, h, h' with
      | .inl x, .inl y, h, h' =>
        have q := Pq.rc (α := α) (A := A) I (by omega) h h' r r'
        have e : decide (Sum.inl x = (Sum.inl y : α ⊕ β)) = decide (x = y) := by by_cases z : x = y <;> simp [z]
        rw [e]; exact q
      | .inr x, .inr y, h, h' =>
        have q := Pq.rc (α := β) (A := A) I (by omega) h h' r r'
        have e : decide (Sum.inr x = (Sum.inr y : α ⊕ β)) = decide (x = y) := by by_cases z : x = y <;> simp [z]
        rw [e]; exact q
      | .inl x, .inr y, h, h' =>
        have e : decide (Sum.inl x = (Sum.inr y : α ⊕ β)) = false := by simp
        rw [e]; exact (mix I (by omega) h h' r r').1.1
      | .inr x, .inl y, h, h' =>
        have e : decide (Sum.inr x = (Sum.inl y : α ⊕ β)) = false := by simp
        rw [e]; exact (mix I (by omega) h' h r' r).2.1 }
/-! the pairs of kinds -/
class K1 (α : Type) [TD α] where
  k : Kd
  h : ∀ x : α, kd (td x) = some k
instance : K1 Unit := ⟨.non, fun _ => rfl⟩
instance : K1 Int := ⟨.int, fun _ => rfl⟩
instance : K1 Str := ⟨.str, fun _ => rfl⟩
instance {α : Type} [TD α] : K1 (List α) := ⟨.lst, fun _ => rfl⟩
instance {α : Type} [TD α] : K1 (Tp α) := ⟨.tup, fun _ => rfl⟩
instance {α β : Type} [TD α] [TD β] : K1 (α × β) := ⟨.tup, fun _ => rfl⟩
instance {α β γ : Type} [TD α] [TD β] [TD γ] : K1 (T3 α β γ) := ⟨.tup, fun _ => rfl⟩
theorem kx1 {α β : Type} [TD α] [TD β] [K1 α] [K1 β] (h : (K1.k α == K1.k β) = false) : Kx α β := ⟨fun x y => ⟨_, _, K1.h x, K1.h y, fun z => by rw [z, beq_self_eq_true] at h; cases h⟩⟩
theorem kx2 {α β γ : Type} [TD α] [TD β] [TD γ] (h : Kx α β) (h' : Kx α γ) : Kx α (β ⊕ γ) := ⟨fun x y => match y with | .inl y => h.ne x y | .inr y => h'.ne x y⟩
section
variable {c : Cfg} {H : Hp} {E : List Ent} {k : Nat} {v : V} {b : Bool} {Q : VK}
/-- t[lo:hi], less than the whole -/
theorem r_cutT {ds : List D} {lo hi : Option Int} {n : Nat} (s : S c H E) (hk : E[k]? = some (en v (.tup ds) b)) (hn : ds.length = n) (hw : ¬ (HT.sIx n 0 lo = 0 ∧ HT.sIx n n hi = n)) (q : ∀ p H', S c H' (FB.fz (.ref p) (.tup (cutL ds lo hi)) :: E) → Q (.ref p) H') : rSlT c.K v lo hi H Q := by
  obtain ⟨a, vs, rfl, ha, za, la⟩ := s.tupl hk
  have hl := la.length
  refine ⟨a, vs, rfl, ha, by rw [hl, hn]; exact hw, fun p hp => q p _ ?_⟩
  rw [cutV_eq]
  unfold cutL
  rw [hl]
  exact s.tup hp ((la.drop (sixI ds.length 0 lo)).take (sixI ds.length ds.length hi - sixI ds.length 0 lo)) (cut_len _ _ _ za)
theorem S.swap {A B : List Ent} (s : S c H (A ++ B)) : S c H (B ++ A) := s.re (by rw [keys_append, keys_append]; exact List.perm_append_comm) fun e he => s.it e (List.mem_append.mpr (List.mem_append.mp he).symm)
theorem S.pickE {E9 E E' : List Ent} (s : S c H (E9 ++ E)) (idx : List Nat) (he : idx.map (fun i => E[i]?) = E'.map some := by rfl) (hn : idx.Nodup := by decide) : S c H (E9 ++ E') := (s.swap.leave (s.swap.enter.pick idx he hn)).swap
theorem S.conv {d d' : D} (s : S c H (FB.fz v d :: E)) (e : d = d') : S c H (FB.fz v d' :: E) := e ▸ s
theorem toT3_td {α : Type} [TD α] {l : List α} {t : T3 α α α} (h : toT3 l = some t) : td (Tp.mk l) = td t := by
  unfold toT3 at h
  split at h
  · cases h; rfl
  · cases h
theorem toT2_td {α : Type} [TD α] {l : List α} {t : α × α} (h : toT2 l = some t) : td (Tp.mk l) = td t := by
  unfold toT2 at h
  split at h
  · cases h; rfl
  · cases h
/-- == and != of unlike values -/
theorem r_eqU {α : Type} [TD α] [DecidableEq α] {i j : Nat} {w : V} {b' : Bool} {x y : α} (s : S c H E) (h1 : E[i]? = some (en v (td x) b)) (h2 : E[j]? = some (en w (td y) b')) (q : Q (.bl (decide (x = y))) H) : rEqA α c.K v w H Q := r_eqA s h1 h2 q
end
section
variable {P : Program} {w : World} {K : PySem.W.Frag} {mg : Str → Option Value} {base : Heap} {k : Nat} {f : Addr} {fd : FuncData} {ps : List Str} {sp : Sp} {x qual : Str} {params : Arguments} {body : List Stmt} {scope : Scope} {dvs : List V} {kws : List (Str × V)}
/-- a def with defaults that may raise -/
theorem FunD.okG {N : List Str} (F : FunD K x qual params body scope dvs kws f fd) (Sc : FnScope N ps scope) (len : ∀ vs H Q E, sp vs H Q E → vs.length = ps.length)
    (hb : ∀ (cdv : Value) (A : Around) (o : List Env) (s : Shared) (H : Hp) (vs : List V) (Q : VK) (E : XK), RG k (A.deeper (PyProof.Rows.envOfC qual scope s.heap.objs.size f cdv)) → sp vs H Q E →
      ∃ t, PSs (cxOf (L2.CX P w) P w K mg base N qual scope f cdv A o s H E) body t ∧ t { nx := fun _ H' => Q .non H', rt := Q } (start N vs) H) : FnB P w K mg base (k + 1) f fd ps sp := by
  obtain ⟨oc, od, dV, kV, doc, pm, an, cdv, ct, osl, rfl, lk, hcd, _, _⟩ := F.ex
  exact fnB_of lk hcd Sc len fun A o s H vs Q E hr hs => hb cdv A o s H vs Q E hr hs
end
end FB

/-! o.f = e through a property's setter -/
namespace FB
open PySem PySem.Spec PyProof.Rows L2
structure PSet (K : PySem.W.Frag) (C : Addr) (f : Str) (p g : Addr) : Prop where
  sa : PySem.W.findIn K (.ref C) "__setattr__" = some (some (.builtin "object.__setattr__"))
  po : PySem.W.plainOver K C = true
  tk : PySem.W.takerIn K C f = some (some (.ref p))
  ty : PySem.W.typeIn K (.ref p) = some (.type "property")
  rec_ : ∃ a rest, PySem.W.recIn K p "property" = some (a :: .ref g :: rest)
def tPset (C : Addr) (sp : Sp) (W : WX) (to te : TE) : TS := fun D σ H => te σ H fun y H1 => to σ H1 fun x H2 => ∃ a dx fs, x = .ref a ∧ H2 a = some (.ins C dx fs) ∧ sp [.ref a, y] H2 (fun _ H3 => D.nx σ H3) (WE W σ)
section
variable {X : Cx} {k : Nat} {C p g : Addr} {f : Str} {sp : Sp} {W : WX} {o e : Expr} {p' pos : Pos} {to te : TE}
theorem ps_pset (ho : PE X o to) (he : PE X e te) (P : PSet X.K C f p g) (F : FnG X.prog X.w X.K X.mg X.base k g sp) (hr : RG (k + 2) X.A) (tk : Takes X W) (hs : swapsWith e (some (.Attribute o f p')) pos.line X.env = pure false := by rfl) :
    PS X (.Assign [.Attribute o f p'] e pos) (tPset C sp W to te) := by
  refine ⟨fun pins s σ H D I h => ?_⟩
  refine plainObj_wpAny_Assign_Attribute (thn (he.run pins s σ H _ I h) fun v s1 ⟨y, H1, I1, r1, q1⟩ => thn (ho.run pins s1 σ H1 _ I1 q1) fun u s2 ⟨x, H2, I2, r2, a, dx, fs, ex, ea, q⟩ => ?_) hs
  subst ex
  obtain rfl : u = Value.ref a := r2
  obtain ⟨mA, O, _, _, _, _⟩ := ins_get I2.hok ea
  obtain ⟨od, J, _⟩ := O.look
  obtain ⟨a0, rest, hrec⟩ := P.rec_
  obtain ⟨m, fr⟩ := I2.fr
  have I3 := I2.tok (s2.toks + 1)
  refine PySem.W.set_prop fr I2.ok.mod.kin J P.sa P.po P.tk P.ty hrec ?_
  refine codeAny_mono (F X.A.in1.in1 X.stack { s2 with toks := s2.toks + 1 } H2 [.ref a, v] [.ref a, y] _ _ hr.in1.in1 I3.env0.in1.in1 (.cons rfl (.cons r1 .nil)) q) fun r s' hq => ?_
  have z := ce_end tk I3 hq
  clear hq
  cases r with
  | error er => exact z
  | ok fl =>
    cases fl with
    | ret u =>
      obtain ⟨v', H', J', _, q'⟩ := z
      exact ⟨σ, H', J', q'⟩
    | _ => exact z.elim
theorem w_pset {C : Addr} {nx bk ct : L2.St → Hp → Prop} {rt : VK} {σ : L2.St} {H : Hp} (h : te σ H fun y H1 => to σ H1 fun x H2 => ∃ a dx fs, x = .ref a ∧ H2 a = some (.ins C dx fs) ∧ sp [.ref a, y] H2 (fun _ H3 => nx σ H3) (WE W σ)) : tPset C sp W to te ⟨nx, rt, bk, ct⟩ σ H := h
end
/-! ### def f(a, .., *v) -/
section
variable {P : Program} {w : World} {K : PySem.W.Frag} {mg : Str → Option Value} {base : Heap} {k : Nat} {f : Addr} {name qual : Str} {params : Arguments} {body : List Stmt} {scope : Scope} {dV kV doc pm cdv ct oc : Value} {an od : Option Addr}
  {osl : Array (Option Value)} {N ps : List Str} {sp : Sp}
/-- the promise by the values handed over: what is left over is a new tuple -/
def spStar (n : Nat) (sp : Sp) : Sp := fun vs H Q E => ∃ ws rest, vs = ws ++ rest ∧ ws.length = n ∧ rest.length ≤ sizeLine ∧ ∀ p, H p = Option.none → sp (ws ++ [V.ref p]) (upd H p (.tup rest)) Q E
theorem fnG_star {pv : Str} (lk : K.lookup f = some ⟨oc, od, .func (PySem.W.fnOf name qual params body scope dV kV doc pm an cdv ct), osl⟩) (hcd : PySem.W.codeIn K cdv qual = true) (S : FnScope N (ps ++ [pv]) scope)
    (hb : ∀ us rest : List Value, us.length = ps.length → bindArgs (PySem.W.fnOf name qual params body scope dV kV doc pm an cdv ct) ⟨us ++ rest, []⟩ = (newTuple rest >>= fun t => pure (ps.zip us ++ [(pv, t)])))
    (hbody : ∀ (A : Around) (outer : List Env) (s : Shared) (H : Hp) (vs : List V) (Q : VK) (E : XK), RG k (A.deeper (envOfC qual scope s.heap.objs.size f cdv)) → sp vs H Q E →
      ∃ t, PSs (cxOf (L2.CX P w) P w K mg base N qual scope f cdv A outer s H E) body t ∧ t { nx := fun _ H' => Q .non H', rt := Q } (start N vs) H) :
    FnG P w K mg base (k + 1) f (spStar ps.length sp) := by
  intro A outer s H us vs Q E hr e0 r hsp
  obtain ⟨ws, rest, ev, hl, hz, hq⟩ := hsp
  subst ev
  obtain ⟨u1, u2, eu, r1, r2⟩ := StX.vals_split r
  subst eu
  have hn : H s.heap.objs.size = Option.none := e0.hok.fresh (Nat.le_refl _)
  have hl1 : u1.length = ps.length := by rw [← r1.length]; exact hl
  have hl2 : u2.length ≤ sizeLine := by rw [← r2.length]; exact hz
  refine StX.run_bnd lk hcd S hr.r e0 (G := fun xs H2 => ∃ p, H p = Option.none ∧ xs = ws ++ [V.ref p] ∧ H2 = upd H p (.tup rest)) (fun A' Ex Q' h => ?_) fun s2 H2 xs ⟨p, hp, ex, eH⟩ _ => ?_
  · rw [hb u1 u2 hl1]
    refine wpAny_bind (wpAny_newTuple (wpAny_pure ?_) hl2)
    have new : ObjOk P w (upd H s.heap.objs.size (.tup rest)) (s.heap.push ({ cls := .type "tuple", data := .seq u2.toArray } : Obj)) s.heap.objs.size (.tup rest) := ⟨hz, u2, r2, ⟨_, Heap.get?_push_size _ rfl, rfl, _, rfl⟩⟩
    have un := StX.un_laid (fs := frs outer) (s := s) (o := ({ cls := .type "tuple", data := .seq u2.toArray } : Obj)) (u := .tup rest) hn
    have z := h _ _ (ws ++ [V.ref s.heap.objs.size]) (u1 ++ [Value.ref s.heap.objs.size]) (StX.env0_laid e0 new) un rfl (fun e s' => StX.cxUp outer s H _ _ E e s' un (fun b o q => Heap.get?_push_of_some _ q) rfl) (r1.append (.cons rfl .nil))
      (by rw [List.length_append, List.length_append, hl] <;> rfl) ⟨_, hn, rfl, rfl⟩
    rw [List.zip_append hl1.symm] at z
    exact z
  · subst ex eH
    exact hbody A outer s2 _ _ Q E (hr.deeper _) (hq p hp)
end
section
variable {P : Program} {w : World} {K : PySem.W.Frag} {mg : Str → Option Value} {base : Heap} {k : Nat} {f : Addr} {fd : FuncData} {ps : List Str} {sp : Sp}
theorem Fun.okS {x qual pv : Str} {st : Stmt} {N : List Str} (F : Fun K x qual st f fd) (Sc : FnScope N (ps ++ [pv]) (defScope st))
    (hb : ∀ us rest : List Value, us.length = ps.length → bindArgs fd ⟨us ++ rest, []⟩ = (newTuple rest >>= fun t => pure (ps.zip us ++ [(pv, t)])))
    (hbody : ∀ (cdv : Value) (A : Around) (o : List Env) (s : Shared) (H : Hp) (vs : List V) (Q : VK) (E : XK), RG k (A.deeper (envOfC qual (defScope st) s.heap.objs.size f cdv)) → sp vs H Q E →
      ∃ t, PSs (cxOf (L2.CX P w) P w K mg base N qual (defScope st) f cdv A o s H E) (defBody st) t ∧ t { nx := fun _ H' => Q .non H', rt := Q } (start N vs) H) : FnG P w K mg base (k + 1) f (spStar ps.length sp) := by
  obtain ⟨oc, od, kV, doc, pm, an, cdv, ct, osl, rfl, lk, hcd⟩ := F.ex
  exact fnG_star lk hcd Sc hb (hbody cdv)
theorem Fun.okS0 {x qual pv : Str} {st : Stmt} {N : List Str} (F : Fun K x qual st f fd) (Sc : FnScope N (ps ++ [pv]) (defScope st))
    (hb : ∀ us rest : List Value, us.length = ps.length → bindArgs fd ⟨us ++ rest, []⟩ = (newTuple rest >>= fun t => pure (ps.zip us ++ [(pv, t)])))
    (hbody : ∀ (cdv : Value) (A : Around) (o : List Env) (s : Shared) (H : Hp) (vs : List V) (Q : VK) (E : XK), RG k (A.deeper (envOfC qual (defScope st) s.heap.objs.size f cdv)) → sp vs H Q E →
      ∃ t, PSs (cxOf (L2.CX P w) P w K mg base N qual (defScope st) f cdv A o s H E).nox (defBody st) t ∧ t { nx := fun _ H' => Q .non H', rt := Q } (start N vs) H) : FnG P w K mg base (k + 1) f (spStar ps.length sp) :=
  Fun.okS F Sc hb fun cdv A o s H vs Q E hr hs => let ⟨t, h, q⟩ := hbody cdv A o s H vs Q E hr hs; ⟨t, h.nox, q⟩
end
section
variable {c : Cfg} {H : Hp} {E : List Ent} {Q : VK} {X : XK} {sp : Sp} {α : Type} [TD α]
/-- the left over arguments as a tuple -/
theorem r_star {ws rest : List V} {xs : List α} (s : S c H E) (hd : DaL c.K c.ce H (okA c E) rest (xs.map td)) (hz : xs.length ≤ 1000) (q : ∀ p H', S c H' (FB.fz (.ref p) (td (Tp.mk xs)) :: E) → sp (ws ++ [.ref p]) H' Q X) : spStar ws.length sp (ws ++ rest) H Q X := by
  have hl := hd.length
  rw [List.length_map] at hl
  have hz' : rest.length ≤ sizeLine := by rw [hl, sizeLine_eq]; omega
  exact ⟨ws, rest, rfl, rfl, hz', fun p hp => q p _ (s.tup hp hd hz')⟩
end
section
variable {c : Cfg} {H : Hp} {E : List Ent} {k : Nat} {v y : V} {b : Bool} {cn : Str} {fds : List (Str × D)} {sp : Sp} {Q : VK} {X : XK}
theorem r_pset (s : S c H E) (hk : E[k]? = some (en v (.obj cn fds) b)) (q : sp [v, y] H Q X) : ∃ a dx fs, v = .ref a ∧ H a = some (.ins (c.ce cn) dx fs) ∧ sp [.ref a, y] H Q X := by
  obtain ⟨a, dx, fs, rfl, h, _⟩ := s.insAt hk
  exact ⟨a, dx, fs, rfl, h, q⟩
end
end FB

/-! C.m(.., k = v), m a classmethod; cls(..) -/
namespace FB
open PySem PySem.Spec PyProof.Rows L2
section
variable {K : PySem.W.Frag} {x qual : Str} {params : Arguments} {body : List Stmt} {scope : Scope} {kws : List (Str × V)} {f : Addr} {fd : FuncData} {ps : List Str}
/-- keyword-only defaults alone: n positional values, keywords ks, the lacking ones ms -/
theorem kb0 (F : FunD K x qual params body scope [] kws f fd) (n : Nat) (ks : List Str) (ms : List (Str × V)) (g : {α : Type} → List α → List α → List α → List α) (hk : kws ≠ []) (hms : ∀ q ∈ ms, q ∈ kws)
    (hrel : ∀ {vs mz zs : List V} {us mv ws : List Value}, Vals vs us → Vals mz mv → Vals zs ws → Vals (g vs mz zs) (g us mv ws))
    (h : ∀ (D : Addr) (doc pm : Value) (an : Option Addr) (cdv ct : Value) (us mv ws : List Value), us.length = n → mv.length = ms.length → ws.length = ks.length →
      KwChain D ((ms.map (·.1)).zip mv) (bindArgs (PySem.W.fnOf x qual params body scope .none (.ref D) doc pm an cdv ct) ⟨us, ks.zip ws⟩) (ps.zip (g us mv ws))) :
    ∃ mv : List Value, KBn K fd ps n ks (fun us ws => g us mv ws) (fun vs zs => g vs (ms.map (·.2)) zs) := by
  obtain ⟨oc, od, dV, kV, doc, pm, an, cdv, ct, osl, rfl, lk, hcd, hD, hK⟩ := F.ex
  rcases hD with ⟨_, rfl⟩ | ⟨e, _⟩
  · rcases hK with e | ⟨D, rfl, hq⟩
    · exact absurd e hk
    · obtain ⟨mv, hl, rk, hks⟩ := kwd_vals (ms := ms) fun q hm => hq q (hms q hm)
      refine ⟨mv, ⟨fun s us ws X l1 l2 => ?_, fun r1 r2 => hrel r1 rk r2⟩⟩
      exact BindsTo.of_looks fun M => KwChain.looks X hks (h D doc pm an cdv ct us mv ws l1 hl l2)
  · exact absurd rfl e
end
/-- C.m(e, .., k = v, ..) -/
def tCMB (C : Addr) (n m : Nat) (sp : Sp) (gV : List V → List V → List V) (W : WX) (ta : TE) (t tk : TA) : TE := fun σ H Q => ta σ H fun x H1 => x = .ref C ∧ t σ H1 fun vs H2 => tk σ H2 fun zs H3 => vs.length = n ∧ zs.length = m ∧ sp (gV (.ref C :: vs) zs) H3 Q (WE W σ)
section
variable {X : Cx} {k n : Nat} {C p g : Addr} {mc : Value} {fd : FuncData} {ps ks : List Str} {sp : Sp} {W : WX} {o e : Expr} {es : List Expr} {kws : List Keyword} {m : Str} {pos apos : Pos} {ta : TE} {t tk : TA} {pl : Sem Bool} {gf : List Value → List Value → List Value} {gV : List V → List V → List V}
theorem run_cmB {pins : List (Addr × Obj)} {σ : L2.St} {H : Hp} {s : Shared} {q : Addr} {Q : VK} {us ws : List Value} {vs zs : List V} (F : FnB X.prog X.w X.K X.mg X.base k g fd ps sp) (hr : RG k X.A) (hb : KBn X.K fd ps (n + 1) ks gf gV) (tk : Takes X W)
    (I : Inv X ((q, PySem.W.methodObj (.ref g) (.ref C)) :: pins) σ H s) (r : Vals vs us) (rz : Vals zs ws) (l1 : vs.length = n) (l2 : zs.length = ks.length) (h : sp (gV (.ref C :: vs) zs) H Q (WE W σ)) :
    wpAny (model X.prog X.w) X.A (call (.ref q) us (ks.zip ws)) (EP X pins σ Q) X.xe s := by
  have r1 : Vals (V.ref C :: vs) (Value.ref C :: us) := .cons rfl r
  have r2 := hb.rel r1 rz
  have e1 : (Value.ref C :: us).length = n + 1 := r1.length.symm.trans (congrArg Nat.succ l1)
  have e2 : ws.length = ks.length := rz.length.symm.trans l2
  refine wpAny_call (PySem.W.method_call (ClX.pin_at I) (codeAny_mono (F.run X.A X.stack s H ⟨Value.ref C :: us, ks.zip ws⟩ (gf (Value.ref C :: us) ws) _ _ _ hr I.env0 (hb.to s (Value.ref C :: us) ws I.kIn e1 e2) r2 h) fun r s' hq => ?_))
  have q := ce_end tk (ClX.unpin I) hq
  clear hq
  rcases r with er | (u | _ | _ | _) <;> first | exact q | exact q.elim
theorem pe_cmB (he : PE X o ta) (r : ClX.CRead X.K C mc) (c : ClX.CMet X.K C mc m p g) (F : FnB X.prog X.w X.K X.mg X.base k g fd ps sp) (hr : RG k X.A) (hb : KBn X.K fd ps (n + 1) ks gf gV) (tk9 : Takes X W) (ha : PA X (e :: es) t) (hkw : PK X kws tk)
    (hall : (backToKw pos (keywordEach kws X.env)).all (·.1.isSome) = true := by rfl) (hks : (backToKw pos (keywordEach kws X.env)).filterMap (·.1) = ks := by rfl)
    (hst : starEach (e :: es) X.env = (false, eval e X.env) :: starEach es X.env := by rfl)
    (hpl : ((backTo pos (starEach (e :: es) X.env)).any (·.1) || (backToKw pos (keywordEach kws X.env)).any (·.1.isNone)) = false := by rfl)
    (ht : eval (.Call (.Attribute o m apos) (e :: es) kws pos) X.env = (do
      let ov ← eval o X.env
      standAt apos.atName
      let (f, first) ← holding [ov] (getMethod ov m pl)
      callWith pos f first (backTo pos (starEach (e :: es) X.env)) (backToKw pos (keywordEach kws X.env))) := by rfl) :
    PE X (.Call (.Attribute o m apos) (e :: es) kws pos) (tCMB C n ks.length sp gV W ta t tk) := by
  refine ⟨fun pins s σ H Q I h => ?_⟩
  refine PySem.W.methodCall_KW (pl := pl) (thn (he.run pins s σ H _ I h) fun u s1 ⟨x, H1, I1, rx, ex, q⟩ => ?_) ht
  subst ex
  obtain rfl : u = Value.ref C := rx
  refine ClX.getmethcm_ok I1 r c fun s2 I2 => ?_
  refine PySem.W.callWith_of (P := PySem.W.MethP X.K s1.heap.objs.size g (.ref C)) hpl (PySem.W.keeps_M c.fi) (evalArgs_kw2 hall (thn (ha.run pos _ s2 σ H1 _ I2 q) fun us s3 ⟨vs, H2, I3, rv, q2⟩ =>
    thn (hkw.run pos _ s3 σ H2 _ I3 q2) fun ws s4 ⟨zs, H3, I4, rz, l1, l2, q3⟩ => ⟨⟨ClX.pin_at I4, I4.kIn⟩, ?_⟩) hst)
  rw [hks]
  exact run_cmB F hr hb tk9 I4 rv rz l1 l2 q3
end
section
variable {X : Cx} {k i : Nat} {C f : Addr} {sp : Sp} {W : WX} {x : Str} {p pos : Pos} {e : Expr} {es : List Expr} {t : TA}
theorem w_cm {n m : Nat} {gV : List V → List V → List V} {ta : TE} {t tk : TA} {σ : L2.St} {H : Hp} {Q : VK} (h : ta σ H fun x H1 => x = .ref C ∧ t σ H1 fun vs H2 => tk σ H2 fun zs H3 => vs.length = n ∧ zs.length = m ∧ sp (gV (.ref C :: vs) zs) H3 Q (WE W σ)) : tCMB C n m sp gV W ta t tk σ H Q := h
/-- cls(..): the i-th slot holds the class -/
def tMakeL (i : Nat) (C : Addr) (sp : Sp) (W : WX) (t : TA) : TE := fun σ H Q => σ[i]? = some (some (.ref C)) ∧ tMakeG C sp W t σ H Q
theorem pe_makeL (M : Mk X.K C f) (F : FnG X.prog X.w X.K X.mg X.base k f sp) (hr : RG (k + 1) X.A) (tk : Takes X W) (hN : X.N[i]? = some x) (hv : Vis X.env.scope x)
    (ha : PA X (e :: es) t) (hdb : (x == ("__debug__" : Str)) = false := by decide) (hcd : (x == ("__classdict__" : Str)) = false := by decide)
    (he : starEach (e :: es) X.env = (false, eval e X.env) :: starEach es X.env := by rfl) (hpl : (backTo pos (starEach es X.env)).any (·.1) = false := by rfl) :
    PE X (.Call (.Name x p) (e :: es) [] pos) (tMakeL i C sp W t) := by
  refine ⟨fun pins s σ H Q I h => ?_⟩
  obtain ⟨hs, ht⟩ := h
  refine wpAny_Call_Name_kw (thn ((pe_var (pos := p) hN hv hdb hcd).run pins s σ H (fun v H1 => v = .ref C ∧ H1 = H) I ⟨.ref C, hs, rfl, rfl⟩) fun u s1 ⟨v, H1, I1, r1, q1⟩ => ?_)
  obtain ⟨rfl, rfl⟩ := q1
  cases r1
  exact PySem.W.callWith_K (h₀ := X.base) I1.ok.mod.kin M.kp (thn (ha.run pos pins s1 σ _ _ I1 ht) fun us s2 ⟨vs, H2, I2, r, q⟩ => ⟨I2.kIn, run_makeG M F hr tk I2 r q⟩) he hpl
end
/-! ### isinstance(x, C), x a value of another kind -/
theorem kx_sub {K : PySem.W.Frag} {T : String} {C : Addr} {b : Bool} (h2 : PySem.W.isClsIn K C = true) (h3 : PySem.W.typeIn K (.ref C) = some (.type "type")) (h4 : PySem.W.subIn K (.type T) (.ref C) = some b) : PySem.W.kitOne K (.type T) (.ref C) = some b := by
  have e2 : ((PySem.W.clsIn K C).isSome && PySem.W.typeIn K (.ref C) == some (.type "type")) = true := by
    have h2' : (PySem.W.clsIn K C).isSome = true := h2
    rw [h2', h3]; rfl
  show (if (Value.type T == Value.ref C) = true then some true else if ((PySem.W.clsIn K C).isSome && PySem.W.typeIn K (.ref C) == some (.type "type")) = true then PySem.W.subIn K (.type T) (.ref C) else none) = some b
  rw [if_neg (by intro z; cases z), if_pos e2]
  exact h4
theorem ky_sub {K : PySem.W.Frag} {T : String} {C : Addr} {b : Bool} (hm : PySem.W.kitMeta T = true) (h : PySem.W.subIn K (.ref C) (.type T) = some b) : PySem.W.kitOne K (.ref C) (.type T) = some b := by
  show (if (Value.ref C == Value.type T) = true then some true else if PySem.W.kitMeta T = true then PySem.W.subIn K (.ref C) (.type T) else none) = some b
  rw [if_neg (by intro z; cases z), if_pos hm]
  exact h
section
variable {c : Cfg} {H : Hp} {E : List Ent} {k : Nat} {v : V} {b b1 : Bool} {C : Addr} {Q : VK} {T : String} {ds : List D}
theorem r_isiOT {as : List Addr} {cn : Str} {fds : List (Str × D)} (s : S c H E) (hk : E[k]? = some ⟨v, .obj cn fds, as⟩) (I : IsC c.K (c.ce cn)) (kx : PySem.W.kitOne c.K (.ref (c.ce cn)) (.type T) = some b1) (q : Q (.bl b1) H) : rIsi c.K [v, .ty T] H Q := by
  have d := s.dTe hk
  cases d with
  | obj _ h z e l => exact ⟨_, _, _, _, b1, rfl, .ty T, .base (.ins h I.cl I.ha I.hn I.ht I.hm), kx, q⟩
theorem r_isiC (ht : TyOf c.K H v (.type T)) (kx : PySem.W.kitOne c.K (.type T) (.ref C) = some b1) (q : Q (.bl b1) H) : rIsi c.K [v, .ref C] H Q := ⟨_, _, _, _, b1, rfl, .own _, .base ht, kx, q⟩
theorem r_isiCT (s : S c H E) (hk : E[k]? = some (en v (.tup ds) b)) (kx : PySem.W.kitOne c.K (.type "tuple") (.ref C) = some b1) (q : Q (.bl b1) H) : rIsi c.K [v, .ref C] H Q := by
  obtain ⟨a, vs, rfl, h⟩ := s.tupA hk
  rcases h with h | ⟨_, h⟩
  · exact r_isiC (.tup h) kx q
  · rcases h with (h | ⟨_, h⟩) | ⟨o, its, n, h1, h2, _⟩
    · cases h
    · cases h
    · exact ⟨_, _, .type "tuple", _, b1, rfl, .own _, .kTuple h1 h2, kx, q⟩
theorem r_isiCL (s : S c H E) (hk : E[k]? = some (en v (.lst ds) b)) (kx : PySem.W.kitOne c.K (.type "list") (.ref C) = some b1) (q : Q (.bl b1) H) : rIsi c.K [v, .ref C] H Q := by
  obtain ⟨a, vs, rfl, h, z, l⟩ := s.lst hk
  exact r_isiC (.lst h) kx q
end
end FB

/-! xs.reverse(); dicts compared -/
namespace FB
open PySem PySem.Spec PyProof.Rows L2
section
variable {c : Cfg} {H : Hp} {E : List Ent} {k : Nat} {Q : VK}
theorem DaL.rev {K : PySem.W.Frag} {ce : Str → Addr} {ok : Addr → Prop} : ∀ {vs : List V} {ds : List D}, DaL K ce H ok vs ds → DaL K ce H ok vs.reverse ds.reverse
  | _, _, .nil => .nil
  | v :: vs, d :: ds, .cons h t => by
    rw [List.reverse_cons, List.reverse_cons]
    exact (DaL.rev t).append (.cons h .nil)
theorem r_revL {α : Type} [TD α] {xs : List α} {a : Addr} (s : S c H E) (hk : E[k]? = some (ow a (td xs))) (q : ∀ H', S c H' (E.set k (ow a (td xs.reverse))) → Q .non H') : rReverse (.ref a) [] H Q := by
  have o := s.own hk
  cases o with
  | @lst vs _ ha hz l =>
    have l2 := l.rev.mono (s.keepOwn (o := .lst vs.reverse) hk) (ok' := okA c E) fun a o _ => o
    rw [← List.map_reverse] at l2
    exact ⟨a, vs, rfl, rfl, ha, q _ (s.put (d' := td xs.reverse) hk (Ow.lst (vs := vs.reverse) upd_same (by rw [List.length_reverse]; exact hz) l2))⟩
end
section
variable {κ ν : Type} [DecidableEq κ] [DecidableEq ν] [Kk κ] [TD ν] [Pe ν]
theorem hits_dk {X : Cx} {pins : List (Addr × Obj)} {σ : L2.St} {H : Hp} {s : Shared} {A : Around} {ce ce' : Str → Addr} {ok ok' : Addr → Prop} (I : Inv X pins σ H s) (hu : A.units + Pe.n ν < cLine) {m : List (κ × ν)} {kb : List (Key × V)} {vb : List (Key × Value)} (rb : KV kb vb)
    (eb : kb.map Prod.fst = (m.map fun p => (Kk.key p.1, td p.2)).map Prod.fst) (db : DaL X.K ce' H ok' (kb.map Prod.snd) ((m.map fun p => (Kk.key p.1, td p.2)).map Prod.snd)) :
    ∀ (l : List (κ × ν)) {ka : List (Key × V)} {va : List (Key × Value)}, KV ka va → ka.map Prod.fst = (l.map fun p => (Kk.key p.1, td p.2)).map Prod.fst → DaL X.K ce H ok (ka.map Prod.snd) ((l.map fun p => (Kk.key p.1, td p.2)).map Prod.snd) →
      PySem.W.KeqHits A s vb va (l.all fun p => decide (getE m p.1 = some p.2))
  | [], ka, va, ra, ea, da => by
    cases ra with
    | nil => exact .nil
    | cons _ _ => cases ea
  | p :: l, ka, va, ra, ea, da => by
    cases ra with
    | nil => cases ea
    | @cons a b as bs h t =>
      simp only [List.map_cons, List.cons.injEq] at ea
      obtain ⟨kb1, vb1⟩ := b
      obtain ⟨h1, h2⟩ := h
      cases da with
      | cons d1 d2 =>
        have ek : Kk.key p.1 = kb1 := ea.1.symm.trans h1
        have rr := rb.val (Kk.key p.1)
        rw [List.all_cons]
        rcases getE_map Kk.inj p.1 m eb db with ⟨g1, g2⟩ | ⟨x, w, g1, g2, g3⟩
        · rw [g2] at rr
          have hn : valueAt vb kb1 = none := by
            rw [← ek]
            cases e : valueAt vb (Kk.key p.1) with
            | none => rfl
            | some u => rw [e] at rr; exact rr.elim
          rw [g1, show decide ((none : Option ν) = some p.2) = false from rfl, Bool.false_and]
          exact .miss hn
        · rw [g2] at rr
          obtain ⟨u, hu2, ru⟩ := rr.some_of
          rw [ek] at hu2
          have e := Pe.eq (A := A) I hu d1 g3 h2 ru
          have e1 : decide (getE m p.1 = some p.2) = decide (p.2 = x) := by
            rw [g1]
            exact decide_eq_decide.mpr ⟨fun z => (Option.some.inj z).symm, fun z => by rw [z]⟩
          rw [e1]
          exact .hit hu2 e (hits_dk I hu rb eb db l t ea.2 d2)
def rDkQ (κ ν : Type) [DecidableEq κ] [DecidableEq ν] [Kk κ] [TD ν] (K : PySem.W.Frag) (b : Bool) : R2 := fun v w H Q => ∃ (ce : Str → Addr) (x y : Dk κ ν), Da K ce H (fun _ => True) v (td x) ∧ Da K ce H (fun _ => True) w (td y) ∧ Q (.bl (dkE x.l y.l == b)) H
section
variable {X : Cx} {k : Nat}
theorem dk_both {pins : List (Addr × Obj)} {σ : L2.St} {H : Hp} {s : Shared} {v w : V} {u u' : Value} {ce : Str → Addr} {x y : Dk κ ν} (I : Inv X pins σ H s) (hr : RG k X.A) (hn : Pe.n ν ≤ 60) (h1 : Da X.K ce H (fun _ => True) v (td x)) (h2 : Da X.K ce H (fun _ => True) w (td y)) (r : RelV v u) (r' : RelV w u') :
    ∃ (a b : Addr) (va vb : List (Key × Value)), u = .ref a ∧ u' = .ref b ∧ (a == sysModules) = false ∧ (b == sysModules) = false ∧ s.heap.DictOf (mixKind X.prog X.w) a va ∧ s.heap.DictOf (mixKind X.prog X.w) b vb ∧
      PySem.W.KeqHits X.A.in1 s vb va (x.l.all fun p => decide (getE y.l p.1 = some p.2)) ∧ va.length = x.l.length ∧ vb.length = y.l.length := by
  have hu := hr.r.un
  obtain ⟨x⟩ := x
  obtain ⟨y⟩ := y
  have g1 : Da X.K ce H (fun _ => True) v (.dk (x.map fun p => (Kk.key p.1, td p.2))) := h1
  have g2 : Da X.K ce H (fun _ => True) w (.dk (y.map fun p => (Kk.key p.1, td p.2))) := h2
  cases g1 with
  | @dk a ka _ _ ra za ea da =>
    cases g2 with
    | @dk b kb _ _ rb zb eb db =>
      cases r; cases r'
      obtain ⟨_, ya, va, rva, dva⟩ := dk_rd I.hok ra
      obtain ⟨_, yb, vb, rvb, dvb⟩ := dk_rd I.hok rb
      have la := congrArg List.length ea
      have lb := congrArg List.length eb
      simp only [List.length_map] at la lb
      exact ⟨a, b, va, vb, rfl, rfl, ya, yb, dva, dvb, hits_dk (A := X.A.in1) I (by show X.A.units + 1 + Pe.n ν < cLine; omega) rvb eb db x rva ea da, rva.length.symm.trans la, rvb.length.symm.trans lb⟩
theorem op_eqD (hr : RG k X.A) (hn : Pe.n ν ≤ 60) : OpR X (compareOp .Eq) (rDkQ κ ν X.K true) := by
  intro pins s σ H v w u u' Q I r r' h
  obtain ⟨ce, x, y, h1, h2, q⟩ := h
  obtain ⟨a, b, va, vb, rfl, rfl, ya, yb, da, db, hh, la, lb⟩ := dk_both I hr hn h1 h2 r r'
  have hu := hr.r.un
  refine PySem.W.keq_eq ya yb da db (by omega) (fun _ => hh) ⟨.bl (dkE x.l y.l == true), H, I, ?_, q⟩
  show Value.bool _ = Value.bool _
  rw [la, lb]
  unfold dkE
  simp
theorem op_neD (hr : RG k X.A) (hn : Pe.n ν ≤ 60) : OpR X (compareOp .NotEq) (rDkQ κ ν X.K false) := by
  intro pins s σ H v w u u' Q I r r' h
  obtain ⟨ce, x, y, h1, h2, q⟩ := h
  obtain ⟨a, b, va, vb, rfl, rfl, ya, yb, da, db, hh, la, lb⟩ := dk_both I hr hn h1 h2 r r'
  have hu := hr.r.un
  refine PySem.W.keq_ne ya yb da db (by omega) (fun _ => hh) ⟨.bl (dkE x.l y.l == false), H, I, ?_, q⟩
  show Value.bool _ = Value.bool _
  rw [la, lb]
  unfold dkE
  simp
end
section
variable {c : Cfg} {H : Hp} {E : List Ent} {i j : Nat} {v w : V} {as bs : List Addr} {Q : VK} {x y : Dk κ ν}
theorem r_eqD (s : S c H E) (h1 : E[i]? = some ⟨v, td x, as⟩) (h2 : E[j]? = some ⟨w, td y, bs⟩) (q : Q (.bl (dkE x.l y.l)) H) : rDkQ κ ν c.K true v w H Q := ⟨c.ce, x, y, s.dTe h1, s.dTe h2, by rw [show (dkE x.l y.l == true) = dkE x.l y.l by cases dkE x.l y.l <;> rfl]; exact q⟩
theorem r_neD (s : S c H E) (h1 : E[i]? = some ⟨v, td x, as⟩) (h2 : E[j]? = some ⟨w, td y, bs⟩) (q : Q (.bl (!dkE x.l y.l)) H) : rDkQ κ ν c.K false v w H Q := ⟨c.ce, x, y, s.dTe h1, s.dTe h2, by rw [show (dkE x.l y.l == false) = !dkE x.l y.l by cases dkE x.l y.l <;> rfl]; exact q⟩
end
end
end FB

/-! an own __iter__ that says iter(self.f), f a list: for x in o, list(o) -/
namespace FB
open PySem PySem.Spec PyProof.Rows L2
/-- what __iter__ promises, run at s -/
def ItFn (P : Program) (w : World) (K : PySem.W.Frag) (mg : Str → Option Value) (base : Heap) (k : Nat) (fi C : Addr) (f : Str) : Prop :=
  ∀ (A : Around) (outer : List Env) (s : Shared) (H : Hp) (a dx l : Addr) (fs : List (Str × V)) (zs : List V), RG k A → Env0 P w K mg base A outer s H → H a = some (.ins C dx fs) → fs.lookup f = some (.ref l) → H l = some (.lst zs) →
    codeAny (model P w) A (.call (.ref fi) ⟨[.ref a], []⟩) (CR (L2.CX P w) outer P w H s (fun v H' => ∃ it, v = .ref it ∧ s.heap.objs.size ≤ it ∧ H it = none ∧ H' = upd H it (ItO l it 0)) fun _ _ _ => False) s
theorem ItFn.mono {P : Program} {w : World} {K : PySem.W.Frag} {mg : Str → Option Value} {base : Heap} {j k : Nat} {fi C : Addr} {f : Str} (F : ItFn P w K mg base j fi C f) (h : j ≤ k) : ItFn P w K mg base k fi C f :=
  fun A o s H a dx l fs zs hr => F A o s H a dx l fs zs (hr.mono h)
section
variable {P : Program} {w : World} {K : PySem.W.Frag} {mg : Str → Option Value} {base : Heap} {k : Nat} {fi C : Addr} {fd : FuncData} {f : Str}
theorem itFn_of {name qual : Str} {params : Arguments} {body : List Stmt} {scope : Scope} {dV kV doc pm cdv ct oc : Value} {an od : Option Addr} {osl : Array (Option Value)} {N : List Str} {x : Str}
    (lk : K.lookup fi = some ⟨oc, od, .func (PySem.W.fnOf name qual params body scope dV kV doc pm an cdv ct), osl⟩) (hcd : PySem.W.codeIn K cdv qual = true) (Sc : FnScope N [x] scope)
    (bt : Binds K (PySem.W.fnOf name qual params body scope dV kV doc pm an cdv ct) [x] [])
    (hb : ∀ (A : Around) (o : List Env) (s : Shared) (H : Hp) (a dx l : Addr) (fs : List (Str × V)) (zs : List V) (Q : VK) (E : XK), RG k (A.deeper (envOfC qual scope s.heap.objs.size fi cdv)) → H a = some (.ins C dx fs) → fs.lookup f = some (.ref l) → H l = some (.lst zs) →
      (∀ it, H it = none → s.heap.objs.size ≤ it → Q (.ref it) (upd H it (ItO l it 0))) →
      ∃ t, PSs (cxOf (L2.CX P w) P w K mg base N qual scope fi cdv A o s H E).nox body t ∧ t { nx := fun _ H' => Q .non H', rt := Q } (start N [.ref a]) H) : ItFn P w K mg base (k + 1) fi C f := by
  intro A o s H a dx l fs zs hr e0 ha hf hl
  have kin : K.In s.heap := e0.mod.kin.keeps fun b o' e => (e0.bs b o' e).1
  have nol : s.heap.NoLimit := e0.mod.nolimit.keeps fun b o' e => (e0.bs b o' e).1
  have rv : Vals [V.ref a] [Value.ref a] := .cons rfl .nil
  refine codeAny_call_function hr.r.depth (kin _ _ lk) rfl Sc.co Sc.gen rfl (PySem.W.codeRec_of kin hcd) (bt s [.ref a] kin rfl _ _ _ _ (wpAny_newFunctionEnv_cells Sc.kind (fun y hy => ?_) fun env he s1 x1 => ?_))
  · obtain ⟨y1, y2⟩ := y
    exact (Sc.par y1 (List.of_mem_zip hy).1).elim .inl fun q => .inr ⟨q, PySem.W.cellsFrom_some _ _ _ (.inl q)⟩
  subst he
  refine ⟨nol.keeps x1.toInCall.keep, codeAny_func ?_⟩
  obtain ⟨t, ht, q0⟩ := hb A o s H a dx l fs zs (fun v H' => ∃ it, v = .ref it ∧ s.heap.objs.size ≤ it ∧ H it = none ∧ H' = upd H it (ItO l it 0)) (fun _ _ _ => False) (hr.deeper _) ha hf hl fun it hn hz => ⟨it, rfl, hz, hn, rfl⟩
  refine wpAny_mono (ht.nox.run [] s1 (start N [.ref a]) H _ (inv_start Sc hr.r.hd e0 rfl rv x1) q0) (fun fl s2 h2 => ?_) fun e s2 h2 => h2
  match fl, h2 with
  | .ret u, ⟨v, σ', H', J, rv2, q⟩ => exact ⟨v, H', J.os, J.bare, J.base, J.hok, rv2, q⟩
  | .next, ⟨σ', H', J, q⟩ => exact ⟨V.non, H', J.os, J.bare, J.base, J.hok, rfl, q⟩
  | .brk, ⟨_, _, _, q⟩ => exact q.elim
  | .cont, ⟨_, _, _, q⟩ => exact q.elim
theorem Fun.okIt {x qual xp : Str} {st : Stmt} {N : List Str} (F : Fun K x qual st fi fd) (Sc : FnScope N [xp] (defScope st)) (bt : Binds K fd [xp] [])
    (hb : ∀ (cdv : Value) (A : Around) (o : List Env) (s : Shared) (H : Hp) (a dx l : Addr) (fs : List (Str × V)) (zs : List V) (Q : VK) (E : XK), RG k (A.deeper (envOfC qual (defScope st) s.heap.objs.size fi cdv)) → H a = some (.ins C dx fs) → fs.lookup f = some (.ref l) → H l = some (.lst zs) →
      (∀ it, H it = none → s.heap.objs.size ≤ it → Q (.ref it) (upd H it (ItO l it 0))) →
      ∃ t, PSs (cxOf (L2.CX P w) P w K mg base N qual (defScope st) fi cdv A o s H E).nox (defBody st) t ∧ t { nx := fun _ H' => Q .non H', rt := Q } (start N [.ref a]) H) : ItFn P w K mg base (k + 1) fi C f := by
  obtain ⟨oc, od, kV, doc, pm, an, cdv, ct, osl, rfl, lk, hcd⟩ := F.ex
  exact itFn_of lk hcd Sc bt fun A o s H a dx l fs zs Q E => hb cdv A o s H a dx l fs zs Q E
end
/-- what the class must have -/
structure ItS (K : PySem.W.Frag) (C fi : Addr) : Prop where
  it : PySem.W.findIn K (.ref C) "__iter__" = some (some (.ref fi))
  fn : PySem.W.isFn K (.ref fi) = true
  nolen : PySem.W.findIn K (.ref C) "__len__" = some none
  nohint : PySem.W.findIn K (.ref C) "__length_hint__" = some none
section
variable {X : Cx} {pins : List (Addr × Obj)} {σ : L2.St} {H : Hp} {s : Shared} {C fi a dx l : Addr} {fs : List (Str × V)} {zs : List V} {k : Nat} {f : Str} {A1 : Around}
theorem iter_own {Q : Value → Shared → Prop} (hc : ItS X.K C fi) (F : ItFn X.prog X.w X.K X.mg X.base k fi C f) (hr : RG k A1) (e0 : Env0 X.prog X.w X.K X.mg X.base A1 X.stack s H) (I : Inv X pins σ H s)
    (ha : H a = some (.ins C dx fs)) (hf : fs.lookup f = some (.ref l)) (hl : H l = some (.lst zs)) (h : ∀ it s', Inv X pins σ H s' → s'.heap.IsListIter it l 0 → FpOk X pins H it → Q (.ref it) s') :
    wpAny (model X.prog X.w) A1 (pyIter (.ref a)) Q X.xe s := by
  obtain ⟨mA, O, _, _, _, _⟩ := ins_get I.hok ha
  obtain ⟨od, J, _⟩ := O.look
  obtain ⟨m0, hF⟩ := I.fr
  refine PySem.W.owit_iter hF I.ok.mod.kin J hc.it hc.fn (wpAny_call (codeAny_mono (F A1 X.stack s H a dx l fs zs hr e0 ha hf hl) fun r s' hq => ?_))
  cases r with
  | error er =>
    obtain ⟨_, _, _, _, _, _, _, _, _, _, _, _, z⟩ := hq
    exact z.elim
  | ok fl =>
    cases fl with
    | ret u =>
      obtain ⟨v, H', os, bare, un, hok, rv, it, rfl, hz, hn, rfl⟩ := hq
      cases (show u = Value.ref it from rv)
      have I2 : Inv X pins σ (upd H it (ItO l it 0)) s' := I.call' (ch := []) os un hok bare fun b z => absurd z (by simp)
      have hx : (upd H it (ItO l it 0)) it = some (ItO l it 0) := upd_same
      have eo := itO_get I2 hx
      have st : s'.heap.IsListIter it l 0 := ⟨_, eo, rfl, rfl⟩
      have hx' := hx
      unfold ItO at hx'
      have I3 := ItX.inv_drop I2 hx'
      have fp := ItX.inv_fp I2 hx (Nat.le_trans I.sz hz)
      rw [ItX.dropH_upd hn] at I3 fp
      show PySem.W.OwitIt _ _ _ _ (.ref it) s'
      unfold PySem.W.OwitIt
      exact wpAny_specialOf (name := Str.ofString "__next__") ⟨_, eo, rfl⟩ slot_listiter_next.lookup (h it s' I3 st fp)
    | next => exact hq.elim
    | brk => exact hq.elim
    | cont => exact hq.elim
end
section
variable {X : Cx} {k : Nat} {C fi : Addr} {f : Str} {e tg : Expr} {te : TE}
/-- o, an instance whose f is a list: its items -/
def iOwn (C : Addr) (f : Str) (K : PySem.W.Frag) (te : TE) : TI := fun σ H R => te σ H fun x H1 => ∃ a dx fs l zs, x = .ref a ∧ H1 a = some (.ins C dx fs) ∧ fs.lookup f = some (.ref l) ∧ H1 l = some (.lst zs) ∧ R (Itl K l) H1
theorem pi_own (he : PE X e te) (hc : ItS X.K C fi) (F : ItFn X.prog X.w X.K X.mg X.base k fi C f) (hr : RG k X.A) : PI X tg e (iOwn C f X.K te) := by
  refine ⟨fun pins s σ H R I h => thn (he.run pins s σ H _ I h) fun v s1 ⟨x, H1, I1, r1, a, dx, fs, l, zs, ex, ha, hf, hl, q⟩ => ?_⟩
  subst ex
  cases (show v = Value.ref a from r1)
  refine iter_own hc F hr I1.env0 I1 ha hf hl fun it s2 I2 st fp => ?_
  exact ⟨it, [it], _, _, H1, rfl, I2, turn_list l it, st, fun b hb => by rw [show b = it by simpa using hb]; exact fp, q⟩
end
/-! ### list(o) -/
section
variable {X : Cx} {pins : List (Addr × Obj)} {σ : L2.St} {H : Hp} {s : Shared} {C fi a dx l q : Addr} {fs : List (Str × V)} {zs : List V} {k : Nat} {f : Str} {A1 : Around} {Rz : Result → Shared → Prop}
theorem ext_loop (hh : A1.in1.handled = none) (hq : H q = none) (hl : H l = some (.lst zs)) (hdone : ∀ s', Inv X pins σ (upd H q (.lst zs)) s' → Rz (.ok (.ret .none)) s') (herr : ∀ e s', X.xe e s' → Rz (.error e) s') :
    ∀ (n i : Nat) (it : Addr) (s : Shared), i + n = zs.length → Inv X pins σ (upd H q (.lst (zs.take i))) s → s.heap.IsListIter it l i → FpOk X pins (upd H q (.lst (zs.take i))) it →
      codeAny (model X.prog X.w) A1 (.builtin "list.extend.loop" ⟨[.ref q, .ref it, .none], []⟩) Rz s
  | n, i, it, s, hn, I, st, fp => by
    have lq : l ≠ q := fun z => by rw [z, hq] at hl; cases hl
    have hl' : (upd H q (.lst (zs.take i))) l = some (.lst zs) := by rw [upd_ne lq]; exact hl
    obtain ⟨zz, its, m, rv, hlen, e⟩ := I.lstM hl'
    obtain ⟨f0, f1, f2, f3, f4, f5⟩ := fp
    have pl : s.heap.IsList l its.toArray := ⟨_, e, rfl, _, rfl⟩
    refine codeAny_builtin PySem.F.entry_extend_loop ?_
    rw [Around.under_plainId PySem.F.plain_extend_loop _]
    show wpAny _ A1.in1 (pyNext (.ref it) >>= _) _ _ s
    cases n with
    | zero =>
      refine wpAny_bind (wpAny_pyNext_list_end hh st pl (by rw [List.getElem?_toArray]; exact List.getElem?_eq_none (by omega)) fun h' eb => wpAny_pure ?_)
      have I1 := I.turned (h' := h') (t' := s.toks) (fun b o hb e => eb b o hb e) f0 f1 f3 f4 f5
      rw [List.take_of_length_le (by omega)] at I1
      exact hdone _ I1
    | succ n =>
      have hi : i < zs.length := by omega
      obtain ⟨u, hu, ru⟩ := rv.get (List.getElem?_eq_getElem hi)
      refine wpAny_bind (wpAny_pyNext_list_item st pl (x := u) (by rw [List.getElem?_toArray]; exact hu) fun h' st' sb => ?_)
      have I1 := I.turned (h' := h') (t' := s.toks) (fun b o hb e => (sb.2 b hb).trans e) f0 f1 f3 f4 f5
      obtain ⟨z2, its2, m2, rv2, hlen2, e2⟩ := I1.lstM upd_same
      have qi : q ≠ it := fun z => by rw [← z] at f0; rw [upd_same] at f0; cases f0
      show wpAny _ A1.in1 (updateSeq q (·.push u) >>= _) _ _ _
      have hsz : its2.toArray.size ≤ sizeLine := by rw [List.size_toArray, ← hlen2]; exact z2
      have hlt : (zs.take i).length < sizeLine := by rw [List.length_take]; omega
      refine wpAny_bind (wpAny_updateSeq e2 rfl (wpAny_pure ⟨plainId_quiet PySem.F.plain_extend_loop _, ?_⟩) hsz (by show (its2.toArray.push u).size ≤ sizeLine + 1; rw [Array.size_push]; omega))
      have et : zs.take i ++ [zs[i]] = zs.take (i + 1) := by rw [List.take_add_one, List.getElem?_eq_getElem hi]; rfl
      have I2 := I1.lset (its' := its2 ++ [u]) (f := (·.push u)) (ys := zs.take (i + 1)) (t' := s.toks) upd_same e2 (by simp) (by rw [← et]; exact rv2.append (.cons ru .nil)) (by rw [List.length_take]; omega)
      rw [upd_upd] at I2
      refine ext_loop hh hq hl hdone herr n (i + 1) it _ (by omega) I2 ?_ ⟨?_, f1, f2, f3, f4, f5⟩
      · obtain ⟨o, e3, c3, d3⟩ := st'
        exact ⟨o, (Heap.get?_update_other h' _ (Ne.symm qi.symm)).trans e3, c3, d3⟩
      · rw [upd_ne qi.symm]
        rw [upd_ne qi.symm] at f0
        exact f0
end
section
variable {X : Cx} {C fi : Addr} {k : Nat} {f : Str}
def rListO (C : Addr) (f : Str) : List V → Hp → VK → Prop := fun xs H Q => ∃ a dx fs l zs, xs = [.ref a] ∧ H a = some (.ins C dx fs) ∧ fs.lookup f = some (.ref l) ∧ H l = some (.lst zs) ∧ ∀ q, H q = none → Q (.ref q) (upd H q (.lst zs))
theorem call_listO (hcm : X.calm = true) (hc : ItS X.K C fi) (F : ItFn X.prog X.w X.K X.mg X.base k fi C f) (hr : RG (k + 2) X.A) : CallR X (.type "list") (rListO C f) := by
  intro pins s σ H xs us Q I rv h
  obtain ⟨a, dx, fs, l, zs, rfl, ha, hf, hl, hq⟩ := h
  obtain ⟨u, rfl, ru⟩ := rv.one
  cases ru
  have fr : H s.heap.objs.size = none := I.hok.fresh (Nat.le_refl _)
  have hS : (s.heap.push { cls := .type "list", data := .seq #[] }).get? s.heap.objs.size = some { cls := .type "list", data := .seq #[] } := Heap.get?_push_size _ rfl
  refine callType_codes (Q₁ := fun obj s₁ => obj = .ref s.heap.objs.size ∧ s₁ = { s with heap := s.heap.push { cls := .type "list", data := .seq #[] } }) PySem.F.called_list (PySem.F.typeCall_list_1 _) PySem.F.entry_list_init (code_list_new _ ⟨rfl, rfl⟩) fun obj s₁ ⟨e1, e2⟩ => ?_
  subst e1 e2
  refine ⟨⟨_, hS, rfl⟩, PySem.F.args_list_init_2 _ _, ?_⟩
  have I1 : Inv X pins σ (upd H s.heap.objs.size (.lst [])) { s with heap := s.heap.push { cls := .type "list", data := .seq #[] } } := I.lnew (its := []) (t' := s.toks) .nil (Nat.zero_le _)
  have ne : a ≠ s.heap.objs.size := fun z => by rw [← z, ha] at fr; cases fr
  show wpAny _ _ (Builtin.List.listItems (.ref s.heap.objs.size) >>= fun old => Builtin.List.listUpdate (.ref s.heap.objs.size) (fun _ => #[]) >>= fun _ => letGo old.toList.reverse >>= fun _ => Builtin.List.listExtendWith (.ref s.heap.objs.size) (.ref a) .none) _ _ _
  refine wpAny_bind ?_; unfold Builtin.List.listItems; refine wpAny_bind (wpAny_seqItems hS rfl (wpAny_pure ?_))
  show wpAny _ _ (updateSeq s.heap.objs.size (fun _ => #[]) >>= fun _ => letGo (#[] : Array Value).toList.reverse >>= fun _ => _) _ _ _
  refine wpAny_bind (wpAny_updateSeq hS rfl (wpAny_bind (wpAny_letGo ?_)))
  have I2 := I1.lset (f := fun _ => #[]) (its := []) (its' := []) (ys := []) (t' := s.toks) upd_same hS rfl .nil (Nat.zero_le _)
  rw [upd_upd] at I2
  have ha2 : upd H s.heap.objs.size (.lst []) a = some (.ins C dx fs) := by rw [upd_ne ne]; exact ha
  have lq : l ≠ s.heap.objs.size := fun z => by rw [← z, hl] at fr; cases fr
  have hl2 : upd H s.heap.objs.size (.lst []) l = some (.lst zs) := by rw [upd_ne lq]; exact hl
  obtain ⟨mA, O, _, _, _, _⟩ := ins_get I2.hok ha2
  obtain ⟨od, J, _⟩ := O.look
  have n1 : Builtin.List.listSameRef (.ref s.heap.objs.size) (.ref a) = false := by simp [Builtin.List.listSameRef, ne.symm]
  have n2 : (Value.ref C == Value.type "list") = false ∧ (Value.ref C == Value.type "tuple") = false := ⟨rfl, rfl⟩
  unfold Builtin.List.listExtendWith; refine wpAny_bind (J.type.here ?_)
  simp only [n1, n2.1, n2.2, Bool.or_false, Bool.false_eq_true, if_false]
  refine wpAny_bind (iter_own (A1 := X.A.in1.in1) hc F ⟨hr.r.in1.in1, hr.g⟩ I2.env0.in1.in1 I2 ha2 hf hl2 fun it s3 I3 st fp => wpAny_bind (wpAny_holding ?_))
  obtain ⟨mA', O', _, _, _, _⟩ := ins_get I3.hok ha2
  obtain ⟨od', J', _⟩ := O'.look
  have last : ∀ s4, Inv X pins σ (upd H s.heap.objs.size (.lst [])) s4 → s4.heap.IsListIter it l 0 → codeAny (model X.prog X.w) X.A.in1 (.builtin "list.extend.loop" ⟨[.ref s.heap.objs.size, .ref it, .none], []⟩) (wants (fun r s₂ => r = Value.none ∧ EP X pins σ Q (Value.ref s.heap.objs.size) s₂) X.xe) s4 := fun s4 I4 st4 =>
    ext_loop (X := X) (A1 := X.A.in1) (zs := zs) (I3.ok.hd hcm) fr hl (fun s' I' => ⟨rfl, .ref s.heap.objs.size, _, I', rfl, hq _ fr⟩) (fun e s' he => he) zs.length 0 it s4 (by omega) (by rw [List.take_zero]; exact I4) st4 (by rw [List.take_zero]; exact fp)
  unfold Builtin.List.listLengthHint
  refine wpAny_bind (wpAny_bind (J'.type.here ((PySem.W.looks_findIn I3.kIn hc.nolen).here (PySem.W.KFB.if_not rfl (PySem.W.KFB.if_not rfl (wpAny_bind (wpAny_bind (J'.type.here ((PySem.W.looks_findIn I3.kIn hc.nohint).here (wpAny_pure ?_))))))))))
  refine wpAny_ite_split (fun _ => wpAny_bind (wpAny_rule (wpAny_bind ?_))) (fun _ => wpAny_pure ⟨plainId_quiet PySem.F.plain_extend_loop _, last s3 I3 st⟩)
  obtain ⟨z5, its5, k5, r5, hl5, e5⟩ := I3.lstM upd_same
  cases r5
  have qi : it ≠ s.heap.objs.size := fun z => by have f0 := fp.1; rw [z, upd_same] at f0; cases f0
  show wpAny _ _ (updateSeq s.heap.objs.size (·.push Value.none) >>= fun _ => updateSeq s.heap.objs.size (·.pop)) _ _ _
  have I4 := I3.lset (f := (·.push Value.none)) (its' := [Value.none]) (ys := [.non]) (t' := s3.toks) upd_same e5 (by simp) (.cons rfl .nil) (by rw [List.length_singleton, sizeLine_eq]; decide)
  obtain ⟨z6, its6, k6, r6, hl6, e6⟩ := I4.lstM upd_same
  obtain ⟨u6, rfl, ru6⟩ := r6.one
  have I5 := I4.lset (f := (·.pop)) (its := [u6]) (its' := []) (ys := []) (t' := s3.toks) upd_same e6 rfl .nil (Nat.zero_le _)
  rw [upd_upd, upd_upd] at I5
  refine wpAny_bind (wpAny_updateSeq e5 rfl (wpAny_updateSeq e6 rfl (wpAny_pure ⟨plainId_quiet PySem.F.plain_extend_loop _, last _ I5 ?_⟩) (by show 1 ≤ sizeLine; rw [sizeLine_eq]; decide) (by show 0 ≤ sizeLine + 1; exact Nat.zero_le _)))
  obtain ⟨o, e7, c7, d7⟩ := st
  exact ⟨o, (Heap.get?_update_other _ _ qi.symm).trans ((Heap.get?_update_other _ _ qi.symm).trans e7), c7, d7⟩
end
/-! ### readings -/
def LoopO (C : Addr) (f : Str) (K : PySem.W.Frag) (F : L2.It → Hp → Prop) : VK := fun x H1 => ∃ a dx fs l zs, x = .ref a ∧ H1 a = some (.ins C dx fs) ∧ fs.lookup f = some (.ref l) ∧ H1 l = some (.lst zs) ∧ F (Itl K l) H1
section
variable {K : PySem.W.Frag} {g : TG} {tb : TS} {D : Ends} {σ : L2.St} {H : Hp} {tl te : TE} {tt : TT} {vs : List Nat} {Q : VK} {C : Addr} {f : Str}
theorem w_forO (h : tl σ H (LoopO C f K fun J H => ForB J g tb D σ H)) : tFor (iOwn C f K tl) g tb D σ H := h
theorem w_foeO {u : TS} (h : tl σ H (LoopO C f K fun J H => ForBE J g tb u D σ H)) : tForE (iOwn C f K tl) g tb u D σ H := h
theorem w_lcO (h : tl σ H (LoopO C f K fun J H => LcB J g tt te vs σ H Q)) : tLc (iOwn C f K tl) g tt te vs σ H Q := h
end
section
variable {c : Cfg} {H : Hp} {E : List Ent} {k i : Nat} {v : V} {b : Bool} {cn f : Str} {fds : List (Str × D)} {ns : List Str} {α : Type} [TD α] {xs : List α} {Q : VK}
theorem own_at (s : S c H E) (hk : E[k]? = some (en v (.obj cn fds) b)) (hn : ns.Nodup) (e : fds.map Prod.fst = ns) (hi : fds[i]? = some (f, td xs)) :
    ∃ a dx fs l zs, v = .ref a ∧ H a = some (.ins (c.ce cn) dx fs) ∧ fs.lookup f = some (.ref l) ∧ H l = some (.lst zs) ∧ zs.length ≤ sizeLine ∧ DaL c.K c.ce H (okA c E) zs (xs.map td) ∧ Da c.K c.ce H (okA c E) (.ref l) (td xs) := by
  obtain ⟨a, dx, fs, rfl, h, z, e2, l⟩ := s.insAt hk
  obtain ⟨w, h1, h2⟩ := fld_at e2 l hi
  have h2' := h2
  cases h2 with
  | lst ok hl hz hd => exact ⟨a, dx, fs, _, _, rfl, h, lookup_ix (by rw [e2, e]; exact hn) h1, hl, hz, hd, h2'⟩
theorem r_listO (o : Bool) (s : S c H E) (hk : E[k]? = some (en v (.obj cn fds) b)) (hn : ns.Nodup) (e : fds.map Prod.fst = ns) (hi : fds[i]? = some (f, td xs)) (q : ∀ p H', S c H' ((en (.ref p) (td xs) o) :: E) → Q (.ref p) H') : rListO (c.ce cn) f [v] H Q := by
  obtain ⟨a, dx, fs, l, zs, rfl, ha, hf, hl, hz, hd, _⟩ := own_at s hk hn e hi
  exact ⟨a, dx, fs, l, zs, rfl, ha, hf, hl, fun p hp => q p _ (s.lstB o hp hd hz)⟩
theorem l_own {F : L2.It → Hp → Prop} (s : S c H E) (hk : E[k]? = some (en v (.obj cn fds) b)) (hn : ns.Nodup) (e : fds.map Prod.fst = ns) (hi : fds[i]? = some (f, td xs)) (h : ∀ w, S c H (fz w (td xs) :: E) → ∀ J, Way.Is c.K (.lst w) J → F J H) : LoopO (c.ce cn) f c.K F v H := by
  obtain ⟨a, dx, fs, l, zs, rfl, ha, hf, hl, hz, hd, dl⟩ := own_at s hk hn e hi
  exact ⟨a, dx, fs, l, zs, rfl, ha, hf, hl, h _ (s.add dl) _ ⟨l, rfl, rfl⟩⟩
end
end FB

/-! an own class's o[i], o[i] = v, o | p, o |= p; a staticmethod -/
namespace FB
open PySem PySem.Spec PyProof.Rows L2
/-- what the class must have for __getitem__ at f -/
structure GtC (K : PySem.W.Frag) (C f : Addr) : Prop where
  at_ : PySem.W.findIn K (.ref C) "__getitem__" = some (some (.ref f))
  fi : PySem.W.fnIn K f = true
  fn : PySem.W.isFn K (.ref f) = true
/-- .. __setitem__ -/
structure StC (K : PySem.W.Frag) (C f : Addr) : Prop where
  sq : PySem.W.noSeq K C = true
  at_ : PySem.W.findIn K (.ref C) "__setitem__" = some (some (.ref f))
  fn : PySem.W.isFn K (.ref f) = true
/-- .. an operator's method -/
structure OpC (K : PySem.W.Frag) (C f : Addr) (m : Str) : Prop where
  sf : PySem.W.selfFirst K C = true
  at_ : PySem.W.findIn K (.ref C) m = some (some (.ref f))
  fn : PySem.W.isFn K (.ref f) = true
def tSubO (C : Addr) (sp : Sp) (W : WX) (ta tb : TE) : TE := fun σ H Q => ta σ H fun x H1 => tb σ H1 fun y H2 => ∃ a dx fs, x = .ref a ∧ H2 a = some (.ins C dx fs) ∧ sp [.ref a, y] H2 Q (WE W σ)
def gSubO (C : Addr) (sp : Sp) (W : WX) (to ti : TE) : TG := fun v σ H Q => to σ H fun o H1 => ti σ H1 fun i H2 => ∃ a dx fs, o = .ref a ∧ H2 a = some (.ins C dx fs) ∧ sp [.ref a, i, v] H2 (fun _ H3 => Q σ H3) (WE W σ)
def tBinO (C : Addr) (sp : Sp) (W : WX) (ta tb : TE) : TE := fun σ H Q => ta σ H fun x H1 => tb σ H1 fun y H2 => ∃ a dx fs b dy gs, x = .ref a ∧ y = .ref b ∧ H2 a = some (.ins C dx fs) ∧ H2 b = some (.ins C dy gs) ∧ sp [.ref a, .ref b] H2 Q (WE W σ)
section
variable {X : Cx} {k : Nat} {C g : Addr} {sp : Sp} {W : WX} {a b o i e : Expr} {pos p' : Pos} {ta tb to ti te : TE}
theorem pe_subO (ha : PE X a ta) (hb : PE X b tb) (G : GtC X.K C g) (F : FnG X.prog X.w X.K X.mg X.base k g sp) (hr : RG (k + 1) X.A) (tk : Takes X W)
    (hsl : ∀ x i, subscripted b true (.ref x) i = runValue (.builtin "lifetime.subscript" ⟨[.ref x, i], []⟩) := by intro _ _; with_unfolding_all rfl) : PE X (.Subscript a b pos) (tSubO C sp W ta tb) := by
  refine ⟨fun pins s σ H Q I h => Subscript_ (binT ha hb I h fun v u s2 x y H2 I2 rx ry ⟨a0, dx, fs, ex, ea, q⟩ => ?_)⟩
  subst ex
  cases (show v = Value.ref a0 from rx)
  obtain ⟨mA, O, _, _, _, _⟩ := ins_get I2.hok ea
  obtain ⟨od, J, _⟩ := O.look
  obtain ⟨m, fr⟩ := I2.fr
  refine PySem.W.sub_K fr I2.ok.mod.kin J G.at_ G.fi G.fn (wpAny_call (codeAny_mono (F X.A.in1 X.stack s2 H2 [.ref a0, u] [.ref a0, y] _ _ hr.in1 I2.env0.in1 (.cons rfl (.cons ry .nil)) q) fun r s' hq => ?_)) (hsl _ _)
  have z := ce_end tk I2 hq
  clear hq
  rcases r with er | (u | _ | _ | _) <;> first | exact z | exact z.elim
theorem pg_subO (ho : PE X o to) (hi : PE X i ti) (G : StC X.K C g) (F : FnG X.prog X.w X.K X.mg X.base k g sp) (hr : RG k X.A) (tk : Takes X W)
    (ha : ∀ v, assign (.Subscript o i pos) X.env v = (do
      let ov ← holding [v] (eval o X.env)
      let iv ← holding [v, ov] (eval i X.env)
      standAt pos; holding [v, ov, iv] (setItem ov iv v); release [v, ov, iv] []) := by intro _; rfl) : PG X (.Subscript o i pos) (gSubO C sp W to ti) := by
  refine ⟨fun pins s σ H v u Q I r h => ?_⟩
  rw [ha]
  refine wpAny_bind (wpAny_holding (thn (ho.run pins s σ H _ I h) fun ov s1 ⟨x, H1, I1, r1, q1⟩ => wpAny_bind (wpAny_holding (thn (hi.run pins s1 σ H1 _ I1 q1) fun iv s2 ⟨y, H2, I2, r2, a0, dx, fs, ex, ea, q⟩ => ?_))))
  subst ex
  cases (show ov = Value.ref a0 from r1)
  obtain ⟨mA, O, _, _, _, _⟩ := ins_get I2.hok ea
  obtain ⟨od, J, _⟩ := O.look
  obtain ⟨m, fr⟩ := I2.fr
  refine wpAny_bind (wpAny_standAt (wpAny_bind (wpAny_holding (PySem.W.ksp_setItem fr I2.ok.mod.kin J G.sq G.at_ G.fn (wpAny_call (codeAny_mono (F X.A X.stack s2 H2 [.ref a0, iv, _] [.ref a0, y, v] _ _ hr I2.env0 (.cons rfl (.cons r2 (.cons r .nil))) q) fun r s' hq => ?_))))))
  have z := ce_end tk I2 hq
  clear hq
  cases r with
  | error er => exact z
  | ok fl =>
    cases fl with
    | ret w =>
      obtain ⟨v', H', J', _, q'⟩ := z
      exact wpAny_release ⟨σ, H', J', q'⟩
    | _ => exact z.elim
theorem not_ni {v : V} {u : Value} (r : RelV v u) : u ≠ .notImplemented := by
  intro z
  subst z
  cases v <;> first | exact r.elim | (obtain ⟨_, q⟩ := r; cases q; done) | (cases r; done)
theorem back_of {Q : Value → Shared → Prop} {v : V} {u : Value} {s : Shared} (r : RelV v u) (q : Q u s) : PySem.W.CmpBack Q u s := by
  have := not_ni r
  unfold PySem.W.CmpBack
  split
  · exact this rfl
  · exact q
theorem pe_binO {op : Operator} (ha : PE X a ta) (hb : PE X b tb) (G : OpC X.K C g (PySem.dunder op.info.2)) (F : FnG X.prog X.w X.K X.mg X.base k g sp) (hr : RG k X.A) (tk : Takes X W) : PE X (.BinOp a op b pos) (tBinO C sp W ta tb) := by
  refine ⟨fun pins s σ H Q I h => wpAny_BinOp (binT ha hb I h fun v u s2 x y H2 I2 rx ry ⟨a0, dx, fs, b0, dy, gs, ex, ey, ea, eb, q⟩ => ?_)⟩
  subst ex ey
  cases (show v = Value.ref a0 from rx)
  cases (show u = Value.ref b0 from ry)
  obtain ⟨mA, O, _, _, _, _⟩ := ins_get I2.hok ea
  obtain ⟨od, J, _⟩ := O.look
  obtain ⟨mB, OB, _, _, _, _⟩ := ins_get I2.hok eb
  obtain ⟨odB, JB, _⟩ := OB.look
  obtain ⟨m, fr⟩ := I2.fr
  refine PySem.W.binop_K fr I2.ok.mod.kin J JB.type G.sf G.at_ G.fn (wpAny_call (codeAny_mono (F X.A X.stack s2 H2 [.ref a0, .ref b0] [.ref a0, .ref b0] _ _ hr I2.env0 (.cons rfl (.cons rfl .nil)) q) fun r s' hq => ?_))
  have z := ce_end tk I2 hq
  clear hq
  cases r with
  | error er => exact z
  | ok fl =>
    cases fl with
    | ret w =>
      obtain ⟨v', H', J', rv, q'⟩ := z
      exact back_of rv ⟨v', H', J', rv, q'⟩
    | _ => exact z.elim
end
/-! ### staticmethods -/
structure SMet (K : PySem.W.Frag) (C : Addr) (mc : Value) (m : Str) (p g : Addr) : Prop where
  at_ : PySem.W.findCls K (.ref C) mc m = some (.get (.builtin "staticmethod.__get__") (.ref p) .none (.ref C))
  rc : ∃ rest, PySem.W.recIn K p "staticmethod" = some (.ref g :: rest)
  kp : PySem.W.keepIn K (.ref g) = true
/-- .. reached through an instance of C -/
structure SInst (K : PySem.W.Frag) (C : Addr) (m : Str) (p g : Addr) : Prop where
  pg : PySem.W.plainGet K C Str.empty = true
  ic : PySem.W.isClsIn K C = true
  at_ : PySem.W.findIn K (.ref C) m = some (some (.ref p))
  ty : PySem.W.typeIn K (.ref p) = some (.type "staticmethod")
  get : PySem.W.specialIn K (.ref p) "__get__" = some (some (.builtin "staticmethod.__get__"))
  tk : PySem.W.takesIn K (.ref p) = some false
  cp : PySem.W.copiedNames.contains m = false
  rc : ∃ rest, PySem.W.recIn K p "staticmethod" = some (.ref g :: rest)
  kp : PySem.W.keepIn K (.ref g) = true
def tSMet (C : Addr) (sp : Sp) (W : WX) (ta : TE) (t : TA) : TE := fun σ H Q => ta σ H fun x H1 => x = .ref C ∧ t σ H1 fun vs H2 => sp vs H2 Q (WE W σ)
def tSInst (C : Addr) (m : Str) (sp : Sp) (W : WX) (ta : TE) (t : TA) : TE := fun σ H Q => ta σ H fun x H1 => ∃ a dx fs, x = .ref a ∧ H1 a = some (.ins C dx fs) ∧ fs.lookup m = none ∧ t σ H1 fun vs H2 => sp vs H2 Q (WE W σ)
section
variable {X : Cx} {k : Nat} {C p g : Addr} {mc : Value} {sp : Sp} {W : WX} {o e : Expr} {es : List Expr} {m : Str} {pos apos : Pos} {ta : TE} {t : TA} {pl : Sem Bool}
theorem pe_smet (he : PE X o ta) (r : ClX.CRead X.K C mc) (c : SMet X.K C mc m p g) (F : FnG X.prog X.w X.K X.mg X.base k g sp) (hr : RG k X.A) (tk : Takes X W) (ha : PA X (e :: es) t)
    (hst : starEach (e :: es) X.env = (false, eval e X.env) :: starEach es X.env := by rfl) (hpl : (backTo pos (starEach es X.env)).any (·.1) = false := by rfl)
    (ht : eval (.Call (.Attribute o m apos) (e :: es) [] pos) X.env = (do
      let ov ← eval o X.env; standAt apos.atName
      let (f, first) ← holding [ov] (getMethod ov m pl); callWith pos f first (backTo pos (starEach (e :: es) X.env)) (backToKw pos (keywordEach [] X.env))) := by rfl) :
    PE X (.Call (.Attribute o m apos) (e :: es) [] pos) (tSMet C sp W ta t) := by
  refine ⟨fun pins s σ H Q I h => PySem.W.methodCall_KW (pl := pl) (thn (he.run pins s σ H _ I h) fun u s1 ⟨y, H1, I1, ry, ey, q⟩ => ?_) ht⟩
  subst ey
  cases (show u = Value.ref C from ry)
  obtain ⟨rest, hp⟩ := c.rc
  refine PySem.W.method_cls I1.kIn r.ga (PySem.W.cls_bind I1.kIn r.rd c.at_ (wpAny_call (PySem.W.sm_get (s := { s1 with toks := s1.toks + 1 }) I1.kIn hp (PySem.W.handed_on rfl ?_))))
  have I2 := I1.tok (s1.toks + 1)
  exact PySem.W.callWith_K (first := []) (h₀ := X.base) I2.ok.mod.kin c.kp (thn (ha.run pos pins _ σ H1 _ I2 q) fun us s2 ⟨vs, H2, I3, rv, q2⟩ => ⟨I3.kIn, run_g F hr tk I3 rv q2⟩) hst hpl
theorem pe_sinst (he : PE X o ta) (c : SInst X.K C m p g) (F : FnG X.prog X.w X.K X.mg X.base k g sp) (hr : RG k X.A) (tk : Takes X W) (ha : PA X (e :: es) t)
    (hst : starEach (e :: es) X.env = (false, eval e X.env) :: starEach es X.env := by rfl) (hpl : (backTo pos (starEach es X.env)).any (·.1) = false := by rfl)
    (ht : eval (.Call (.Attribute o m apos) (e :: es) [] pos) X.env = (do
      let ov ← eval o X.env; standAt apos.atName
      let (f, first) ← holding [ov] (getMethod ov m pl); callWith pos f first (backTo pos (starEach (e :: es) X.env)) (backToKw pos (keywordEach [] X.env))) := by rfl) :
    PE X (.Call (.Attribute o m apos) (e :: es) [] pos) (tSInst C m sp W ta t) := by
  refine ⟨fun pins s σ H Q I h => PySem.W.methodCall_KW (pl := pl) (thn (he.run pins s σ H _ I h) fun u s1 ⟨y, H1, I1, ry, a, dx, fs, ey, ea, l, q⟩ => ?_) ht⟩
  subst ey
  cases (show u = Value.ref a from ry)
  obtain ⟨mA, O, rr, _, _, _⟩ := ins_get I1.hok ea
  have hn : mA m = none := RelO.none_of (by rw [← l]; exact rr m)
  obtain ⟨od, J, hl⟩ := O.look
  obtain ⟨rest, hp⟩ := c.rc
  have I2 := I1.tok (s1.toks + 1)
  refine PySem.W.method_usual (r := some (.ref p)) I1.kIn J (PySem.W.plainGet_of (show PySem.W.plainGet X.K C m = true from c.pg)).1 (PySem.W.plainGet_of (show PySem.W.plainGet X.K C m = true from c.pg)).2 c.at_ (by rw [Option.all_some, c.ty, Option.any_some]; first | rfl | decide +kernel)
    (PySem.W.get_bind I1.kIn J (PySem.W.plainGet_of (show PySem.W.plainGet X.K C m = true from c.pg)).1 (ClX.find_cm c.ic c.at_ c.get c.tk c.cp (by rw [hl m, hn])) (PySem.W.plainGet_of (show PySem.W.plainGet X.K C m = true from c.pg)).2
      (wpAny_call (PySem.W.sm_get (s := { s1 with toks := s1.toks + 1 }) I1.kIn hp (PySem.W.handed_on rfl ?_))))
  exact PySem.W.callWith_K (first := []) (h₀ := X.base) I2.ok.mod.kin c.kp (thn (ha.run pos pins _ σ H1 _ I2 q) fun us s2 ⟨vs, H2, I3, rv, q2⟩ => ⟨I3.kIn, run_g F hr tk I3 rv q2⟩) hst hpl
end
theorem kb_plain {K : PySem.W.Frag} {fd : FuncData} {ps : List Str} {n : Nat} (h : Binds K fd ps []) (hn : n = ps.length := by rfl) : KBn K fd ps n [] (fun us _ => us) (fun vs _ => vs) :=
  ⟨fun s us ws kin h1 h2 => by
    have e : ws = [] := List.eq_nil_of_length_eq_zero h2
    subst e
    have := h s us kin (by rw [List.append_nil, h1, hn])
    rw [List.append_nil] at this
    exact this, fun r1 _ => r1⟩
/-! ### readings -/
section
variable {C : Addr} {m : Str} {sp : Sp} {W : WX} {ta tb : TE} {t : TA} {σ : L2.St} {H : Hp} {Q : VK}
theorem w_subO (h : ta σ H fun x H1 => tb σ H1 fun y H2 => ∃ a dx fs, x = .ref a ∧ H2 a = some (.ins C dx fs) ∧ sp [.ref a, y] H2 Q (WE W σ)) : tSubO C sp W ta tb σ H Q := h
theorem w_gsubO {v : V} {Q : L2.St → Hp → Prop} (h : ta σ H fun o H1 => tb σ H1 fun i H2 => ∃ a dx fs, o = .ref a ∧ H2 a = some (.ins C dx fs) ∧ sp [.ref a, i, v] H2 (fun _ H3 => Q σ H3) (WE W σ)) : gSubO C sp W ta tb v σ H Q := h
theorem w_binO (h : ta σ H fun x H1 => tb σ H1 fun y H2 => ∃ a dx fs b dy gs, x = .ref a ∧ y = .ref b ∧ H2 a = some (.ins C dx fs) ∧ H2 b = some (.ins C dy gs) ∧ sp [.ref a, .ref b] H2 Q (WE W σ)) : tBinO C sp W ta tb σ H Q := h
theorem w_smet (h : ta σ H fun x H1 => x = .ref C ∧ t σ H1 fun vs H2 => sp vs H2 Q (WE W σ)) : tSMet C sp W ta t σ H Q := h
def SinQ (C : Addr) (m : Str) (F : Hp → Prop) : VK := fun x H1 => ∃ a dx fs, x = .ref a ∧ H1 a = some (.ins C dx fs) ∧ fs.lookup m = none ∧ F H1
theorem w_sinst (h : ta σ H (SinQ C m fun H1 => t σ H1 fun vs H2 => sp vs H2 Q (WE W σ))) : tSInst C m sp W ta t σ H Q := h
end
section
variable {c : Cfg} {H : Hp} {E : List Ent} {k : Nat} {v y : V} {b : Bool} {cn : Str} {fds : List (Str × D)} {sp : Sp} {Q : VK} {X : XK}
theorem r_subO (s : S c H E) (hk : E[k]? = some (en v (.obj cn fds) b)) (q : sp [v, y] H Q X) : ∃ a dx fs, v = .ref a ∧ H a = some (.ins (c.ce cn) dx fs) ∧ sp [.ref a, y] H Q X := r_pset s hk q
theorem r_sinst {m : Str} {F : Hp → Prop} {ns : List Str} (s : S c H E) (hk : E[k]? = some (en v (.obj cn fds) b)) (e : fds.map Prod.fst = ns) (hm : m ∉ ns) (q : F H) : SinQ (c.ce cn) m F v H := by
  obtain ⟨a, dx, fs, rfl, h, z, e2, _⟩ := s.insAt hk
  exact ⟨a, dx, fs, rfl, h, lookup_no (by rw [e2, e]; exact hm), q⟩
theorem r_gsubO {u : V} (s : S c H E) (hk : E[k]? = some (en v (.obj cn fds) b)) (q : sp [v, y, u] H Q X) : ∃ a dx fs, v = .ref a ∧ H a = some (.ins (c.ce cn) dx fs) ∧ sp [.ref a, y, u] H Q X := by
  obtain ⟨a, dx, fs, rfl, h, _⟩ := s.insAt hk
  exact ⟨a, dx, fs, rfl, h, q⟩
theorem r_binO {j : Nat} {b' : Bool} {gds : List (Str × D)} (s : S c H E) (hk : E[k]? = some (en v (.obj cn fds) b)) (hj : E[j]? = some (en y (.obj cn gds) b')) (q : sp [v, y] H Q X) :
    ∃ a dx fs b dy gs, v = .ref a ∧ y = .ref b ∧ H a = some (.ins (c.ce cn) dx fs) ∧ H b = some (.ins (c.ce cn) dy gs) ∧ sp [.ref a, .ref b] H Q X := by
  obtain ⟨a, dx, fs, rfl, h, _⟩ := s.insAt hk
  obtain ⟨b, dy, gs, rfl, h2, _⟩ := s.insAt hj
  exact ⟨a, dx, fs, b, dy, gs, rfl, rfl, h, h2, q⟩
end
/-! ### [*xs, (a, ..)] -/
def StarQ (K : PySem.W.Frag) (t : TA) (σ : L2.St) (Q : List V → Hp → Prop) : VK := fun x H1 => ∃ p xs, x = V.ref p ∧ (SqT K H1 p xs ∨ SqL K H1 p xs) ∧ t σ H1 fun ys H2 => Q (xs ++ ys) H2
theorem w_star {K : PySem.W.Frag} {te : TE} {t : TA} {σ : L2.St} {H : Hp} {Q : List V → Hp → Prop} (h : te σ H (StarQ K t σ Q)) : StX.tStar K te t σ H Q := h
section
variable {c : Cfg} {H : Hp} {E : List Ent} {k : Nat} {v w : V} {b : Bool} {α : Type} [TD α] {xs ys : List α} {x : α} {Q : VK}
theorem r_star1 {t : TA} {σ : L2.St} {Q : List V → Hp → Prop} (s : S c H E) (hk : E[k]? = some (en v (td xs) b)) (q : ∀ a zs, v = .ref a → H a = some (.lst zs) → t σ H fun ys H2 => Q (zs ++ ys) H2) : StarQ c.K t σ Q v H := by
  obtain ⟨a, vs, rfl, h, z, l⟩ := s.lst (ds := xs.map td) hk
  exact ⟨a, vs, rfl, .inr (.of h), q a vs rfl h⟩
theorem r_tupX {vs : List V} {ds : List D} (s : S c H E) (h : DaL c.K c.ce H (okA c E) vs ds) (hz : vs.length ≤ sizeLine := by exact Nat.le_of_ble_eq_true rfl) (q : ∀ p, H p = none → S c (upd H p (.tup vs)) (fz (.ref p) (.tup ds) :: E) → Q (.ref p) (upd H p (.tup vs))) :
    NewT Q vs H := ⟨hz, fun p hp => q p hp (s.tup hp h hz)⟩
theorem r_lstX {a : Addr} {zs : List V} (o : Bool) (s : S c H E) (hk : E[k]? = some (en v (td xs) b)) (ev : v = .ref a) (hz : H a = some (.lst zs)) (hx : Da c.K c.ce H (okA c E) w (td x)) (cap : pushL xs x = some ys) (q : ∀ p H', S c H' (en (.ref p) (td ys) o :: E) → Q (.ref p) H') : NewL Q (zs ++ [w]) H := by
  obtain ⟨a', vs, e1, h, z, l⟩ := s.lst (ds := xs.map td) hk
  rw [ev] at e1
  cases e1
  rw [hz] at h
  cases h
  unfold pushL at cap
  split at cap
  · rename_i hc
    cases cap
    have hl : (zs ++ [w]).length ≤ sizeLine := by
      have := l.length
      rw [List.length_map] at this
      rw [List.length_append, List.length_singleton, this, sizeLine_eq]
      have : LINE = 16777216 := rfl
      omega
    have d : DaL c.K c.ce H (okA c E) (zs ++ [w]) ((xs ++ [x]).map td) := by
      rw [List.map_append]
      exact l.append (.cons hx .nil)
    exact ⟨hl, fun p hp => q p _ (s.lstB o hp d hl)⟩
  · cases cap
end
/-! ### xs * k -/
theorem rep_fold (its : List Value) : ∀ (m : Nat) (acc : List Value), List.foldl (fun x1 x2 : Array Value => x1 ++ x2) acc.toArray (List.replicate m its.toArray) = (acc ++ (List.replicate m its).flatten).toArray
  | 0, acc => by simp
  | m + 1, acc => by
    rw [List.replicate_succ, List.foldl_cons, show acc.toArray ++ its.toArray = (acc ++ its).toArray by simp, rep_fold its m, List.replicate_succ, List.flatten_cons, List.append_assoc]
theorem vals_rep {vs : List V} {us : List Value} (r : Vals vs us) : ∀ m : Nat, Vals (List.replicate m vs).flatten (List.replicate m us).flatten
  | 0 => .nil
  | m + 1 => by
    rw [List.replicate_succ, List.flatten_cons, List.replicate_succ, List.flatten_cons]
    exact r.append (vals_rep r m)
theorem len_rep {α : Type} (xs : List α) : ∀ m : Nat, (List.replicate m xs).flatten.length = m * xs.length
  | 0 => by simp
  | m + 1 => by rw [List.replicate_succ, List.flatten_cons, List.length_append, len_rep xs m, Nat.succ_mul, Nat.add_comm]
def rRepL : R2 := fun x y H Q => ∃ l k zs, x = V.ref l ∧ y = V.int k ∧ H l = some (.lst zs) ∧ 0 ≤ k ∧ k ≤ 1000 ∧ zs.length ≤ 1000 ∧ ∀ p, H p = none → Q (.ref p) (upd H p (.lst (List.replicate k.toNat zs).flatten))
theorem op_repL {X : Cx} : OpR X (binaryOp .Mult) rRepL := by
  intro pins s σ H x y v u Q I rx ry h
  obtain ⟨l, k, zs, rfl, rfl, hl, h0, h1, hz, q⟩ := h
  cases rx
  obtain ⟨t, rfl⟩ := ry
  obtain ⟨z, its, n, r, hlen, e⟩ := I.lstM hl
  have hsz : its.toArray.size * k.toNat ≤ 1000000 := by
    rw [List.size_toArray, ← hlen]
    exact (Nat.mul_le_mul hz (show k.toNat ≤ 1000 by omega) : zs.length * k.toNat ≤ 1000 * 1000)
  have fl : (List.replicate k.toNat zs).flatten.length ≤ sizeLine := by
    rw [len_rep, sizeLine_eq]
    rw [List.size_toArray, ← hlen, Nat.mul_comm] at hsz
    omega
  have es : List.foldl (fun x1 x2 : Array Value => x1 ++ x2) #[] (List.replicate (if its.toArray.isEmpty = true then 0 else k.toNat) its.toArray) = (List.replicate k.toNat its).flatten.toArray := by
    by_cases hn : its = []
    · subst hn
      simp
    · rw [if_neg (by simpa using hn)]
      have := rep_fold its k.toNat []
      rw [List.nil_append] at this
      exact this
  refine wpAny_binaryOp_repeat_ref (T := "list") (U := "int") (by decide) ⟨_, e, rfl⟩ (fun s' => typeIs_int s' k t) noFill_list_mul PySem.F.fills_int_mul PySem.F.slot_int_rmul repeat_list PySem.F.slot_int_index.lookup
    (call_meets PySem.F.slot_int_rmul (typeIs_int s k t) PySem.F.entry_int_rmul (PySem.F.args_int_rmul_2 _ _) (int___rmul___int_list k t l its.toArray n)
      ⟨e, rfl, ⟨_, e, rfl⟩, call_meets PySem.F.slot_list_mul ⟨_, e, rfl⟩ PySem.F.entry_list_mul (PySem.F.args_list_mul_2 _ _)
        (AutoListH.list___mul___list_int_3 l its.toArray n k t (by simp [Builtin.List.listFitsIndex]; omega) (by omega) (by simp [Builtin.List.listTooLong, sizeLine] at hsz ⊢; omega)) ⟨e, ?_⟩⟩)
  rw [es]
  exact ⟨.ref s.heap.objs.size, _, I.lnew (t' := s.toks) (vals_rep r k.toNat) fl, rfl, q _ I.fresh⟩
theorem DaL.rep {K : PySem.W.Frag} {ce : Str → Addr} {H : Hp} {ok : Addr → Prop} {vs : List V} {ds : List D} (h : DaL K ce H ok vs ds) : ∀ m : Nat, DaL K ce H ok (List.replicate m vs).flatten (List.replicate m ds).flatten
  | 0 => .nil
  | m + 1 => by
    rw [List.replicate_succ, List.flatten_cons, List.replicate_succ, List.flatten_cons]
    exact h.append (DaL.rep h m)
theorem r_repL {c : Cfg} {H : Hp} {E : List Ent} {i : Nat} {v : V} {b : Bool} {Q : VK} {α : Type} [TD α] {xs ys : List α} {k : Int} (o : Bool) (s : S c H E) (h1 : E[i]? = some (en v (td xs) b)) (h : repL xs k = some ys) (q : ∀ p H', S c H' ((en (.ref p) (td ys) o) :: E) → Q (.ref p) H') : rRepL v (.int k) H Q := by
  obtain ⟨a, vs, rfl, ha, za, la⟩ := s.lst (ds := xs.map td) h1
  unfold repL at h
  split at h
  · rename_i hc
    cases h
    have ln := la.length
    rw [List.length_map] at ln
    have d := la.rep k.toNat
    rw [← List.map_replicate, ← List.map_flatten] at d
    refine ⟨a, k, vs, rfl, rfl, ha, hc.1, hc.2.1, by rw [ln]; exact hc.2.2, fun p hp => q p _ (s.lstB o hp d ?_)⟩
    rw [len_rep, ln, sizeLine_eq]
    have : k.toNat * xs.length ≤ 1000 * 1000 := Nat.mul_le_mul (show k.toNat ≤ 1000 by omega) hc.2.2
    omega
  · cases h
end FB

/-! str(o) by an own __str__; *xs, x = a list; try whose clauses are never looked at -/
namespace FB
open PySem PySem.Spec PyProof.Rows L2
/-- what the class must have for __str__ at f -/
structure SrC (K : PySem.W.Frag) (C f : Addr) : Prop where
  at_ : PySem.W.findIn K (.ref C) "__str__" = some (some (.ref f))
  fn : PySem.W.isFn K (.ref f) = true
def StrQ (Q : VK) : VK := fun v H => ∃ t, v = .str t ∧ Q (.str t) H
def rStrO (C : Addr) (sp : Sp) : List V → Hp → VK → Prop := fun vs H Q => ∃ a dx fs, vs = [.ref a] ∧ H a = some (.ins C dx fs) ∧ ∀ σ : L2.St, sp [.ref a] H (StrQ Q) (WE (fun _ _ _ _ => False) σ)
section
variable {X : Cx} {k : Nat} {C g : Addr} {sp : Sp}
theorem call_strO (G : SrC X.K C g) (F : FnG X.prog X.w X.K X.mg X.base k g sp) (hr : RG (k + 2) X.A) : CallR X (.type "str") (rStrO C sp) := by
  intro pins s σ H vs us Q I rv h
  obtain ⟨a, dx, fs, rfl, ea, q⟩ := h
  obtain ⟨u, rfl, ru⟩ := rv.one
  cases ru
  obtain ⟨mA, O, _, _, _, _⟩ := ins_get I.hok ea
  obtain ⟨od, J, _⟩ := O.look
  have hr2 : RG k X.A.in1.in1 := hr.in1.in1
  refine PySem.W.kso_call (by have := hr2.r.un; omega) I.kIn J G.at_ G.fn (wpAny_call (codeAny_mono (F X.A.in1.in1 X.stack s H [.ref a] [.ref a] _ _ hr2 I.env0.in1.in1 (.cons rfl .nil) (q σ)) fun r s' hq => ?_))
  have z := ce_end takes0 I hq
  clear hq
  cases r with
  | error er => exact z
  | ok fl =>
    cases fl with
    | ret w =>
      obtain ⟨v', H', J', rv, t, e, q'⟩ := z
      subst e
      obtain ⟨tk, rfl⟩ := rv
      exact ⟨.str t, H', J', ⟨tk, rfl⟩, q'⟩
    | _ => exact z.elim
end
section
variable {c : Cfg} {H : Hp} {E : List Ent} {k : Nat} {v : V} {b : Bool} {cn : Str} {fds : List (Str × D)} {sp : Sp} {Q : VK}
theorem r_strO (s : S c H E) (hk : E[k]? = some (en v (.obj cn fds) b)) (q : ∀ X : XK, sp [v] H (StrQ Q) X) : rStrO (c.ce cn) sp [v] H Q := by
  obtain ⟨a, dx, fs, rfl, h, _⟩ := s.insAt hk
  exact ⟨a, dx, fs, rfl, h, fun σ => q _⟩
end
/-! ### *xs, x = a list -/
def gStL (K : PySem.W.Frag) (t : TGs) : TG := fun v σ H Q => ∃ a xs x, v = .ref a ∧ SqL K H a (xs ++ [x]) ∧ xs.length < 16384 ∧ ∀ p, H p = none → t [.ref p, x] σ (upd H p (.lst xs)) Q
section
variable {X : Cx} {es : List Expr} {n : Nat} {pos : Pos} {t : TGs}
theorem pg_stL (hc : X.calm = true) (h : PGs X es t) (hn : (assignEach es X.env).length = 2 := by rfl) (hst : (assignEach es X.env).findIdx? (·.1) = some 0 := by rfl) : PG X (.Tuple es n pos) (gStL X.K t) := by
  refine ⟨fun pins s σ H v u Q I r hw => ?_⟩
  obtain ⟨l, xs, x, e1, hq, hlen, hw⟩ := hw
  subst e1
  cases r
  obtain ⟨its, rv, hl, hz⟩ := I.list hq
  have hh : X.A.handled = none := I.ok.hd hc
  have hil : its.length = xs.length + 1 := by rw [← rv.length, List.length_append]; rfl
  have hl : s.heap.IsList l its.toArray := by
    obtain ⟨o, m, e, c1, c2, c3⟩ := hl
    exact ⟨o, e, c1, m, c3⟩
  have hlt : l ≠ s.heap.objs.size := by obtain ⟨o, ho, _⟩ := hl; exact Nat.ne_of_lt (Heap.lt_size ho)
  have hll : l < s.heap.objs.size := by obtain ⟨o, ho, _⟩ := hl; exact Heap.lt_size ho
  have hsz : its.toArray.size = xs.length + 1 := by rw [List.size_toArray]; exact hil
  rw [assign_Tuple]
  refine wpAny_bind (wpAny_standAt ?_)
  unfold unpack
  rw [hn, hst]
  refine wpAny_bind (wpAny_holding ?_)
  unfold unpackItems
  refine wpAny_bind ?_
  unfold notIterableAtAll
  refine wpAny_bind (wpAny_specialOf hl.typeIs slot_list_iter.lookup ?_)
  refine wpAny_pure ?_
  simp only [Bool.false_eq_true, if_false]
  refine wpAny_bind (wpAny_holding (wpAny_pyIter_list hl ?_))
  refine wpAny_bind (wpAny_holding (PySem.W.kun_draw hlt 0 0 _ _ ⟨_, Heap.get?_push_size _ rfl, rfl, rfl⟩ (hl.push _) (by omega) fun h₁ hit₁ hs₁ => ?_))
  have hl₁ : h₁.IsList l its.toArray := (hl.push _).extBut hs₁.extBut hlt
  have hit₁' := hit₁
  obtain ⟨oi, hoi, _⟩ := hit₁'
  have hl₁' := hl₁
  obtain ⟨ol, hol, _⟩ := hl₁'
  rw [List.drop_zero, List.take_zero]
  rw [if_neg (show ¬ (([] : List Value).length < 0) from Nat.lt_irrefl 0)]
  refine wpAny_bind (wpAny_holding (PySem.W.kun_collect (s := { s with heap := h₁ }) (T := "list_iterator") (.inr (.inr (.inl rfl))) (Walks.list (A := X.A.in1) hh s.heap.objs.size l hlt its.toArray) (fun j u st => st.1.typeIs) (k := 0) (by omega) ⟨hit₁, hl₁⟩ (Heap.lt_size hoi) (Heap.lt_size hol) (fun h₂ tk hk => ?_) (by rw [sizeLine_eq]; omega)))
  rw [List.drop_zero]
  have e2 : its.toArray.toList = its := rfl
  rw [e2]
  show wpAny _ _ (if its.length < 2 - 1 - 0 then _ else _) _ _ _
  rw [if_neg (by omega)]
  show wpAny _ _ (newList (its.take (its.length - 1)) >>= fun d => pure ([] ++ [d] ++ its.drop (its.length - 1))) _ _ _
  have he : ∀ b o, s.heap.get? b = some o → h₂.get? b = some o := fun b o e => hk b o (Nat.ne_of_lt (Heap.lt_size e)) (hs₁.extBut b o (Nat.ne_of_lt (Heap.lt_size e)) (Heap.get?_push_of_some _ e))
  have I1 : Inv X pins σ H { s with heap := h₂, toks := tk } := I.kept he
  obtain ⟨ys, y, rfl, ry, r1⟩ : ∃ (ys : List Value) (y : Value), its = ys ++ [y] ∧ Vals xs ys ∧ RelV x y := by
    have ra := rv.take xs.length
    have rb := rv.drop xs.length
    rw [List.take_left] at ra
    rw [List.drop_left] at rb
    obtain ⟨y, ey, ry⟩ := rb.one
    exact ⟨_, y, by rw [← ey, List.take_append_drop], ra, ry⟩
  rw [show (ys ++ [y]).length - 1 = ys.length by simp, List.take_left, List.drop_left]
  have hzl : ys.length ≤ sizeLine := by rw [sizeLine_eq]; simp at hil; omega
  refine wpAny_bind (wpAny_newList ?_ hzl)
  have hf : H h₂.objs.size = none := I1.hok.fresh (Nat.le_refl _)
  have I2 : Inv X pins σ (upd H h₂.objs.size (.lst xs)) { s with heap := h₂.push (seqObj "list" ys.toArray 0), toks := tk } := I1.lnew (its := ys) (t' := tk) ry (by rw [ry.length]; exact hzl)
  refine wpAny_pure ?_
  exact h.run pins _ σ _ [.ref h₂.objs.size, x] [.ref h₂.objs.size, y] Q I2 (.cons rfl (.cons r1 .nil)) (hw _ hf)
end
/-- .. by names: the starred one first -/
theorem pgs_star {X : Cx} {e : Expr} {es : List Expr} {pos : Pos} {t : TG} {u : TGs} (h1 : PG X e t) (h2 : PGs X es u)
    (hs : (assignEach (.Starred e pos :: es) X.env).map (·.2) = assign e X.env :: (assignEach es X.env).map (·.2) := by rfl) : PGs X (.Starred e pos :: es) (gCons t u) := by
  refine ⟨fun pins s σ H vs us Q I r h => ?_⟩
  obtain ⟨v, vr, e1, h⟩ := h
  subst e1
  cases r with
  | cons r rr =>
    rw [hs]
    refine assignInOrder_cons (thn (h1.run pins s σ H _ _ _ I r h) fun _ s1 ⟨σ1, H1, I1, q1⟩ => ?_)
    exact h2.run pins s1 σ1 H1 _ _ Q I1 rr q1
section
variable {c : Cfg} {H : Hp} {E : List Ent} {k : Nat} {v : V} {b : Bool} {α : Type} [TD α] {xs ys : List α} {y : α} {t : TGs} {σ : L2.St} {Q : L2.St → Hp → Prop}
theorem starL_some {xs ys : List α} {y : α} (h : starL xs = some (ys, y)) : xs = ys ++ [y] ∧ ys.length < 16384 := by
  unfold starL at h
  split at h
  · cases h
  · rename_i x e
    split at h
    · rename_i hc
      cases h
      have e2 : xs.dropLast ++ [y] = xs := by
        have hn : xs ≠ [] := by intro z; subst z; cases e
        rw [List.getLast?_eq_some_getLast hn] at e
        have e3 : xs.getLast hn = y := by simpa using e
        rw [← e3]
        exact List.dropLast_concat_getLast hn
      refine ⟨e2.symm, ?_⟩
      have := congrArg List.length e2
      rw [List.length_append, List.length_singleton] at this
      omega
    · cases h
theorem g_stL (o : Bool) (s : S c H E) (hk : E[k]? = some (en v (td xs) b)) (hs : starL xs = some (ys, y)) (q : ∀ p w H', S c H' (en (.ref p) (td ys) o :: fz w (td y) :: E) → t [.ref p, w] σ H' Q) : gStL c.K t v σ H Q := by
  obtain ⟨rfl, hz⟩ := starL_some hs
  obtain ⟨a, vs, rfl, h, z, l⟩ := s.lst (ds := (ys ++ [y]).map td) hk
  rw [List.map_append] at l
  have l1 := l.take (ys.map td).length
  have l2 := l.drop (ys.map td).length
  rw [List.take_left] at l1
  rw [List.drop_left] at l2
  obtain ⟨us, ws, rfl, e1, e2⟩ : ∃ us ws, vs = us ++ ws ∧ vs.take (ys.map td).length = us ∧ vs.drop (ys.map td).length = ws := ⟨_, _, (List.take_append_drop _ _).symm, rfl, rfl⟩
  rw [e1] at l1
  rw [e2] at l2
  cases l2 with
  | cons d2 l3 =>
    cases l3
    have hl : us.length = ys.length := by have := l1.length; rw [List.length_map] at this; exact this
    refine ⟨a, us, _, rfl, .inl (.of h), by omega, fun p hp => q p _ _ ?_⟩
    have s2 := s.add d2
    exact s2.lstB o hp (l1) (by rw [sizeLine_eq]; omega)
theorem w_stL {t : TG} {te : TE} {D : Ends} (h : te σ H fun x H1 => t x σ H1 D.nx) : tAsg te t D σ H := h
end
end FB

namespace My
open PySem FB
abbrev c_LETTERS : Str := "abcdefghijklmnopqrstuvwxyz"
abbrev c_CAPITALS : Str := "ABCDEFGHIJKLMNOPQRSTUVWXYZ"
abbrev c_SIGNS : Str := "abcdefghijklmnopqrstuvwxyz0123456789"

structure O_Question where
  f_ties : List (T3 Str Str Str)
  f_head : Tp Str
def m_law_pool_L1 : Int → (List Int) → Option (List Int) := fun d15 y8 =>
Option.bind (getI y8 (0 : Int)) fun x23 =>
Option.bind (setI y8 (0 : Int) ((((x23 * (48271 : Int)) + (d15 % (2147483647 : Int))) + (11 : Int)) % (2147483647 : Int))) fun y25 =>
if (decide (((10 : Int) ^ ((18 : Int)).toNat) ≤ (absI d15))) = true then
Option.bind (pushL y25 (absI d15)) fun y30 =>
some y30
else
some y25
def m_law_pool (x_law_script : List Int) : Option (List Int) :=
Option.bind (foldO x_law_script ([(0 : Int)] : List Int) m_law_pool_L1) fun y8 =>
some y8
def m_law_take (x_law_pool_here : List Int) (x_law_many : Int) : Option (Int × (List Int)) :=
Option.bind (Option.bind (if (decide ((1 : Int) < ((x_law_pool_here).length : Int))) = true then
Option.bind (getI x_law_pool_here (1 : Int)) fun x11 =>
some (decide (x11 < (2 : Int)))
else
some false) fun b6 =>
if b6 = true then
Option.bind (popI x_law_pool_here (1 : Int)) fun ⟨x14, y15⟩ =>
some y15
else
some x_law_pool_here) fun y1 =>
if (decide ((1 : Int) < ((y1).length : Int))) = true then
Option.bind (getI y1 (1 : Int)) fun x20 =>
Option.bind (modI x20 x_law_many) fun x22 =>
Option.bind (getI y1 (1 : Int)) fun x24 =>
Option.bind (fdivI x24 x_law_many) fun x26 =>
Option.bind (setI y1 (1 : Int) x26) fun y28 =>
some (x22, y28)
else
Option.bind (getI y1 (0 : Int)) fun x32 =>
Option.bind (setI y1 (0 : Int) ((x32 * (48271 : Int)) % (2147483647 : Int))) fun y34 =>
Option.bind (getI y34 (0 : Int)) fun x38 =>
Option.bind (getI y34 (0 : Int)) fun x40 =>
Option.bind (modI ((((x38 * (69621 : Int)) + (x40 / (7 : Int))) % (2147483629 : Int)) / (64 : Int)) x_law_many) fun x42 =>
some (x42, y34)
def m_law_word_L1 : Int → ((List Int) × Str) → Option ((List Int) × Str) := fun d23 ⟨y15, x16⟩ =>
Option.bind (m_law_take y15 (36 : Int)) fun ⟨x32, y33⟩ =>
Option.bind (getS ("abcdefghijklmnopqrstuvwxyz0123456789" : Str) x32) fun x38 =>
Option.bind (addS x16 x38) fun x40 =>
some (y33, x40)
def m_law_word (x_law_pool_here : List Int) (x_law_size : Int) : Option (Str × (List Int)) :=
Option.bind (m_law_take x_law_pool_here (26 : Int)) fun ⟨x2, y3⟩ =>
Option.bind (getS ("abcdefghijklmnopqrstuvwxyz0123456789" : Str) x2) fun x8 =>
Option.bind (rngO 0 (x_law_size - (1 : Int))) fun x11 =>
Option.bind (foldO x11 (y3, x8) m_law_word_L1) fun ⟨y15, x16⟩ =>
some (x16, y15)
def m_law_words_L1 (x_law_many : Int) (x9 : Str) (x18 : Int) (x25 : Int) (x42 : Int) (x45 : Int) : Int → (List Str) → Option (List Str) := fun d68 y60 =>
Option.bind (mulI x42 d68) fun x76 =>
Option.bind (getS ("abcdefghijklmnopqrstuvwxyz0123456789" : Str) ((x25 + x76) % (26 : Int))) fun x78 =>
Option.bind (Option.bind (if (decide (x45 = (0 : Int))) = true then
some (decide ((0 : Int) < x18))
else
some false) fun b85 =>
if b85 = true then
Option.bind (mulI x42 d68) fun x91 =>
Option.bind (getS ("abcdefghijklmnopqrstuvwxyz0123456789" : Str) ((x25 + x91) % (36 : Int))) fun x93 =>
some x93
else
some x78) fun x80 =>
if (decide (x45 = (0 : Int))) = true then
Option.bind (cutSO x9 none (some x18)) fun x96 =>
Option.bind (addS x96 x80) fun x98 =>
Option.bind (cutSO x9 (some x18) none) fun x100 =>
Option.bind (addS x98 x100) fun x102 =>
Option.bind (pushL y60 x102) fun y104 =>
some y104
else
if (decide (x45 = (1 : Int))) = true then
Option.bind (lenS x9) fun x109 =>
Option.bind (modI (x25 + d68) (x109 + (1 : Int))) fun x111 =>
Option.bind (cutSO x9 none (some x111)) fun x113 =>
Option.bind (addS x80 x113) fun x115 =>
Option.bind (pushL y60 x115) fun y117 =>
some y117
else
if (decide (x25 < (13 : Int))) = true then
Option.bind (cutSO x9 none (some (1 : Int))) fun x122 =>
Option.bind (modI (x25 + d68) x_law_many) fun x124 =>
Option.bind (mulS x122 ((1 : Int) + x124)) fun x126 =>
Option.bind (pushL y60 x126) fun y128 =>
some y128
else
Option.bind (cutSO x9 none (some (1 : Int))) fun x132 =>
Option.bind (mulI x42 d68) fun x134 =>
Option.bind (strI ((x25 - (13 : Int)) + x134)) fun x136 =>
Option.bind (addS x132 x136) fun x138 =>
Option.bind (pushL y60 x138) fun y140 =>
some y140
def m_law_words (x_law_pool_here : List Int) (x_law_many : Int) : Option ((List Str) × (List Int)) :=
Option.bind (m_law_take x_law_pool_here (5 : Int)) fun ⟨x2, y3⟩ =>
Option.bind (m_law_word y3 ((1 : Int) + x2)) fun ⟨x9, y10⟩ =>
Option.bind (lenS x9) fun x15 =>
Option.bind (m_law_take y10 (x15 + (1 : Int))) fun ⟨x18, y19⟩ =>
Option.bind (m_law_take y19 (26 : Int)) fun ⟨x25, y26⟩ =>
Option.bind (m_law_take y26 (6 : Int)) fun ⟨x36, y37⟩ =>
Option.bind (getI ((⟨[(1 : Int), (5 : Int), (7 : Int), (11 : Int), (17 : Int), (19 : Int)]⟩ : Tp Int).l) x36) fun x42 =>
Option.bind (m_law_take y37 (3 : Int)) fun ⟨x45, y46⟩ =>
Option.bind (rngO 0 x_law_many) fun x56 =>
Option.bind (foldO x56 ([] : List Str) (m_law_words_L1 x_law_many x9 x18 x25 x42 x45)) fun y60 =>
some (y60, y46)
def m_law_tables_L2 (x14 : Str) (x43 : Int) (x50 : Int) (b56 : Bool) : Int → (List Str) → Option (List Str) := fun d86 y78 =>
Option.bind (getS ("ABCDEFGHIJKLMNOPQRSTUVWXYZ" : Str) ((x50 + ((7 : Int) * d86)) % (26 : Int))) fun x94 =>
if b56 = true then
Option.bind (getS ("ABCDEFGHIJKLMNOPQRSTUVWXYZ" : Str) x50) fun x97 =>
Option.bind (mulS x97 ((1 : Int) + d86)) fun x99 =>
Option.bind (pushL y78 x99) fun y101 =>
some y101
else
Option.bind (Option.bind (lenS x14) fun x109 =>
if (decide (x109 = (2 : Int))) = true then
some (decide ((12 : Int) < x50))
else
some false) fun b105 =>
if b105 = true then
Option.bind (mulS x94 ((1 : Int) + ((x50 + d86) % (3 : Int)))) fun x113 =>
Option.bind (pushL y78 x113) fun y115 =>
some y115
else
Option.bind (cutSO x14 none (some x43)) fun x119 =>
Option.bind (addS x119 x94) fun x121 =>
Option.bind (cutSO x14 (some x43) none) fun x123 =>
Option.bind (addS x121 x123) fun x125 =>
Option.bind (pushL y78 x125) fun y127 =>
some y127
def m_law_tables_L1 : Int → ((List Int) × Str) → Option ((List Int) × Str) := fun d21 ⟨y13, x14⟩ =>
Option.bind (m_law_take y13 (26 : Int)) fun ⟨x30, y31⟩ =>
Option.bind (getS ("ABCDEFGHIJKLMNOPQRSTUVWXYZ" : Str) x30) fun x36 =>
Option.bind (addS x14 x36) fun x38 =>
some (y31, x38)
def m_law_tables (x_law_pool_here : List Int) (x_law_many : Int) : Option ((List Str) × (List Int)) :=
Option.bind (m_law_take x_law_pool_here (3 : Int)) fun ⟨x2, y3⟩ =>
Option.bind (rngO 0 x2) fun x9 =>
Option.bind (foldO x9 (y3, ("" : Str)) m_law_tables_L1) fun ⟨y13, x14⟩ =>
Option.bind (lenS x14) fun x40 =>
Option.bind (m_law_take y13 (x40 + (1 : Int))) fun ⟨x43, y44⟩ =>
Option.bind (m_law_take y44 (26 : Int)) fun ⟨x50, y51⟩ =>
Option.bind (if (decide (x_law_many < (4 : Int))) = true then
Option.bind (m_law_take y51 (4 : Int)) fun ⟨x63, y64⟩ =>
some (decide (x63 = (0 : Int)), y64)
else
some (false, y51)) fun ⟨b56, y58⟩ =>
Option.bind (rngO 0 x_law_many) fun x74 =>
Option.bind (foldO x74 ([] : List Str) (m_law_tables_L2 x14 x43 x50 b56)) fun y78 =>
some (y78, y58)
def m_law_ties_L1 (x_law_names : List Str) (x_law_tables_here : List Str) (x6 : Int) : Int → ((List Int) × (List (T3 Str Str Str))) → Option ((List Int) × (List (T3 Str Str Str))) := fun d29 ⟨y17, y18⟩ =>
Option.bind (m_law_take y17 ((x_law_names).length : Int)) fun ⟨x38, y39⟩ =>
Option.bind (getI x_law_names x38) fun x44 =>
Option.bind (m_law_take y39 ((x_law_names).length : Int)) fun ⟨x47, y48⟩ =>
Option.bind (getI x_law_names x47) fun x53 =>
Option.bind (Option.bind (if (decide ((((1 : Int) + x6) % (4 : Int)) = (1 : Int))) = true then
some true
else
some (decide ((((1 : Int) + x6) % (4 : Int)) = (2 : Int)))) fun b61 =>
if b61 = true then
Option.bind (modI d29 ((x_law_names).length : Int)) fun x67 =>
Option.bind (getI x_law_names x67) fun x69 =>
Option.bind (modI (d29 + (1 : Int)) ((x_law_names).length : Int)) fun x71 =>
Option.bind (getI x_law_names x71) fun x73 =>
some (x69, x73)
else
some (x44, x53)) fun ⟨x55, x56⟩ =>
Option.bind (Option.bind (if (decide ((((1 : Int) + x6) % (4 : Int)) = (3 : Int))) = true then
some (decide ((1 : Int) < ((x_law_names).length : Int)))
else
some false) fun b83 =>
if b83 = true then
Option.bind (modI d29 (((x_law_names).length : Int) - (1 : Int))) fun x89 =>
Option.bind (getI x_law_names ((1 : Int) + x89)) fun x91 =>
Option.bind (m_law_take y48 ((1 : Int) + x89)) fun ⟨x94, y95⟩ =>
Option.bind (getI x_law_names x94) fun x100 =>
some (y95, x91, x100)
else
some (y48, x55, x56)) fun ⟨y75, x76, x77⟩ =>
Option.bind (m_law_take y75 ((x_law_tables_here).length : Int)) fun ⟨x103, y104⟩ =>
Option.bind (getI x_law_tables_here x103) fun x109 =>
Option.bind (if (decide ((((1 : Int) + x6) % (4 : Int)) = (1 : Int))) = true then
some (true, y104)
else
Option.bind (m_law_take y104 (2 : Int)) fun ⟨x118, y119⟩ =>
some (decide (x118 = (0 : Int)), y119)) fun ⟨b111, y113⟩ =>
if b111 = true then
Option.bind (pushL y18 (⟨x109, x76, x77⟩ : T3 Str Str Str)) fun y129 =>
some (y113, y129)
else
Option.bind (pushL y18 (⟨x109, x77, x76⟩ : T3 Str Str Str)) fun y138 =>
some (y113, y138)
def m_law_ties (x_law_pool_here : List Int) (x_law_names : List Str) (x_law_tables_here : List Str) (x_law_many : Int) : Option ((List (T3 Str Str Str)) × (List Int)) :=
Option.bind (m_law_take x_law_pool_here (4 : Int)) fun ⟨x6, y7⟩ =>
Option.bind (rngO 0 x_law_many) fun x13 =>
Option.bind (foldO x13 (y7, ([] : List (T3 Str Str Str))) (m_law_ties_L1 x_law_names x_law_tables_here x6)) fun ⟨y17, y18⟩ =>
some (y18, y17)
def m_law_met_L2 : Str → (List Str) → Option (List Str) := fun d39 y32 =>
if (!decide (d39 ∈ y32)) = true then
Option.bind (pushL y32 d39) fun y48 =>
some y48
else
some y32
def m_law_met_L1 : (T3 Str Str Str) → (List Str) → Option (List Str) := fun d16 y8 =>
Option.bind (foldO ([d16.b, d16.c]) y8 m_law_met_L2) fun y32 =>
some y32
def m_law_met (x_law_ties_here : List (T3 Str Str Str)) : Option (List Str) :=
Option.bind (foldO x_law_ties_here ([] : List Str) m_law_met_L1) fun y8 =>
some y8
def m_law_head_L1 (x2 : List Str) : Int → ((List Int) × (List Str)) → Option ((List Int) × (List Str)) := fun d59 ⟨y51, y52⟩ =>
Option.bind (m_law_take y51 ((x2).length : Int)) fun ⟨x68, y69⟩ =>
Option.bind (getI x2 x68) fun x74 =>
Option.bind (pushL y52 x74) fun y76 =>
some (y69, y76)
def m_law_head (x_law_pool_here : List Int) (x_law_ties_here : List (T3 Str Str Str)) : Option ((List Str) × (List Int)) :=
Option.bind (m_law_met x_law_ties_here) fun x2 =>
Option.bind (Option.bind (if (!decide (x2 = ([] : List Str))) = true then
Option.bind (m_law_take x_law_pool_here (2 : Int)) fun ⟨x30, y31⟩ =>
some (decide (x30 = (1 : Int)), y31)
else
some (false, x_law_pool_here)) fun ⟨b19, y21⟩ =>
if b19 = true then
Option.bind (m_law_take y21 (5 : Int)) fun ⟨x40, y41⟩ =>
Option.bind (rngO 0 x40) fun x47 =>
Option.bind (foldO x47 (y41, ([] : List Str)) (m_law_head_L1 x2)) fun ⟨y51, y52⟩ =>
some (y51, y52)
else
some (y21, ([] : List Str))) fun ⟨y12, y13⟩ =>
some (y13, y12)
def m_law_question (x_law_pool_here : List Int) (x_law_most : Int) : Option ((L2' (List (T3 Str Str Str)) (List Str)) × (List Int)) :=
Option.bind (m_law_take x_law_pool_here x_law_most) fun ⟨x2, y3⟩ =>
Option.bind (modI ((2 : Int) + x2) x_law_most) fun x8 =>
Option.bind (m_law_words y3 ((1 : Int) + x8)) fun ⟨x11, y12⟩ =>
Option.bind (m_law_take y12 (4 : Int)) fun ⟨x19, y20⟩ =>
Option.bind (m_law_tables y20 ((1 : Int) + x19)) fun ⟨x26, y27⟩ =>
Option.bind (m_law_take y27 (8 : Int)) fun ⟨x34, y35⟩ =>
Option.bind (Option.bind (m_law_take y35 (4 : Int)) fun ⟨x47, y48⟩ =>
if (decide (x47 = (1 : Int))) = true then
Option.bind (m_law_take y48 (13 : Int)) fun ⟨x55, y56⟩ =>
some (y56, x55)
else
some (y48, (((3 : Int) + x34) % (8 : Int)))) fun ⟨y40, x41⟩ =>
Option.bind (m_law_ties y40 x11 x26 x41) fun ⟨x62, y63⟩ =>
Option.bind (m_law_head y63 x62) fun ⟨x70, y71⟩ =>
some ((⟨x62, x70⟩ : L2' (List (T3 Str Str Str)) (List Str)), y71)
def m_law_rank_T_L1 : (T3 Str Str Str) → (List (T3 Str Str Str)) → Option (List (T3 Str Str Str)) := fun d15 y8 =>
if (!decide (d15 ∈ y8)) = true then
Option.bind (pushL y8 d15) fun y25 =>
some y25
else
some y8
def m_law_rank_T (x_law_things : List (T3 Str Str Str)) : Option (List (T3 Str Str Str)) :=
Option.bind (foldO x_law_things ([] : List (T3 Str Str Str)) m_law_rank_T_L1) fun y8 =>
Option.bind (sortO y8) fun y31 =>
some y31
def m_law_text_C1 (d17 : T3 Str Str Str) : Option (Option Str) :=
Option.bind (addS d17.a (("(" : Str))) fun x19 =>
Option.bind (addS x19 d17.b) fun x21 =>
Option.bind (addS x21 (", " : Str)) fun x23 =>
Option.bind (addS x23 d17.c) fun x25 =>
Option.bind (addS x25 ((")" : Str))) fun x27 =>
some (some x27)
def m_law_text (x_law_ties_here : List (T3 Str Str Str)) (x_law_head_here : List Str) : Option Str :=
Option.bind (joinO (", " : Str) x_law_head_here) fun x1 =>
Option.bind (addS (("(" : Str)) x1) fun x3 =>
Option.bind (addS x3 ((") <-" : Str))) fun x5 =>
Option.bind (compO x_law_ties_here m_law_text_C1) fun y7 =>
if (decide (y7 = ([] : List Str))) = true then
some x5
else
Option.bind (addS x5 (" " : Str)) fun x40 =>
Option.bind (joinO (", " : Str) y7) fun x42 =>
Option.bind (addS x40 x42) fun x44 =>
some x44
def m_is_table_C1 (d23 : Str) : Option (Option Bool) :=
Option.bind (inS d23 c_CAPITALS) fun x24 =>
some (some x24)
def m_is_table (x_text : Str) : Option Bool :=
Option.bind (Option.bind (Option.bind (lenS x_text) fun x7 =>
if (decide ((1 : Int) ≤ x7)) = true then
some (decide (x7 ≤ (3 : Int)))
else some false) fun b5 =>
if b5 = true then
Option.bind (signsO x_text) fun x12 =>
Option.bind (compO x12 m_is_table_C1) fun y13 =>
some (y13.all id)
else
some false) fun b1 =>
some b1
def m_is_name_C1 (d32 : Str) : Option (Option Bool) :=
Option.bind (inS d32 c_SIGNS) fun x33 =>
some (some x33)
def m_is_name (x_text : Str) : Option Bool :=
Option.bind (Option.bind (Option.bind (lenS x_text) fun x7 =>
if (decide ((1 : Int) ≤ x7)) = true then
some (decide (x7 ≤ (6 : Int)))
else some false) fun b5 =>
if b5 = true then
Option.bind (Option.bind (getS x_text (0 : Int)) fun x15 =>
Option.bind (inS x15 c_LETTERS) fun x17 =>
if x17 = true then
Option.bind (signsO x_text) fun x21 =>
Option.bind (compO x21 m_is_name_C1) fun y22 =>
some (y22.all id)
else
some false) fun b11 =>
some b11
else
some false) fun b1 =>
some b1
def m_check_words_L2 : Str → Unit → Option Unit := fun d57 _ =>
Option.bind (m_is_name d57) fun x66 =>
if (!x66) = true then
none
else
some ()
def m_check_words_L1 : (T3 Str Str Str) → Unit → Option Unit := fun d12 _ =>
Option.bind (m_is_table d12.a) fun x27 =>
if (!x27) = true then
none
else
Option.bind (m_is_name d12.b) fun x34 =>
if (!x34) = true then
none
else
Option.bind (m_is_name d12.c) fun x41 =>
if (!x41) = true then
none
else
some ()
def m_check_words (x_ties : List (T3 Str Str Str)) (x_head : List Str) : Option Unit :=
Option.bind (foldO x_ties () m_check_words_L1) fun _ =>
Option.bind (foldO x_head () m_check_words_L2) fun _ =>
some ()
def m_ascending_T_L1 : (T3 Str Str Str) → (Dt (T3 Str Str Str) Bool) → Option (Dt (T3 Str Str Str) Bool) := fun d14 y7 =>
Option.bind (putE y7.l d14 true) fun y23 =>
some (Dt.mk y23)
def m_ascending_T (x_things : List (T3 Str Str Str)) : Option (List (T3 Str Str Str)) :=
Option.bind (foldO x_things (Dt.mk ([] : List ((T3 Str Str Str) × Bool))) m_ascending_T_L1) fun y7 =>
Option.bind (sortO (y7.l.map Prod.fst)) fun y28 =>
some y28
def m_ascending_S_L1 : Str → (Dk Str Bool) → Option (Dk Str Bool) := fun d14 y7 =>
Option.bind (putE y7.l d14 true) fun y22 =>
some (Dk.mk y22)
def m_ascending_S (x_things : List Str) : Option (List Str) :=
Option.bind (foldO x_things (Dk.mk ([] : List (Str × Bool))) m_ascending_S_L1) fun y7 =>
Option.bind (sortO (y7.l.map Prod.fst)) fun y26 =>
some y26
def m_names_of_C2 (d32 : T3 Str Str Str) : Option (Option Str) :=
some (some d32.c)
def m_names_of_C1 (d11 : T3 Str Str Str) : Option (Option Str) :=
some (some d11.b)
def m_names_of (x_ties : List (T3 Str Str Str)) : Option (List Str) :=
Option.bind (compO x_ties m_names_of_C1) fun y1 =>
Option.bind (compO x_ties m_names_of_C2) fun y22 =>
Option.bind (catL y1 y22) fun y43 =>
Option.bind (m_ascending_S y43) fun x50 =>
some x50
def m_check_head_L1 (x_names : List Str) : Str → Unit → Option Unit := fun d11 _ =>
if (!decide (d11 ∈ x_names)) = true then
none
else
some ()
def m_check_head (x_head : List Str) (x_names : List Str) (x_most : Int) : Option Unit :=
if (decide (x_most < ((x_head).length : Int))) = true then
none
else
Option.bind (foldO x_head () (m_check_head_L1 x_names)) fun _ =>
some ()
def m_Question___init___C1 (d16 : T3 Str Str Str) : Option (Option (T3 Str Str Str)) :=
some (some (⟨d16.a, d16.b, d16.c⟩ : T3 Str Str Str))
def m_Question___init__ (x_ties : List (T3 Str Str Str)) (x_head : List Str) : Option O_Question :=
Option.bind (m_check_words x_ties x_head) fun _ =>
Option.bind (compO x_ties m_Question___init___C1) fun y6 =>
Option.bind (m_ascending_T y6) fun x32 =>
Option.bind (m_names_of x32) fun x40 =>
if (decide ((12 : Int) < ((x32).length : Int))) = true then
none
else
if (decide ((6 : Int) < ((x40).length : Int))) = true then
none
else
Option.bind (m_check_head x_head x40 (4 : Int)) fun _ =>
some (⟨x32, (Tp.mk x_head)⟩ : O_Question)
def m_read_tie (x_text : Str) : Option (T3 Str Str Str) :=
Option.bind (partO x_text (("(" : Str))) fun y1 =>
Option.bind (cutSO y1.c none (some (-1 : Int))) fun x12 =>
Option.bind (splitO x12 (", " : Str)) fun y14 =>
Option.bind (fitL y14) fun _ =>
Option.bind (if (decide (y1.b = ("" : Str))) = true then
some true
else
Option.bind (if ((!(Txt.endswith y1.c ((")" : Str))))) = true then
some true
else
some (!decide (((y14).length : Int) = (2 : Int)))) fun b26 =>
some b26) fun b21 =>
if b21 = true then
none
else
Option.bind (Option.bind (m_is_table y1.a) fun x37 =>
if x37 = true then
Option.bind (Option.bind (getI y14 (0 : Int)) fun x47 =>
Option.bind (m_is_name x47) fun x50 =>
if x50 = true then
Option.bind (getI y14 (1 : Int)) fun x56 =>
Option.bind (m_is_name x56) fun x59 =>
some x59
else
some false) fun b43 =>
some b43
else
some false) fun b32 =>
if (!b32) = true then
none
else
Option.bind (getI y14 (0 : Int)) fun x65 =>
Option.bind (getI y14 (1 : Int)) fun x67 =>
some (⟨y1.a, x65, x67⟩ : T3 Str Str Str)
def m_Question_read_C2 (d108 : Str) : Option (Option (T3 Str Str Str)) :=
Option.bind (addS d108 ((")" : Str))) fun x109 =>
Option.bind (m_read_tie x109) fun x112 =>
some (some x112)
def m_Question_read_C1 (d57 : Str) : Option (Option Bool) :=
Option.bind (m_is_name d57) fun x59 =>
some (some x59)
def m_Question_read (x_text : Str) : Option O_Question :=
Option.bind (partO x_text ((") <-" : Str))) fun y1 =>
Option.bind (if (decide (y1.b = ("" : Str))) = true then
some true
else
Option.bind (if ((!(Txt.startswith y1.a (("(" : Str))))) = true then
some true
else
Option.bind (if (!decide (y1.c = ("" : Str))) = true then
some (!(Txt.startswith y1.c (" " : Str)))
else
some false) fun b22 =>
some b22) fun b17 =>
some b17) fun b12 =>
if b12 = true then
none
else
Option.bind (if (decide (y1.a = ("(" : Str))) = true then
some ([] : List Str)
else
Option.bind (cutSO y1.a (some (1 : Int)) none) fun x38 =>
Option.bind (splitO x38 (", " : Str)) fun y40 =>
Option.bind (fitL y40) fun _ =>
some y40) fun x28 =>
Option.bind (compO x28 m_Question_read_C1) fun y47 =>
if (!(y47.all id)) = true then
none
else
Option.bind (if (!decide (y1.c = ("" : Str))) = true then
Option.bind (cutSO y1.c (some (1 : Int)) none) fun x81 =>
Option.bind (splitO x81 (("), " : Str))) fun y83 =>
Option.bind (fitL y83) fun _ =>
Option.bind (starL y83) fun ⟨y90, z91⟩ =>
Option.bind (compO y90 m_Question_read_C2) fun y98 =>
Option.bind (m_read_tie z91) fun x122 =>
Option.bind (catL y98 ([x122] : List (T3 Str Str Str))) fun y132 =>
some y132
else
some ([] : List (T3 Str Str Str))) fun x72 =>
Option.bind (m_Question___init__ x72 x28) fun y145 =>
some y145
def m_Question_names (x_self : O_Question) : Option (List Str) :=
Option.bind (m_names_of x_self.f_ties) fun x5 =>
some x5
def m_law_rank_S_L1 : Str → (List Str) → Option (List Str) := fun d15 y8 =>
if (!decide (d15 ∈ y8)) = true then
Option.bind (pushL y8 d15) fun y24 =>
some y24
else
some y8
def m_law_rank_S (x_law_things : List Str) : Option (List Str) :=
Option.bind (foldO x_law_things ([] : List Str) m_law_rank_S_L1) fun y8 =>
Option.bind (sortO y8) fun y28 =>
some y28
def m_Question_tables_C1 (d14 : T3 Str Str Str) : Option (Option Str) :=
some (some d14.a)
def m_Question_tables (x_self : O_Question) : Option (List Str) :=
Option.bind (compO x_self.f_ties m_Question_tables_C1) fun y4 =>
Option.bind (m_ascending_S y4) fun x21 =>
some x21
@[irreducible] def m_Question_head (x_self : O_Question) : Option (Tp Str) :=
some x_self.f_head
def m_law_same_Q_L2 (x_law_actual : List (Tp Str)) (x_law_expected : List (Tp Str)) (d20 : Int) : Int → Unit → Option (Fl (Bool) (Unit)) := fun d64 _ =>
Option.bind (getI x_law_actual d20) fun x72 =>
Option.bind (getI x72.l d64) fun x76 =>
Option.bind (if (!true) = true then
some true
else
Option.bind (getI x_law_expected d20) fun x83 =>
Option.bind (getI x83.l d64) fun x87 =>
some (!decide (x76 = x87))) fun b78 =>
if b78 = true then
some (.ret false)
else
some (.go ())
def m_law_same_Q_L1 (x_law_actual : List (Tp Str)) (x_law_expected : List (Tp Str)) : Int → Unit → Option (Fl (Bool) (Unit)) := fun d20 _ =>
Option.bind (Option.bind (getI x_law_actual d20) fun x32 =>
if (!true) = true then
some true
else
Option.bind (getI x_law_actual d20) fun x38 =>
Option.bind (getI x_law_expected d20) fun x42 =>
some (!decide (((x38.l).length : Int) = ((x42.l).length : Int)))) fun b28 =>
if b28 = true then
some (.ret false)
else
Option.bind (getI x_law_expected d20) fun x48 =>
Option.bind (rngO 0 ((x48.l).length : Int)) fun x53 =>
Option.bind (loopO x53 () (m_law_same_Q_L2 x_law_actual x_law_expected d20)) fun r => match r with
| .ret v => some (.ret v)
| .brk _ => none
| .go _ =>
some (.go ())
def m_law_same_Q (x_law_actual : List (Tp Str)) (x_law_expected : List (Tp Str)) : Option Bool :=
Option.bind (if (!true) = true then
some true
else
some (!decide (((x_law_actual).length : Int) = ((x_law_expected).length : Int)))) fun b1 =>
if b1 = true then
some false
else
Option.bind (rngO 0 ((x_law_expected).length : Int)) fun x8 =>
Option.bind (loopO x8 () (m_law_same_Q_L1 x_law_actual x_law_expected)) fun r => match r with
| .ret v => some v
| .brk _ => none
| .go _ =>
some true
def m_Question_ties (x_self : O_Question) : Option (List (T3 Str Str Str)) :=
some x_self.f_ties
def m_law_same_T_L2 (x_law_actual : List (T3 Str Str Str)) (x_law_expected : List (T3 Str Str Str)) (d20 : Int) : Int → Unit → Option (Fl (Bool) (Unit)) := fun d64 _ =>
Option.bind (getI x_law_actual d20) fun x72 =>
Option.bind (getI [x72.a, x72.b, x72.c] d64) fun x76 =>
Option.bind (if (!true) = true then
some true
else
Option.bind (getI x_law_expected d20) fun x83 =>
Option.bind (getI [x83.a, x83.b, x83.c] d64) fun x87 =>
some (!decide (x76 = x87))) fun b78 =>
if b78 = true then
some (.ret false)
else
some (.go ())
def m_law_same_T_L1 (x_law_actual : List (T3 Str Str Str)) (x_law_expected : List (T3 Str Str Str)) : Int → Unit → Option (Fl (Bool) (Unit)) := fun d20 _ =>
Option.bind (Option.bind (getI x_law_actual d20) fun x32 =>
if (!true) = true then
some true
else
Option.bind (getI x_law_actual d20) fun x38 =>
Option.bind (getI x_law_expected d20) fun x42 =>
some (!decide ((3 : Int) = (3 : Int)))) fun b28 =>
if b28 = true then
some (.ret false)
else
Option.bind (getI x_law_expected d20) fun x48 =>
Option.bind (rngO 0 (3 : Int)) fun x53 =>
Option.bind (loopO x53 () (m_law_same_T_L2 x_law_actual x_law_expected d20)) fun r => match r with
| .ret v => some (.ret v)
| .brk _ => none
| .go _ =>
some (.go ())
def m_law_same_T (x_law_actual : List (T3 Str Str Str)) (x_law_expected : List (T3 Str Str Str)) : Option Bool :=
Option.bind (if (!true) = true then
some true
else
some (!decide (((x_law_actual).length : Int) = ((x_law_expected).length : Int)))) fun b1 =>
if b1 = true then
some false
else
Option.bind (rngO 0 ((x_law_expected).length : Int)) fun x8 =>
Option.bind (loopO x8 () (m_law_same_T_L1 x_law_actual x_law_expected)) fun r => match r with
| .ret v => some v
| .brk _ => none
| .go _ =>
some true
def m_law_is_C1 (d42 : T3 Str Str Str) : Option (Option Str) :=
some (some d42.a)
def m_law_is (x_law_question_here : O_Question) (x_law_ties_here : List (T3 Str Str Str)) (x_law_head_here : List Str) : Option Bool :=
if (!true) = true then
some false
else
Option.bind (m_Question_names x_law_question_here) fun x3 =>
Option.bind (m_law_met x_law_ties_here) fun x10 =>
Option.bind (m_law_rank_S x10) fun x17 =>
if (!decide (x3 = x17)) = true then
some false
else
Option.bind (m_Question_tables x_law_question_here) fun x26 =>
Option.bind (compO x_law_ties_here m_law_is_C1) fun y32 =>
Option.bind (m_law_rank_S y32) fun x49 =>
if (!decide (x26 = x49)) = true then
some false
else
Option.bind (m_Question_head x_law_question_here) fun x58 =>
Option.bind (m_law_same_Q ([x58] : List (Tp Str)) ([(Tp.mk x_law_head_here)] : List (Tp Str))) fun x77 =>
if (!x77) = true then
some false
else
Option.bind (m_Question_ties x_law_question_here) fun x85 =>
Option.bind (m_law_rank_T x_law_ties_here) fun x92 =>
Option.bind (m_law_same_T x85 x92) fun x99 =>
some x99
def m_write_tie (x_tie : T3 Str Str Str) : Option Str :=
Option.bind (addS ("" : Str) x_tie.a) fun z6 =>
Option.bind (addS z6 ("(" : Str)) fun z8 =>
Option.bind (addS z8 x_tie.b) fun z10 =>
Option.bind (addS z10 (", " : Str)) fun z12 =>
Option.bind (addS z12 x_tie.c) fun z14 =>
Option.bind (addS z14 (")" : Str)) fun z16 =>
some z16
def m_Question___str___C1 (d29 : T3 Str Str Str) : Option (Option Str) :=
Option.bind (m_write_tie d29) fun x32 =>
some (some x32)
def m_Question___str__ (x_self : O_Question) : Option Str :=
Option.bind (joinO (", " : Str) x_self.f_head.l) fun x4 =>
Option.bind (if (decide ((0 : Int) < ((x_self.f_ties).length : Int))) = true then
some (" " : Str)
else
some ("" : Str)) fun x6 =>
Option.bind (compO x_self.f_ties m_Question___str___C1) fun y19 =>
Option.bind (joinO (", " : Str) y19) fun x41 =>
Option.bind (addS ("" : Str) ("(" : Str)) fun z43 =>
Option.bind (addS z43 x4) fun z45 =>
Option.bind (addS z45 (") <-" : Str)) fun z47 =>
Option.bind (addS z47 x6) fun z49 =>
Option.bind (addS z49 x41) fun z51 =>
some z51
def m_check_words_i1_L2 : Str → Unit → Option Unit := fun d57 _ =>
Option.bind (m_is_name d57) fun x66 =>
if (!x66) = true then
none
else
some ()
def m_check_words_i1_L1 : (T3 Str Str Str) → Unit → Option Unit := fun d12 _ =>
Option.bind (m_is_table d12.a) fun x27 =>
if (!x27) = true then
none
else
Option.bind (m_is_name d12.b) fun x34 =>
if (!x34) = true then
none
else
Option.bind (m_is_name d12.c) fun x41 =>
if (!x41) = true then
none
else
some ()
def m_check_words_i1 (x_ties : List (T3 Str Str Str)) (x_head : Tp Str) : Option Unit :=
Option.bind (foldO x_ties () m_check_words_i1_L1) fun _ =>
Option.bind (foldO x_head.l () m_check_words_i1_L2) fun _ =>
some ()
def m_check_head_i1_L1 (x_names : List Str) : Str → Unit → Option Unit := fun d11 _ =>
if (!decide (d11 ∈ x_names)) = true then
none
else
some ()
def m_check_head_i1 (x_head : Tp Str) (x_names : List Str) (x_most : Int) : Option Unit :=
if (decide (x_most < ((x_head.l).length : Int))) = true then
none
else
Option.bind (foldO x_head.l () (m_check_head_i1_L1 x_names)) fun _ =>
some ()
def m_Question_head_setter (x_self : O_Question) (x_names : Tp Str) : Option O_Question :=
Option.bind (m_check_words_i1 ([] : List (T3 Str Str Str)) x_names) fun _ =>
Option.bind (m_Question_names x_self) fun x11 =>
Option.bind (m_check_head_i1 x_names x11 (4 : Int)) fun _ =>
some (⟨x_self.f_ties, x_names⟩ : O_Question)
def m_Question_ask (x_self : O_Question) (x_names : Tp Str) : Option O_Question :=
Option.bind (m_Question_head_setter x_self x_names) fun y2 =>
some y2
def m_law_L1 (x9 : L2' (List (T3 Str Str Str)) (List Str)) (y31 : List (T3 Str Str Str)) (x47 : Str) : Str → Unit → Option (Fl (Bool) (Unit)) := fun d90 _ =>
Option.bind (m_Question_read d90) fun x99 =>
Option.bind (Option.bind (m_law_is x99 y31 x9.b) fun x110 =>
if (!x110) = true then
some true
else
Option.bind (m_Question___str__ x99) fun x118 =>
some (!decide (x118 = x47))) fun b105 =>
if b105 = true then
some (.ret false)
else
Option.bind (m_Question_ask x99 (Tp.mk ([] : List Str))) fun y131 =>
Option.bind (m_Question_read d90) fun x137 =>
Option.bind (m_law_is x137 y31 x9.b) fun x144 =>
if (!x144) = true then
some (.ret false)
else
some (.go ())
def m_law (x_law_script : List Int) : Option Bool :=
Option.bind (m_law_pool x_law_script) fun x2 =>
Option.bind (m_law_question x2 (6 : Int)) fun ⟨x9, y10⟩ =>
Option.bind (m_law_take y10 (4 : Int)) fun ⟨x21, y22⟩ =>
Option.bind (catL x9.a (cutL x9.a none (some x21))) fun y31 =>
Option.bind (m_law_rank_T y31) fun x40 =>
Option.bind (m_law_text x40 x9.b) fun x47 =>
Option.bind (m_Question___init__ y31 x9.b) fun y65 =>
Option.bind (m_law_text y31 x9.b) fun x71 =>
Option.bind (loopO ([x47, x71]) () (m_law_L1 x9 y31 x47)) fun r => match r with
| .ret v => some v
| .brk _ => none
| .go _ =>
Option.bind (m_Question___str__ y65) fun x153 =>
if (!decide (x153 = x47)) = true then
some false
else
Option.bind (m_Question_ask y65 (Tp.mk ([] : List Str))) fun y165 =>
Option.bind (m_Question___str__ y165) fun x171 =>
Option.bind (m_law_rank_T y31) fun x177 =>
Option.bind (m_law_text x177 ([] : List Str)) fun x188 =>
some (decide (x171 = x188))
end My

namespace My
open PySem FB

/-! ### the pool -/
def PO (p : List Int) : Prop := 1 ≤ p.length ∧ p.length ≤ 100
theorem ix0 (n : Nat) : ixI (n + 1) 0 = some 0 := by
  unfold ixI; rw [if_pos (by omega), if_pos (by omega)]; rfl
theorem ix1 (n : Nat) : ixI (n + 2) 1 = some 1 := by
  unfold ixI; rw [if_pos (by omega), if_pos (by omega)]; rfl
theorem getI0 (a : Int) (l : List Int) : getI (a :: l) 0 = some a := by
  unfold getI; rw [List.length_cons, ix0]; rfl
theorem getI1 (a b : Int) (l : List Int) : getI (a :: b :: l) 1 = some b := by
  unfold getI; rw [List.length_cons, List.length_cons, ix1]; rfl
theorem setI0 (a v : Int) (l : List Int) : setI (a :: l) 0 v = some (v :: l) := by
  unfold setI; rw [List.length_cons, ix0]; rfl
theorem setI1 (a b v : Int) (l : List Int) : setI (a :: b :: l) 1 v = some (a :: v :: l) := by
  unfold setI; rw [List.length_cons, List.length_cons, ix1]; rfl
theorem popI1 (a b : Int) (l : List Int) : popI (a :: b :: l) 1 = some (b, a :: l) := by
  unfold popI; rw [List.length_cons, List.length_cons, ix1]; rfl
theorem modI_pos {a b : Int} (h : 0 < b) : modI a b = some (a % b) := if_pos h
theorem fdivI_pos {a b : Int} (h : 0 < b) (h' : b < 1073741824) : fdivI a b = some (a / b) := if_pos ⟨h, h'⟩
theorem take_ok {p : List Int} {n : Int} (h : PO p) (h0 : 0 < n) (h1 : n < 1073741824) : ∃ k p', m_law_take p n = some (k, p') ∧ 0 ≤ k ∧ k < n ∧ PO p' := by
  have hm := fun a : Int => Int.emod_nonneg a (show n ≠ 0 by omega)
  have hl := fun a : Int => Int.emod_lt_of_pos a h0
  -- behind the first if
  have two : ∀ p : List Int, PO p → ∃ k p', (if (decide ((1 : Int) < ((p).length : Int))) = true then
      Option.bind (getI p (1 : Int)) fun x20 =>
      Option.bind (modI x20 n) fun x22 =>
      Option.bind (getI p (1 : Int)) fun x24 =>
      Option.bind (fdivI x24 n) fun x26 =>
      Option.bind (setI p (1 : Int) x26) fun y28 =>
      some (x22, y28)
      else
      Option.bind (getI p (0 : Int)) fun x32 =>
      Option.bind (setI p (0 : Int) ((x32 * (48271 : Int)) % (2147483647 : Int))) fun y34 =>
      Option.bind (getI y34 (0 : Int)) fun x38 =>
      Option.bind (getI y34 (0 : Int)) fun x40 =>
      Option.bind (modI ((((x38 * (69621 : Int)) + (x40 / (7 : Int))) % (2147483629 : Int)) / (64 : Int)) n) fun x42 =>
      some (x42, y34)) = some (k, p') ∧ 0 ≤ k ∧ k < n ∧ PO p' := by
    intro p h
    match p, h with
    | [a], h =>
      simp only [List.length_singleton, setI0, getI0, Option.bind_some, modI_pos h0]
      exact ⟨_, _, rfl, hm _, hl _, by simp [PO]⟩
    | a :: b :: l, h =>
      have hc : decide ((1 : Int) < ((a :: b :: l).length : Int)) = true := by simp; omega
      rw [if_pos hc]
      simp only [setI1, getI1, Option.bind_some, modI_pos h0, fdivI_pos h0 h1]
      exact ⟨_, _, rfl, hm _, hl _, by simpa [PO] using h⟩
  unfold m_law_take
  match p, h with
  | [a], h =>
    simp only [List.length_singleton, Option.bind_some]
    exact two [a] h
  | a :: b :: l, h =>
    have hc : decide ((1 : Int) < ((a :: b :: l).length : Int)) = true := by simp; omega
    rw [if_pos hc]
    simp only [getI1, popI1, Option.bind_some]
    by_cases hb : b < 2
    · rw [if_pos (by simpa using hb)]
      exact two (a :: l) (by simp [PO] at h ⊢; omega)
    · rw [if_neg (by simpa using hb)]
      exact two (a :: b :: l) h
theorem pool_turn (d : Int) (p : List Int) (h : 1 ≤ p.length ∧ p.length < 90) : ∃ p', m_law_pool_L1 d p = some p' ∧ 1 ≤ p'.length ∧ p'.length ≤ p.length + 1 := by
  match p, h with
  | a :: l, h =>
    simp only [m_law_pool_L1, getI0, setI0, Option.bind_some]
    split
    · have e : pushL (((a * 48271 + d % 2147483647 + 11) % 2147483647) :: l) (absI d) = some ((((a * 48271 + d % 2147483647 + 11) % 2147483647) :: l) ++ [absI d]) := if_pos (by simp [LINE] at h ⊢; omega)
      rw [e]
      exact ⟨_, rfl, by simp, by simp⟩
    · exact ⟨_, rfl, by simp, by simp⟩
theorem pool_fold : ∀ (ns : List Int) (p : List Int), 1 ≤ p.length → p.length + ns.length < 90 → ∃ p', foldO ns p m_law_pool_L1 = some p' ∧ 1 ≤ p'.length ∧ p'.length ≤ p.length + ns.length
  | [], p, h1, h2 => ⟨p, rfl, h1, by simp⟩
  | n :: ns, p, h1, h2 => by
    simp only [List.length_cons] at h2
    obtain ⟨p1, e1, a1, b1⟩ := pool_turn n p ⟨h1, by omega⟩
    obtain ⟨p2, e2, a2, b2⟩ := pool_fold ns p1 a1 (by omega)
    exact ⟨p2, by rw [foldO, e1]; exact e2, a2, by simp only [List.length_cons]; omega⟩
theorem pool_ok {ns : List Int} (h : ns.length ≤ 63) : ∃ p, m_law_pool ns = some p ∧ PO p := by
  obtain ⟨p, e, a, b⟩ := pool_fold ns [0] (by simp) (by simp; omega)
  refine ⟨p, ?_, a, by simp at b; omega⟩
  unfold m_law_pool
  rw [e]; rfl

/-! ### texts -/
theorem addS_ok {a b : Str} (h : a.length + b.length ≤ 1000) : addS a b = some (a ++ b) := if_pos (by simp [LINE]; omega)
theorem len_app (a b : Str) : (a ++ b).length = a.length + b.length := by
  show (a.cps ++ b.cps).size = _
  rw [Array.size_append]; rfl
theorem lenS_ok {a : Str} (h : a.length ≤ 1000) : lenS a = some (a.length : Int) := if_pos (by simp [LINE]; omega)
theorem getS_ok {a : Str} {i : Int} (h : a.length ≤ 1000) (h0 : 0 ≤ i) (h1 : i < a.length) : ∃ c, a.cps.toList[i.toNat]? = some c ∧ getS a i = some ⟨#[c]⟩ := by
  have hl : a.cps.toList.length = a.length := by simp [Str.length]
  have hi : i.toNat < a.cps.toList.length := by rw [hl]; omega
  refine ⟨a.cps.toList[i.toNat], by simp, ?_⟩
  unfold getS
  rw [if_pos (by simp [LINE]; omega)]
  have e : ixI a.cps.toList.length i = some i.toNat := by
    rw [hl]; simp only [ixI]; rw [if_pos h0, if_pos h1]
  have h3 : a.cps.toList[i.toNat]? = some a.cps.toList[i.toNat] := List.getElem?_eq_getElem hi
  unfold getI
  rw [e, Option.bind_some, h3, Option.bind_some]
theorem len_one (c : Nat) : (⟨#[c]⟩ : Str).length = 1 := rfl
theorem inS_one (c : Nat) (z : Str) : inS ⟨#[c]⟩ z = some (decide (c ∈ z.cps.toList)) := if_pos rfl
theorem len_cut (z : Str) (lo hi : Option Int) : (cutS z lo hi).length ≤ z.length := by
  simp only [cutS, cutL, Str.length, List.size_toArray, List.length_take, List.length_drop, Array.length_toList]
  omega
theorem cutSO_ok {z : Str} (lo hi : Option Int) (h : z.length ≤ 1000) : cutSO z lo hi = some (cutS z lo hi) := if_pos (by simp [LINE]; omega)
theorem signsO_ok {z : Str} (h : z.length ≤ 1000) : signsO z = some (signs z) := if_pos (by simp [LINE]; omega)
theorem rngO_ok {a b : Int} (h : 0 ≤ a ∧ a ≤ 1000 ∧ 0 ≤ b ∧ b ≤ 1000) : rngO a b = some (rangeI a b) := if_pos (by simp [LINE]; omega)
theorem len_rng (a b : Int) : (rangeI a b).length = (b - a).toNat := by simp [rangeI]
theorem mem_rng {a b k : Int} (h : k ∈ rangeI a b) : a ≤ k ∧ k < b := by
  simp only [rangeI, List.mem_map, List.mem_range] at h
  obtain ⟨i, h1, rfl⟩ := h
  omega

/-- a sign drawn from a text -/
theorem pick_ok {p : List Int} {z : Str} {n : Int} (h : PO p) (hz : (z.length : Int) = n) (h0 : 0 < n) (h1 : n ≤ 1000) : ∃ k p' c, m_law_take p n = some (k, p') ∧ getS z k = some ⟨#[c]⟩ ∧ c ∈ z.cps.toList ∧ PO p' := by
  obtain ⟨k, p', e, a, b, hp⟩ := take_ok h h0 (by omega)
  obtain ⟨c, hc, e2⟩ := getS_ok (a := z) (i := k) (by omega) a (by omega)
  exact ⟨k, p', c, e, e2, List.mem_of_getElem? hc, hp⟩
theorem len36 : ((("abcdefghijklmnopqrstuvwxyz0123456789" : Str).length : Nat) : Int) = 36 := by decide +kernel
theorem len26 : ((("ABCDEFGHIJKLMNOPQRSTUVWXYZ" : Str).length : Nat) : Int) = 26 := by decide +kernel
theorem pickl_ok {p : List Int} {z : Str} {n m : Int} (h : PO p) (hz : (z.length : Int) = m) (h0 : 0 < n) (h1 : n ≤ m) (h2 : m ≤ 1000) : ∃ k p' c, m_law_take p n = some (k, p') ∧ getS z k = some ⟨#[c]⟩ ∧ c ∈ (z.cps.toList.take n.toNat) ∧ PO p' := by
  obtain ⟨k, p', e, a, b, hp⟩ := take_ok h h0 (by omega)
  obtain ⟨c, hc, e2⟩ := getS_ok (a := z) (i := k) (by omega) a (by omega)
  refine ⟨k, p', c, e, e2, ?_, hp⟩
  refine List.mem_of_getElem? (i := k.toNat) ?_
  rw [List.getElem?_take_of_lt (by omega)]
  exact hc
theorem compO_map {α β : Type} {f : α → Option (Option β)} {g : α → β} : ∀ {xs : List α}, (∀ x ∈ xs, f x = some (some (g x))) → compO xs f = some (xs.map g)
  | [], _ => rfl
  | x :: xs, h => by
    rw [compO, h x List.mem_cons_self, compO_map fun y hy => h y (List.mem_cons_of_mem _ hy)]
    rfl
/-- a search that leaves with r at the first item that fails -/
theorem loopO_all {α ρ : Type} {f : α → Unit → Option (Fl ρ Unit)} {r : ρ} {p : α → Bool} : ∀ {xs : List α}, (∀ x ∈ xs, f x () = some (if p x = true then .go () else .ret r)) → loopO xs () f = some (if xs.all p = true then .go () else .ret r)
  | [], _ => rfl
  | x :: xs, h => by
    rw [loopO, h x List.mem_cons_self, Option.bind_some]
    cases hp : p x with
    | true =>
      simp only [if_true, List.all_cons, hp, Bool.true_and]
      exact loopO_all fun y hy => h y (List.mem_cons_of_mem _ hy)
    | false => simp [List.all_cons, hp]
abbrev inn (z : Str) (c : Nat) : Bool := decide (c ∈ z.cps.toList)
theorem signs_all (t : Str) (p : Nat → Bool) (q : Str → Bool) (h : ∀ c, q ⟨#[c]⟩ = p c) : (signs t).all q = t.cps.toList.all p := by
  unfold signs
  rw [List.all_map]
  congr 1
  funext c
  exact h c
theorem mem_signs {t s : Str} (h : s ∈ signs t) : ∃ c, c ∈ t.cps.toList ∧ s = ⟨#[c]⟩ := by
  unfold signs at h
  obtain ⟨c, h1, rfl⟩ := List.mem_map.mp h
  exact ⟨c, h1, rfl⟩
/-- all([sign in z for sign in t]) -/
theorem comp_in {f : Str → Option (Option Bool)} {z : Str} (t : Str) (h : ∀ s, f s = Option.bind (inS s z) fun x => some (some x)) : ∃ l, compO (signs t) f = some l ∧ l.all id = t.cps.toList.all (inn z) := by
  refine ⟨(signs t).map fun s => inn z (s.cps.getD 0 0), compO_map fun s hs => ?_, ?_⟩
  · obtain ⟨c, _, rfl⟩ := mem_signs hs
    rw [h, inS_one]; rfl
  · rw [List.all_map]
    exact signs_all t _ _ fun c => rfl
/-- for mark in t: if mark not in z: return False -/
theorem loop_in {f : Str → Unit → Option (Fl Bool Unit)} {z : Str} (t : Str) (h : ∀ s, f s () = Option.bind (inS s z) fun x => if (!x) = true then some (.ret false) else some (.go ())) : loopO (signs t) () f = some (if t.cps.toList.all (inn z) = true then .go () else .ret false) := by
  rw [← signs_all t (inn z) (fun s => inn z (s.cps.getD 0 0)) fun c => rfl]
  refine loopO_all fun s hs => ?_
  obtain ⟨c, _, rfl⟩ := mem_signs hs
  rw [h, inS_one, Option.bind_some]
  show (if (!inn z c) = true then _ else _) = some (if inn z c = true then _ else _)
  cases inn z c <;> rfl
theorem mulS_len {x z : Str} {k : Int} (h : mulS x k = some z) : z.length = x.length * k.toNat := by
  unfold mulS at h
  split at h
  · cases h
    simp [Str.length, List.length_flatten, Nat.mul_comm]
  · cases h
end My

namespace My
open PySem FB
/-! ### words -/
abbrev Low (c : Nat) : Prop := c ∈ c_LETTERS.cps.toList
abbrev Sg (c : Nat) : Prop := c ∈ c_SIGNS.cps.toList
abbrev Cp (c : Nat) : Prop := c ∈ c_CAPITALS.cps.toList
theorem low_sg {c : Nat} (h : Low c) : Sg c := by
  have q : ∀ c ∈ c_LETTERS.cps.toList, c ∈ c_SIGNS.cps.toList := by decide +kernel
  exact q c h
/-- a word: a letter, then letters and digits -/
def Wd (l : List Nat) : Prop := ∃ c r, l = c :: r ∧ Low c ∧ ∀ d ∈ r, Sg d
def Nm (s : Str) : Prop := Wd s.cps.toList ∧ s.length ≤ 6
def Tb (s : Str) : Prop := 1 ≤ s.length ∧ s.length ≤ 3 ∧ ∀ c ∈ s.cps.toList, Cp c
theorem len_list (s : Str) : s.cps.toList.length = s.length := by simp [Str.length]
theorem app_list (a b : Str) : (a ++ b).cps.toList = a.cps.toList ++ b.cps.toList := by
  show (a.cps ++ b.cps).toList = _
  rw [Array.toList_append]
theorem cut_list (z : Str) (lo hi : Option Int) : (cutS z lo hi).cps.toList = cutL z.cps.toList lo hi := by simp [cutS]
theorem wd_sg {l : List Nat} (h : Wd l) : ∀ c ∈ l, Sg c := by
  obtain ⟨c, r, rfl, h1, h2⟩ := h
  intro d hd
  rcases List.mem_cons.mp hd with rfl | hd
  · exact low_sg h1
  · exact h2 d hd
theorem wd_app {l r : List Nat} (h : Wd l) (h2 : ∀ d ∈ r, Sg d) : Wd (l ++ r) := by
  obtain ⟨c, q, rfl, h1, h3⟩ := h
  exact ⟨c, q ++ r, rfl, h1, fun d hd => (List.mem_append.mp hd).elim (h3 d) (h2 d)⟩
theorem wd_len {l : List Nat} (h : Wd l) : 1 ≤ l.length := by obtain ⟨c, r, rfl, _⟩ := h; simp
theorem is_name_ok {s : Str} (h : Nm s) : m_is_name s = some true := by
  obtain ⟨⟨c, r, e, h1, h2⟩, h3⟩ := h
  have hl := len_list s
  rw [e] at hl
  simp only [List.length_cons] at hl
  unfold m_is_name
  obtain ⟨l, e1, ea⟩ := comp_in (f := m_is_name_C1) (z := c_SIGNS) s fun s => rfl
  obtain ⟨d, hd, e0⟩ := getS_ok (a := s) (i := 0) (by omega) (by decide) (by omega)
  rw [e] at hd
  have ed : d = c := by simpa using hd.symm
  subst ed
  have hall : s.cps.toList.all (inn c_SIGNS) = true := by
    rw [e, List.all_eq_true]
    intro x hx
    rcases List.mem_cons.mp hx with rfl | hx
    · exact decide_eq_true (low_sg h1)
    · exact decide_eq_true (h2 x hx)
  simp only [lenS_ok (show s.length ≤ 1000 by omega), signsO_ok (show s.length ≤ 1000 by omega), Option.bind_some, e1, ea, e0, inS_one, hall, decide_eq_true (show (1 : Int) ≤ (s.length : Int) by omega), decide_eq_true (show (s.length : Int) ≤ 6 by omega), decide_eq_true h1, if_true]
theorem is_table_ok {s : Str} (h : Tb s) : m_is_table s = some true := by
  obtain ⟨h1, h2, h3⟩ := h
  unfold m_is_table
  obtain ⟨l, e1, ea⟩ := comp_in (f := m_is_table_C1) (z := c_CAPITALS) s fun s => rfl
  have hall : s.cps.toList.all (inn c_CAPITALS) = true := List.all_eq_true.mpr fun x hx => decide_eq_true (h3 x hx)
  simp only [lenS_ok (show s.length ≤ 1000 by omega), signsO_ok (show s.length ≤ 1000 by omega), Option.bind_some, e1, ea, hall, decide_eq_true (show (1 : Int) ≤ (s.length : Int) by omega), decide_eq_true (show (s.length : Int) ≤ 3 by omega), if_true]
/-! ### the words that are drawn -/
theorem marks_low : ∀ c ∈ (("abcdefghijklmnopqrstuvwxyz0123456789" : Str).cps.toList.take 26), Low c := by decide +kernel
theorem marks_sg : ∀ c ∈ ("abcdefghijklmnopqrstuvwxyz0123456789" : Str).cps.toList, Sg c := by decide +kernel
theorem caps_cp : ∀ c ∈ ("ABCDEFGHIJKLMNOPQRSTUVWXYZ" : Str).cps.toList, Cp c := by decide +kernel
/-- a fold whose state keeps P -/
theorem foldO_inv {α σ : Type} {f : α → σ → Option σ} (P : Nat → σ → Prop) : ∀ (xs : List α) (n : Nat) (s : σ), P n s → (∀ x ∈ xs, ∀ m s, n ≤ m → m < n + xs.length → P m s → ∃ s', f x s = some s' ∧ P (m + 1) s') → ∃ s', foldO xs s f = some s' ∧ P (n + xs.length) s'
  | [], n, s, h, _ => ⟨s, rfl, h⟩
  | x :: xs, n, s, h, ht => by
    obtain ⟨s1, e1, h1⟩ := ht x List.mem_cons_self n s (Nat.le_refl _) (by simp) h
    obtain ⟨s2, e2, h2⟩ := foldO_inv P xs (n + 1) s1 h1 fun y hy m s a b c => ht y (List.mem_cons_of_mem _ hy) m s (by omega) (by simp at b ⊢; omega) c
    exact ⟨s2, by rw [foldO, e1]; exact e2, by simp only [List.length_cons]; rw [show n + (xs.length + 1) = n + 1 + xs.length by omega]; exact h2⟩
theorem word_ok {p : List Int} {n : Int} (h : PO p) (h0 : 1 ≤ n) (h1 : n ≤ 20) : ∃ w p', m_law_word p n = some (w, p') ∧ PO p' ∧ Wd w.cps.toList ∧ (w.length : Int) = n := by
  unfold m_law_word
  obtain ⟨k, p1, c, e1, e2, hc, hp1⟩ := pickl_ok (n := 26) h len36 (by decide) (by decide) (by decide)
  simp only [e1, e2, Option.bind_some, rngO_ok (show 0 ≤ (0 : Int) ∧ (0 : Int) ≤ 1000 ∧ 0 ≤ n - 1 ∧ n - 1 ≤ 1000 by omega)]
  obtain ⟨⟨p2, w⟩, e3, h3, h4, h5⟩ := foldO_inv (f := m_law_word_L1) (fun m s => PO s.1 ∧ Wd s.2.cps.toList ∧ s.2.length = m) (rangeI 0 (n - 1)) 1 (p1, ⟨#[c]⟩) ⟨hp1, ⟨c, [], rfl, marks_low c hc, fun _ z => nomatch z⟩, rfl⟩
    (fun x hx m s hm1 hm2 hs => by
      obtain ⟨q, x⟩ := s
      obtain ⟨a1, a2, a3⟩ := hs
      rw [len_rng] at hm2
      obtain ⟨k', q', c', b1, b2, b3, b4⟩ := pick_ok a1 len36 (by decide) (by decide)
      simp only [m_law_word_L1, b1, b2, Option.bind_some]
      rw [addS_ok (by rw [len_one]; simp only at a3; omega)]
      refine ⟨_, rfl, b4, ?_, ?_⟩
      · rw [app_list]; exact wd_app a2 fun d hd => by simp at hd; subst hd; exact marks_sg _ b3
      · rw [len_app, len_one]; simp only at a3; omega)
  rw [len_rng] at h5
  simp only at h3 h4 h5
  simp only [e3, Option.bind_some]
  exact ⟨_, _, rfl, h3, h4, by omega⟩
end My

namespace My
open PySem FB
def strOkB (i : Nat) : Bool := match strI (i : Int) with | some z => decide (z.length ≤ 3) && z.cps.toList.all fun c => decide (Sg c) | none => false
theorem strOkB_all : ∀ i ∈ List.range 200, strOkB i = true := by decide +kernel
theorem strI_small {i : Int} (h0 : 0 ≤ i) (h1 : i < 200) : ∃ z, strI i = some z ∧ z.length ≤ 3 ∧ ∀ c ∈ z.cps.toList, Sg c := by
  have q := strOkB_all i.toNat (List.mem_range.mpr (by omega))
  unfold strOkB at q
  rw [show ((i.toNat : Nat) : Int) = i by omega] at q
  cases e : strI i with
  | none => rw [e] at q; cases q
  | some z =>
    rw [e] at q
    simp only [Bool.and_eq_true, decide_eq_true_eq, List.all_eq_true] at q
    exact ⟨z, rfl, q.1, q.2⟩
theorem cut_pre {α : Type} (l : List α) {p : Int} (h : 0 ≤ p) : cutL l none (some p) = l.take p.toNat := by
  show (l.drop 0).take (sixI l.length l.length (some p) - 0) = _
  have e : sixI l.length l.length (some p) = min p.toNat l.length := by
    show (if p < 0 then _ else min p.toNat l.length) = _
    rw [if_neg (by omega)]
  rw [e, List.drop_zero, Nat.sub_zero, List.take_eq_take_iff]
  omega
theorem cut_suf {α : Type} (l : List α) {p : Int} (h : 0 ≤ p) : cutL l (some p) none = l.drop p.toNat := by
  show (l.drop (sixI l.length 0 (some p))).take (l.length - sixI l.length 0 (some p)) = _
  have e : sixI l.length 0 (some p) = min p.toNat l.length := by
    show (if p < 0 then _ else min p.toNat l.length) = _
    rw [if_neg (by omega)]
  rw [e, List.take_of_length_le (by rw [List.length_drop]; omega)]
  by_cases hp : p.toNat ≤ l.length
  · rw [Nat.min_eq_left hp]
  · rw [Nat.min_eq_right (by omega), List.drop_of_length_le (Nat.le_refl _), List.drop_of_length_le (by omega)]
theorem mulI_ok {a b : Int} (h : -1000 ≤ a ∧ a ≤ 1000) : mulI a b = some (a * b) := if_pos (.inl ⟨by omega, by omega⟩)
theorem sign_low {i : Int} (h0 : 0 ≤ i) (h1 : i < 26) : ∃ c, getS ("abcdefghijklmnopqrstuvwxyz0123456789" : Str) i = some ⟨#[c]⟩ ∧ Low c := by
  obtain ⟨c, hc, e⟩ := getS_ok (a := ("abcdefghijklmnopqrstuvwxyz0123456789" : Str)) (i := i) (by decide +kernel) h0 (by rw [len36]; omega)
  refine ⟨c, e, marks_low c (List.mem_of_getElem? (i := i.toNat) ?_)⟩
  rw [List.getElem?_take_of_lt (by omega)]; exact hc
theorem sign_sg {i : Int} (h0 : 0 ≤ i) (h1 : i < 36) : ∃ c, getS ("abcdefghijklmnopqrstuvwxyz0123456789" : Str) i = some ⟨#[c]⟩ ∧ Sg c := by
  obtain ⟨c, hc, e⟩ := getS_ok (a := ("abcdefghijklmnopqrstuvwxyz0123456789" : Str)) (i := i) (by decide +kernel) h0 (by rw [len36]; omega)
  exact ⟨c, e, marks_sg c (List.mem_of_getElem? hc)⟩
theorem pushL_ok {α : Type} {l : List α} (x : α) (h : l.length ≤ 1000) : pushL l x = some (l ++ [x]) := if_pos (by simp [LINE]; omega)
theorem one_list (c : Nat) : (⟨#[c]⟩ : Str).cps.toList = [c] := rfl
theorem wd_one {c : Nat} (h : Low c) : Wd [c] := ⟨c, [], rfl, h, fun _ z => nomatch z⟩
theorem wd_take {l : List Nat} (h : Wd l) {n : Nat} (hn : 1 ≤ n) : Wd (l.take n) := by
  obtain ⟨c, r, rfl, h1, h2⟩ := h
  obtain ⟨m, rfl⟩ : ∃ m, n = m + 1 := ⟨n - 1, by omega⟩
  exact ⟨c, r.take m, rfl, h1, fun d hd => h2 d (List.mem_of_mem_take hd)⟩
theorem mulS_one {c : Nat} {k : Int} (h0 : 0 ≤ k) (h1 : k ≤ 1000) : ∃ z, mulS ⟨#[c]⟩ k = some z ∧ z.cps.toList = List.replicate k.toNat c := by
  refine ⟨_, if_pos ⟨by rw [len_one]; simp [LINE]; omega, by omega, by omega⟩, ?_⟩
  simp only [one_list]
  induction k.toNat with
  | zero => rfl
  | succ n ih => simp only [List.replicate_succ, List.flatten_cons, ih]; rfl
/-- what the five numbers of _law_words are -/
structure WA (many : Int) (b : Str) (place start step mode : Int) : Prop where
  m0 : 1 ≤ many
  m1 : many ≤ 6
  bw : Wd b.cps.toList
  bl : b.length ≤ 5
  p0 : 0 ≤ place
  p1 : place ≤ b.length
  s0 : 0 ≤ start
  s1 : start < 26
  t0 : 1 ≤ step
  t1 : step ≤ 19
theorem words_turn {many place start step mode d : Int} {b : Str} (W : WA many b place start step mode) (d0 : 0 ≤ d) (d1 : d < many) {l : List Str} (hl : l.length ≤ 100) : ∃ x, m_law_words_L1 many b place start step mode d l = some (l ++ [x]) ∧ Nm x := by
  obtain ⟨m0, m1, bw, bl, p0, p1, s0, s1, t0, t1⟩ := W
  have hb := len_list b
  have h1b := wd_len bw
  have hsd : 0 ≤ step * d ∧ step * d ≤ 95 := by
    constructor
    · exact Int.mul_nonneg (by omega) d0
    · calc step * d ≤ 19 * d := Int.mul_le_mul_of_nonneg_right t1 d0
        _ ≤ 95 := by omega
  obtain ⟨c1, e1, k1⟩ := sign_low (i := (start + step * d) % 26) (by omega) (by omega)
  obtain ⟨c2, e2, k2⟩ := sign_sg (i := (start + step * d) % 36) (by omega) (by omega)
  have nm : ∀ {x : Str} {w : List Nat}, x.cps.toList = w → Wd w → w.length ≤ 6 → Nm x := fun {x w} e h1 h2 => ⟨e ▸ h1, by rw [← len_list, e]; exact h2⟩
  unfold m_law_words_L1
  simp only [mulI_ok (show -1000 ≤ step ∧ step ≤ 1000 by omega), e1, e2, Option.bind_some]
  -- the sign
  have sg : ∃ c, (Option.bind (if (decide (mode = (0 : Int))) = true then some (decide ((0 : Int) < place)) else some false) fun b85 => if b85 = true then some (⟨#[c2]⟩ : Str) else some (⟨#[c1]⟩ : Str)) = some (⟨#[c]⟩ : Str) ∧ Sg c ∧ (place = 0 → Low c) ∧ (mode ≠ 0 → Low c) := by
    by_cases hm : mode = 0
    · by_cases hp : 0 < place
      · exact ⟨c2, by simp [hm, hp], k2, fun z => by omega, fun z => absurd hm z⟩
      · exact ⟨c1, by simp [hm, hp], low_sg k1, fun _ => k1, fun _ => k1⟩
    · exact ⟨c1, by simp [hm], low_sg k1, fun _ => k1, fun _ => k1⟩
  obtain ⟨c, ec, kc, kp, km⟩ := sg
  rw [ec]
  simp only [Option.bind_some]
  by_cases hm : mode = 0
  · rw [if_pos (decide_eq_true hm)]
    simp only [cutSO_ok _ _ (show b.length ≤ 1000 by omega), Option.bind_some]
    have l1 := len_cut b none (some place)
    have l2 := len_cut b (some place) none
    rw [addS_ok (by rw [len_one]; omega)]
    simp only [Option.bind_some]
    rw [addS_ok (by rw [len_app, len_one]; omega)]
    simp only [Option.bind_some]
    rw [pushL_ok _ (by omega)]
    refine ⟨_, rfl, nm (w := b.cps.toList.take place.toNat ++ [c] ++ b.cps.toList.drop place.toNat) ?_ ?_ ?_⟩
    · rw [app_list, app_list, cut_list, cut_list, cut_pre _ p0, cut_suf _ p0, one_list]
    · have hd : ∀ d ∈ b.cps.toList.drop place.toNat, Sg d := fun d hd => wd_sg bw d (List.mem_of_mem_drop hd)
      by_cases hp : place = 0
      · rw [hp]
        exact wd_app (l := [c]) (wd_one (kp hp)) (by simpa [hp] using hd)
      · exact wd_app (wd_app (wd_take bw (by omega)) fun d hd => by simp at hd; subst hd; exact kc) hd
    · simp only [List.length_append, List.length_take, List.length_drop, List.length_singleton]; omega
  · rw [if_neg (by simpa using hm)]
    by_cases hm1 : mode = 1
    · rw [if_pos (decide_eq_true hm1)]
      simp only [lenS_ok (show b.length ≤ 1000 by omega), Option.bind_some, modI_pos (show (0 : Int) < (b.length : Int) + 1 by omega), cutSO_ok _ _ (show b.length ≤ 1000 by omega)]
      have hq := Int.emod_nonneg (start + d) (show (b.length : Int) + 1 ≠ 0 by omega)
      have l1 := len_cut b none (some ((start + d) % ((b.length : Int) + 1)))
      rw [addS_ok (by rw [len_one]; omega)]
      simp only [Option.bind_some]
      rw [pushL_ok _ (by omega)]
      refine ⟨_, rfl, nm (w := [c] ++ b.cps.toList.take ((start + d) % ((b.length : Int) + 1)).toNat) ?_ ?_ ?_⟩
      · rw [app_list, cut_list, cut_pre _ hq, one_list]
      · exact wd_app (wd_one (km hm)) fun d hd => wd_sg bw d (List.mem_of_mem_take hd)
      · simp only [List.length_append, List.length_take, List.length_singleton]; omega
    · rw [if_neg (by simpa using hm1)]
      obtain ⟨f, r, ef, kf, kr⟩ := bw
      have first : cutS b none (some 1) = ⟨#[f]⟩ := by
        have e := cut_list b none (some 1)
        rw [cut_pre _ (by decide), ef] at e
        have e2 : (cutS b none (some 1)).cps.toList = (⟨#[f]⟩ : Str).cps.toList := e
        cases hc : cutS b none (some 1) with
        | mk a => rw [hc] at e2; exact congrArg Str.mk (Array.toList_inj.mp e2)
      by_cases hs : start < 13
      · rw [if_pos (decide_eq_true hs)]
        have hq := Int.emod_nonneg (start + d) (show many ≠ 0 by omega)
        have hq2 := Int.emod_lt_of_pos (start + d) (show 0 < many by omega)
        obtain ⟨z, ez, lz⟩ := mulS_one (c := f) (k := 1 + (start + d) % many) (by omega) (by omega)
        simp only [cutSO_ok _ _ (show b.length ≤ 1000 by omega), Option.bind_some, first, modI_pos (show 0 < many by omega), ez]
        rw [pushL_ok _ (by omega)]
        refine ⟨_, rfl, nm lz ?_ (by rw [List.length_replicate]; omega)⟩
        obtain ⟨n, en⟩ : ∃ n, (1 + (start + d) % many).toNat = n + 1 := ⟨((start + d) % many).toNat, by omega⟩
        rw [en]
        exact ⟨f, List.replicate n f, rfl, kf, fun x hx => by rw [List.eq_of_mem_replicate hx]; exact low_sg kf⟩
      · rw [if_neg (by simpa using hs)]
        obtain ⟨z, ez, z1, z2⟩ := strI_small (i := start - 13 + step * d) (by omega) (by omega)
        simp only [cutSO_ok _ _ (show b.length ≤ 1000 by omega), Option.bind_some, first, ez]
        rw [addS_ok (by rw [len_one]; omega)]
        simp only [Option.bind_some]
        rw [pushL_ok _ (by omega)]
        refine ⟨_, rfl, nm (w := [f] ++ z.cps.toList) ?_ ?_ ?_⟩
        · rw [app_list, one_list]
        · exact wd_app (wd_one kf) z2
        · rw [List.length_append, len_list, List.length_singleton]; omega
theorem getI_ok {α : Type} {l : List α} {i : Int} (h0 : 0 ≤ i) (h1 : i < l.length) : ∃ x, getI l i = some x ∧ l[i.toNat]? = some x := by
  have hi : i.toNat < l.length := by omega
  refine ⟨l[i.toNat], ?_, List.getElem?_eq_getElem hi⟩
  unfold getI ixI
  rw [if_pos h0, if_pos h1, Option.bind_some, List.getElem?_eq_getElem hi]
/-- names drawn -/
theorem words_ok {p : List Int} {many : Int} (h : PO p) (m0 : 1 ≤ many) (m1 : many ≤ 6) : ∃ l p', m_law_words p many = some (l, p') ∧ PO p' ∧ (l.length : Int) = many ∧ ∀ x ∈ l, Nm x := by
  unfold m_law_words
  obtain ⟨k1, p1, e1, a1, b1, h1⟩ := take_ok (n := 5) h (by decide) (by decide)
  obtain ⟨w, p2, e2, h2, ww, wl⟩ := word_ok (n := 1 + k1) h1 (by omega) (by omega)
  obtain ⟨k3, p3, e3, a3, b3, h3⟩ := take_ok (n := (w.length : Int) + 1) h2 (by omega) (by omega)
  obtain ⟨k4, p4, e4, a4, b4, h4⟩ := take_ok (n := 26) h3 (by decide) (by decide)
  obtain ⟨k5, p5, e5, a5, b5, h5⟩ := take_ok (n := 6) h4 (by decide) (by decide)
  obtain ⟨st, e6, hst⟩ := getI_ok (l := [(1 : Int), 5, 7, 11, 17, 19]) (i := k5) a5 (by simpa using b5)
  obtain ⟨k7, p7, e7, a7, b7, h7⟩ := take_ok (n := 3) h5 (by decide) (by decide)
  have hstm : st ∈ [(1 : Int), 5, 7, 11, 17, 19] := List.mem_of_getElem? hst
  have hst2 : 1 ≤ st ∧ st ≤ 19 := by
    simp only [List.mem_cons, List.not_mem_nil, or_false] at hstm
    omega
  have W : WA many w k3 k4 st k7 := ⟨m0, m1, ww, by omega, a3, by omega, a4, b4, hst2.1, hst2.2⟩
  obtain ⟨l, e8, g1, g2⟩ := foldO_inv (f := m_law_words_L1 many w k3 k4 st k7) (fun m l => l.length = m ∧ ∀ x ∈ l, Nm x) (rangeI 0 many) 0 [] ⟨rfl, fun _ z => nomatch z⟩ (fun x hx m s _ hm2 hs => by
    obtain ⟨q1, q2⟩ := hs
    obtain ⟨x1, x2⟩ := mem_rng hx
    rw [len_rng] at hm2
    obtain ⟨y, ey, hy⟩ := words_turn W x1 x2 (l := s) (by omega)
    exact ⟨_, ey, by simp [q1], fun z hz => (List.mem_append.mp hz).elim (q2 z) fun hz => by simp at hz; subst hz; exact hy⟩)
  rw [len_rng] at g1
  simp only [e1, e2, e3, e4, e5, e6, e7, Option.bind_some, lenS_ok (show w.length ≤ 1000 by omega), rngO_ok (show 0 ≤ (0 : Int) ∧ (0 : Int) ≤ 1000 ∧ 0 ≤ many ∧ many ≤ 1000 by omega), e8]
  exact ⟨_, _, rfl, h7, by omega, g2⟩
theorem cap_at {i : Int} (h0 : 0 ≤ i) (h1 : i < 26) : ∃ c, getS ("ABCDEFGHIJKLMNOPQRSTUVWXYZ" : Str) i = some ⟨#[c]⟩ ∧ Cp c := by
  obtain ⟨c, hc, e⟩ := getS_ok (a := ("ABCDEFGHIJKLMNOPQRSTUVWXYZ" : Str)) (i := i) (by decide +kernel) h0 (by rw [len26]; omega)
  exact ⟨c, e, caps_cp c (List.mem_of_getElem? hc)⟩
/-- tables drawn -/
theorem tables_ok {p : List Int} {many : Int} (h : PO p) (m0 : 1 ≤ many) (m1 : many ≤ 4) : ∃ l p', m_law_tables p many = some (l, p') ∧ PO p' ∧ (l.length : Int) = many ∧ ∀ x ∈ l, Tb x := by
  unfold m_law_tables
  obtain ⟨k1, p1, e1, a1, b1, h1⟩ := take_ok (n := 3) h (by decide) (by decide)
  obtain ⟨⟨p2, base⟩, e2, h2, bl, bc⟩ := foldO_inv (f := m_law_tables_L1) (fun m s => PO s.1 ∧ s.2.length = m ∧ ∀ c ∈ s.2.cps.toList, Cp c) (rangeI 0 k1) 0 (p1, ("" : Str)) ⟨h1, rfl, fun _ z => nomatch z⟩ (fun x hx m s _ hm2 hs => by
    obtain ⟨q, z⟩ := s
    obtain ⟨q1, q2, q3⟩ := hs
    rw [len_rng] at hm2
    obtain ⟨k', q', c', b1, b2, b3, b4⟩ := pick_ok q1 len26 (by decide) (by decide)
    simp only [m_law_tables_L1, b1, b2, Option.bind_some]
    rw [addS_ok (by rw [len_one]; simp only at q2; omega)]
    refine ⟨_, rfl, b4, by rw [len_app, len_one]; simp only at q2; omega, fun c hc => ?_⟩
    rw [app_list] at hc
    exact (List.mem_append.mp hc).elim (q3 c) fun hc => by simp at hc; subst hc; exact caps_cp _ b3)
  rw [len_rng] at bl
  simp only at h2 bl bc
  have bl2 : base.length ≤ 2 := by omega
  obtain ⟨k3, p3, e3, a3, b3, h3⟩ := take_ok (n := (base.length : Int) + 1) h2 (by omega) (by omega)
  obtain ⟨k4, p4, e4, a4, b4, h4⟩ := take_ok (n := 26) h3 (by decide) (by decide)
  have nest : ∃ ns p5, (if (decide (many < (4 : Int))) = true then Option.bind (m_law_take p4 (4 : Int)) fun ⟨x63, y64⟩ => some (decide (x63 = (0 : Int)), y64) else some (false, p4)) = some (ns, p5) ∧ PO p5 ∧ (ns = true → many ≤ 3) := by
    by_cases hm : many < 4
    · obtain ⟨k5, p5, e5, _, _, h5⟩ := take_ok (n := 4) h4 (by decide) (by decide)
      exact ⟨_, p5, by rw [if_pos (decide_eq_true hm), e5]; rfl, h5, fun _ => by omega⟩
    · exact ⟨false, p4, by rw [if_neg (by simpa using hm)], h4, fun z => nomatch z⟩
  obtain ⟨ns, p5, e5, h5, hns⟩ := nest
  have hbl := len_list base
  have turn : ∀ d, 0 ≤ d → d < many → ∀ l : List Str, l.length ≤ 100 → ∃ x, m_law_tables_L2 base k3 k4 ns d l = some (l ++ [x]) ∧ Tb x := by
    intro d d0 d1 l hl
    obtain ⟨c1, f1, g1⟩ := cap_at (i := (k4 + 7 * d) % 26) (by omega) (by omega)
    obtain ⟨c2, f2, g2⟩ := cap_at (i := k4) a4 b4
    have tb : ∀ {x : Str} {w : List Nat}, x.cps.toList = w → 1 ≤ w.length → w.length ≤ 3 → (∀ c ∈ w, Cp c) → Tb x := fun {x w} e h1 h2 h3 => ⟨by rw [← len_list, e]; exact h1, by rw [← len_list, e]; exact h2, e ▸ h3⟩
    unfold m_law_tables_L2
    simp only [f1, f2, Option.bind_some, lenS_ok (show base.length ≤ 1000 by omega)]
    by_cases hn : ns = true
    · rw [if_pos hn]
      have := hns hn
      obtain ⟨z, ez, lz⟩ := mulS_one (c := c2) (k := 1 + d) (by omega) (by omega)
      rw [ez, Option.bind_some, pushL_ok _ (by omega)]
      exact ⟨_, rfl, tb lz (by rw [List.length_replicate]; omega) (by rw [List.length_replicate]; omega) fun c hc => by rw [List.eq_of_mem_replicate hc]; exact g2⟩
    · rw [if_neg hn]
      by_cases hb : (if decide ((base.length : Int) = 2) = true then decide ((12 : Int) < k4) else false) = true
      · have e : (if decide ((base.length : Int) = 2) = true then some (decide ((12 : Int) < k4)) else some false) = some true := by
          by_cases h2 : (base.length : Int) = 2
          · rw [if_pos (decide_eq_true h2)] at hb ⊢; rw [hb]
          · rw [if_neg (by simpa using h2)] at hb; cases hb
        rw [e, Option.bind_some, if_pos rfl]
        obtain ⟨z, ez, lz⟩ := mulS_one (c := c1) (k := 1 + (k4 + d) % 3) (by omega) (by omega)
        rw [ez, Option.bind_some, pushL_ok _ (by omega)]
        exact ⟨_, rfl, tb lz (by rw [List.length_replicate]; omega) (by rw [List.length_replicate]; omega) fun c hc => by rw [List.eq_of_mem_replicate hc]; exact g1⟩
      · have e : (if decide ((base.length : Int) = 2) = true then some (decide ((12 : Int) < k4)) else some false) = some false := by
          by_cases h2 : (base.length : Int) = 2
          · rw [if_pos (decide_eq_true h2)] at hb ⊢
            rw [Bool.eq_false_iff.mpr hb]
          · rw [if_neg (by simpa using h2)]
        rw [e, Option.bind_some, if_neg Bool.false_ne_true]
        have l1 := len_cut base none (some k3)
        have l2 := len_cut base (some k3) none
        simp only [cutSO_ok _ _ (show base.length ≤ 1000 by omega), Option.bind_some]
        rw [addS_ok (by rw [len_one]; omega)]
        simp only [Option.bind_some]
        rw [addS_ok (by rw [len_app, len_one]; omega)]
        simp only [Option.bind_some]
        rw [pushL_ok _ (by omega)]
        refine ⟨_, rfl, tb (w := base.cps.toList.take k3.toNat ++ [c1] ++ base.cps.toList.drop k3.toNat) (by rw [app_list, app_list, cut_list, cut_list, cut_pre _ a3, cut_suf _ a3, one_list]) ?_ ?_ ?_⟩
        · simp only [List.length_append, List.length_take, List.length_drop, List.length_singleton]; omega
        · simp only [List.length_append, List.length_take, List.length_drop, List.length_singleton]; omega
        · intro c hc
          rcases List.mem_append.mp hc with hc | hc
          · rcases List.mem_append.mp hc with hc | hc
            · exact bc c (List.mem_of_mem_take hc)
            · simp at hc; subst hc; exact g1
          · exact bc c (List.mem_of_mem_drop hc)
  obtain ⟨l, e8, g1, g2⟩ := foldO_inv (f := m_law_tables_L2 base k3 k4 ns) (fun m l => l.length = m ∧ ∀ x ∈ l, Tb x) (rangeI 0 many) 0 [] ⟨rfl, fun _ z => nomatch z⟩ (fun x hx m s _ hm2 hs => by
    obtain ⟨q1, q2⟩ := hs
    obtain ⟨x1, x2⟩ := mem_rng hx
    rw [len_rng] at hm2
    obtain ⟨y, ey, hy⟩ := turn x x1 x2 s (by omega)
    exact ⟨_, ey, by simp [q1], fun z hz => (List.mem_append.mp hz).elim (q2 z) fun hz => by simp at hz; subst hz; exact hy⟩)
  rw [len_rng] at g1
  simp only [e1, e2, e3, e4, e5, Option.bind_some, lenS_ok (show base.length ≤ 1000 by omega), rngO_ok (show 0 ≤ (0 : Int) ∧ (0 : Int) ≤ 1000 ∧ 0 ≤ many ∧ many ≤ 1000 by omega), rngO_ok (show 0 ≤ (0 : Int) ∧ (0 : Int) ≤ 1000 ∧ 0 ≤ k1 ∧ k1 ≤ 1000 by omega), e8]
  exact ⟨_, _, rfl, h5, by omega, g2⟩
end My

namespace My
open PySem FB
/-! ### ties, a head, a question -/
def OkTie (T N : List Str) (t : T3 Str Str Str) : Prop := t.a ∈ T ∧ t.b ∈ N ∧ t.c ∈ N
theorem pickL {p : List Int} {l : List Str} (h : PO p) (h0 : 1 ≤ l.length) (h1 : l.length ≤ 1000) : ∃ k p' x, m_law_take p (l.length : Int) = some (k, p') ∧ getI l k = some x ∧ x ∈ l ∧ PO p' := by
  obtain ⟨k, p', e, a, b, hp⟩ := take_ok (n := (l.length : Int)) h (by omega) (by omega)
  obtain ⟨x, e2, hx⟩ := getI_ok (l := l) (i := k) a b
  exact ⟨k, p', x, e, e2, List.mem_of_getElem? hx, hp⟩
theorem getI_mem {l : List Str} {i : Int} (h0 : 0 ≤ i) (h1 : i < l.length) : ∃ x, getI l i = some x ∧ x ∈ l := by
  obtain ⟨x, e2, hx⟩ := getI_ok (l := l) h0 h1
  exact ⟨x, e2, List.mem_of_getElem? hx⟩
theorem ties_turn {N T : List Str} {mode d : Int} (hN : 1 ≤ N.length ∧ N.length ≤ 100) (hT : 1 ≤ T.length ∧ T.length ≤ 100) (d0 : 0 ≤ d) (d1 : d ≤ 1000) {p : List Int} (hp : PO p) {l : List (T3 Str Str Str)} (hl : l.length ≤ 100) :
    ∃ p' t, m_law_ties_L1 N T mode d (p, l) = some (p', l ++ [t]) ∧ PO p' ∧ OkTie T N t := by
  obtain ⟨k1, p1, x1, e1, f1, g1, h1⟩ := pickL hp hN.1 (by omega)
  obtain ⟨k2, p2, x2, e2, f2, g2, h2⟩ := pickL h1 hN.1 (by omega)
  have hn0 : (0 : Int) < (N.length : Int) := by omega
  obtain ⟨x3, f3, g3⟩ := getI_mem (l := N) (Int.emod_nonneg d (show (N.length : Int) ≠ 0 by omega)) (Int.emod_lt_of_pos d hn0)
  obtain ⟨x4, f4, g4⟩ := getI_mem (l := N) (Int.emod_nonneg (d + 1) (show (N.length : Int) ≠ 0 by omega)) (Int.emod_lt_of_pos (d + 1) hn0)
  unfold m_law_ties_L1
  simp only [e1, f1, e2, f2, Option.bind_some, modI_pos hn0, f3, f4]
  -- the two ends, first round
  have r1 : ∃ y z, (Option.bind (if (decide ((((1 : Int) + mode) % (4 : Int)) = (1 : Int))) = true then some true else some (decide ((((1 : Int) + mode) % (4 : Int)) = (2 : Int)))) fun b61 => if b61 = true then some (x3, x4) else some (x1, x2)) = some (y, z) ∧ y ∈ N ∧ z ∈ N := by
    split
    · exact ⟨x3, x4, rfl, g3, g4⟩
    · by_cases h : (((1 : Int) + mode) % (4 : Int)) = (2 : Int)
      · exact ⟨x3, x4, by simp [h], g3, g4⟩
      · exact ⟨x1, x2, by simp [h], g1, g2⟩
  obtain ⟨y, z, e3, gy, gz⟩ := r1
  rw [e3]
  simp only [Option.bind_some]
  have r2 : ∃ p3 y' z', (Option.bind (if (decide ((((1 : Int) + mode) % (4 : Int)) = (3 : Int))) = true then some (decide ((1 : Int) < ((N).length : Int))) else some false) fun b83 =>
      if b83 = true then
      Option.bind (modI d (((N).length : Int) - (1 : Int))) fun x89 =>
      Option.bind (getI N ((1 : Int) + x89)) fun x91 =>
      Option.bind (m_law_take p2 ((1 : Int) + x89)) fun ⟨x94, y95⟩ =>
      Option.bind (getI N x94) fun x100 =>
      some (y95, x91, x100)
      else
      some (p2, y, z)) = some (p3, y', z') ∧ PO p3 ∧ y' ∈ N ∧ z' ∈ N := by
    by_cases h3 : (((1 : Int) + mode) % (4 : Int)) = (3 : Int)
    · rw [if_pos (decide_eq_true h3), Option.bind_some]
      by_cases hb : (1 : Int) < ((N).length : Int)
      · rw [if_pos (decide_eq_true hb)]
        have m0 := Int.emod_nonneg d (show (N.length : Int) - 1 ≠ 0 by omega)
        have m1 := Int.emod_lt_of_pos d (show 0 < (N.length : Int) - 1 by omega)
        obtain ⟨x5, f5, g5⟩ := getI_mem (l := N) (i := 1 + d % ((N.length : Int) - 1)) (by omega) (by omega)
        obtain ⟨k6, p6, e6, a6, b6, h6⟩ := take_ok (n := 1 + d % ((N.length : Int) - 1)) h2 (by omega) (by omega)
        obtain ⟨x7, f7, g7⟩ := getI_mem (l := N) (i := k6) a6 (by omega)
        refine ⟨p6, x5, x7, ?_, h6, g5, g7⟩
        rw [modI_pos (by omega)]
        simp only [Option.bind_some, f5, e6, f7]
      · rw [if_neg (by simpa using hb)]
        exact ⟨p2, y, z, rfl, h2, gy, gz⟩
    · rw [if_neg (by simpa using h3), Option.bind_some, if_neg Bool.false_ne_true]
      exact ⟨p2, y, z, rfl, h2, gy, gz⟩
  obtain ⟨p3, y', z', e4, h3, gy', gz'⟩ := r2
  rw [e4]
  simp only [Option.bind_some]
  obtain ⟨k5, p5, x5, e5, f5, g5, h5⟩ := pickL h3 hT.1 (by omega)
  simp only [e5, f5, Option.bind_some]
  have r3 : ∃ b p6, (if (decide ((((1 : Int) + mode) % (4 : Int)) = (1 : Int))) = true then some (true, p5) else Option.bind (m_law_take p5 (2 : Int)) fun ⟨x118, y119⟩ => some (decide (x118 = (0 : Int)), y119)) = some (b, p6) ∧ PO p6 := by
    split
    · exact ⟨_, _, rfl, h5⟩
    · obtain ⟨k6, p6, e6, _, _, h6⟩ := take_ok (n := 2) h5 (by decide) (by decide)
      exact ⟨_, p6, by rw [e6]; rfl, h6⟩
  obtain ⟨b, p6, e6, h6⟩ := r3
  rw [e6]
  simp only [Option.bind_some]
  split
  · rw [pushL_ok _ (by omega)]
    exact ⟨_, _, rfl, h6, g5, gy', gz'⟩
  · rw [pushL_ok _ (by omega)]
    exact ⟨_, _, rfl, h6, g5, gz', gy'⟩
theorem ties_ok {N T : List Str} {many : Int} (hN : 1 ≤ N.length ∧ N.length ≤ 100) (hT : 1 ≤ T.length ∧ T.length ≤ 100) (d0 : 0 ≤ many) (d1 : many ≤ 90) {p : List Int} (hp : PO p) :
    ∃ l p', m_law_ties p N T many = some (l, p') ∧ PO p' ∧ (l.length : Int) = many ∧ ∀ t ∈ l, OkTie T N t := by
  unfold m_law_ties
  obtain ⟨k1, p1, e1, a1, b1, h1⟩ := take_ok (n := 4) hp (by decide) (by decide)
  obtain ⟨⟨p2, l⟩, e2, h2, g1, g2⟩ := foldO_inv (f := m_law_ties_L1 N T k1) (fun m s => PO s.1 ∧ s.2.length = m ∧ ∀ x ∈ s.2, OkTie T N x) (rangeI 0 many) 0 (p1, []) ⟨h1, rfl, fun _ z => nomatch z⟩ (fun x hx m s _ hm2 hs => by
    obtain ⟨q, l⟩ := s
    obtain ⟨q0, q1, q2⟩ := hs
    obtain ⟨x1, x2⟩ := mem_rng hx
    rw [len_rng] at hm2
    obtain ⟨p', y, ey, hp', hy⟩ := ties_turn (mode := k1) hN hT x1 (by omega) q0 (l := l) (by simp only at q1; omega)
    exact ⟨_, ey, hp', by simp only at q1; simp [q1], fun z hz => (List.mem_append.mp hz).elim (q2 z) fun hz => by simp at hz; subst hz; exact hy⟩)
  rw [len_rng] at g1
  simp only at g1 g2 h2
  simp only [e1, Option.bind_some, rngO_ok (show 0 ≤ (0 : Int) ∧ (0 : Int) ≤ 1000 ∧ 0 ≤ many ∧ many ≤ 1000 by omega), e2]
  exact ⟨_, _, rfl, h2, by omega, g2⟩
/-! distinct ones in the order of their first coming -/
def addU {α : Type} [DecidableEq α] (l : List α) (x : α) : List α := if x ∈ l then l else l ++ [x]
def uniq {α : Type} [DecidableEq α] (xs : List α) : List α := xs.foldl addU []
theorem mem_addU {α : Type} [DecidableEq α] {l : List α} {x y : α} : y ∈ addU l x ↔ y ∈ l ∨ y = x := by
  unfold addU
  split
  · rename_i h
    exact ⟨.inl, fun z => z.elim id fun e => by rw [e]; exact h⟩
  · simp
theorem nodup_addU {α : Type} [DecidableEq α] {l : List α} {x : α} (h : l.Nodup) : (addU l x).Nodup := by
  unfold addU
  split
  · exact h
  · rename_i hx
    rw [List.nodup_append]
    exact ⟨h, by simp, fun a ha b hb e => by simp at hb; subst hb; subst e; exact hx ha⟩
theorem foldU {α : Type} [DecidableEq α] : ∀ (xs l : List α), l.Nodup → (xs.foldl addU l).Nodup ∧ ∀ y, y ∈ xs.foldl addU l ↔ y ∈ l ∨ y ∈ xs
  | [], l, h => ⟨h, fun y => by simp⟩
  | x :: xs, l, h => by
    obtain ⟨h1, h2⟩ := foldU xs (addU l x) (nodup_addU h)
    refine ⟨h1, fun y => ?_⟩
    rw [List.foldl_cons, h2, mem_addU, List.mem_cons]
    exact or_assoc
theorem mem_uniq {α : Type} [DecidableEq α] {xs : List α} {y : α} : y ∈ uniq xs ↔ y ∈ xs := by
  rw [uniq, (foldU xs [] List.nodup_nil).2]; simp
theorem nodup_uniq {α : Type} [DecidableEq α] (xs : List α) : (uniq xs).Nodup := (foldU xs [] List.nodup_nil).1
theorem len_addU {α : Type} [DecidableEq α] (l : List α) (x : α) : l.length ≤ (addU l x).length ∧ (addU l x).length ≤ l.length + 1 := by
  unfold addU
  split <;> simp
theorem len_foldU {α : Type} [DecidableEq α] : ∀ (xs l : List α), (xs.foldl addU l).length ≤ l.length + xs.length
  | [], l => by simp
  | x :: xs, l => by
    have h1 := len_foldU xs (addU l x)
    have h2 := (len_addU l x).2
    rw [List.foldl_cons, List.length_cons]; omega
theorem len_uniq {α : Type} [DecidableEq α] (xs : List α) : (uniq xs).length ≤ xs.length := by
  have := len_foldU xs []
  simpa [uniq] using this
/-- distinct ones among few -/
theorem len_sub {α : Type} [DecidableEq α] : ∀ {l m : List α}, l.Nodup → (∀ x ∈ l, x ∈ m) → l.length ≤ m.length
  | [], m, _, _ => by simp
  | x :: l, m, hn, h => by
    have hx := h x List.mem_cons_self
    rw [List.nodup_cons] at hn
    have h1 : ∀ y ∈ l, y ∈ m.erase x := fun y hy => (List.mem_erase_of_ne (fun e : y = x => hn.1 (by rw [← e]; exact hy))).mpr (h y (List.mem_cons_of_mem _ hy))
    have h2 := len_sub hn.2 h1
    rw [List.length_erase_of_mem hx] at h2
    have : 1 ≤ m.length := List.length_pos_of_mem hx
    rw [List.length_cons]; omega
/-- a fold that adds what is new -/
theorem fold_uniq {α : Type} [DecidableEq α] {f : α → List α → Option (List α)} (hf : ∀ x l, f x l = if (!decide (x ∈ l)) = true then Option.bind (pushL l x) fun y => some y else some l) : ∀ (xs l : List α), l.length + xs.length ≤ 1000 → foldO xs l f = some (xs.foldl addU l)
  | [], l, _ => rfl
  | x :: xs, l, h => by
    simp only [List.length_cons] at h
    have e : f x l = some (addU l x) := by
      rw [hf]
      unfold addU
      by_cases hx : x ∈ l
      · simp [hx]
      · simp only [hx, decide_false, Bool.not_false, if_true, if_false, pushL_ok x (show l.length ≤ 1000 by omega), Option.bind_some]
    have hl := (len_addU l x).2
    rw [foldO, e, Option.bind_some, fold_uniq hf xs (addU l x) (by omega)]; rfl
theorem met_inner (l : List Str) (a b : Str) (h : l.length ≤ 900) : foldO [a, b] l m_law_met_L2 = some ([a, b].foldl addU l) := fold_uniq (fun x l => rfl) [a, b] l (by simp; omega)
def namesOf (ts : List (T3 Str Str Str)) : List Str := ts.flatMap fun t => [t.b, t.c]
theorem met_fold : ∀ (ts : List (T3 Str Str Str)) (l : List Str), l.length + 2 * ts.length ≤ 900 → foldO ts l m_law_met_L1 = some ((namesOf ts).foldl addU l)
  | [], l, _ => rfl
  | t :: ts, l, h => by
    simp only [List.length_cons] at h
    have e : m_law_met_L1 t l = some ([t.b, t.c].foldl addU l) := by
      unfold m_law_met_L1
      rw [met_inner _ _ _ (by omega)]; rfl
    have hl : ([t.b, t.c].foldl addU l).length ≤ l.length + 2 := len_foldU [t.b, t.c] l
    rw [foldO, e, Option.bind_some, met_fold ts _ (by omega)]
    show _ = some ((namesOf (t :: ts)).foldl addU l)
    unfold namesOf
    rw [List.flatMap_cons, List.foldl_append]
theorem met_ok {ts : List (T3 Str Str Str)} (h : ts.length ≤ 100) : m_law_met ts = some (uniq (namesOf ts)) := by
  unfold m_law_met
  rw [met_fold ts [] (by simp; omega)]; rfl
theorem mem_namesOf {ts : List (T3 Str Str Str)} {x : Str} : x ∈ namesOf ts ↔ ∃ t ∈ ts, x = t.b ∨ x = t.c := by
  unfold namesOf
  simp [List.mem_flatMap]
theorem len_namesOf : ∀ ts : List (T3 Str Str Str), (namesOf ts).length = 2 * ts.length
  | [] => rfl
  | t :: ts => by
    have := len_namesOf ts
    unfold namesOf at this ⊢
    rw [List.flatMap_cons, List.length_append, this]
    simp; omega
theorem head_ok {ts : List (T3 Str Str Str)} (h : ts.length ≤ 90) {p : List Int} (hp : PO p) : ∃ l p', m_law_head p ts = some (l, p') ∧ PO p' ∧ l.length ≤ 4 ∧ ∀ x ∈ l, x ∈ namesOf ts := by
  unfold m_law_head
  rw [met_ok (by omega), Option.bind_some]
  have hlen : (uniq (namesOf ts)).length ≤ 180 := by
    have := len_uniq (namesOf ts)
    have h2 := len_namesOf ts
    omega
  by_cases hm : uniq (namesOf ts) = []
  · simp only [hm, decide_true, Bool.not_true, Bool.false_eq_true, if_false, Option.bind_some]
    exact ⟨_, _, rfl, hp, by simp, fun _ z => nomatch z⟩
  · obtain ⟨k1, p1, e1, _, _, h1⟩ := take_ok (n := 2) hp (by decide) (by decide)
    simp only [decide_eq_false hm, Bool.not_false, if_true, e1, Option.bind_some]
    by_cases hk : k1 = 1
    · obtain ⟨k2, p2, e2, a2, b2, h2⟩ := take_ok (n := 5) h1 (by decide) (by decide)
      have hne : 1 ≤ (uniq (namesOf ts)).length := List.length_pos_iff.mpr hm
      obtain ⟨⟨p3, l⟩, e3, h3, g1, g2⟩ := foldO_inv (f := m_law_head_L1 (uniq (namesOf ts))) (fun m s => PO s.1 ∧ s.2.length = m ∧ ∀ x ∈ s.2, x ∈ namesOf ts) (rangeI 0 k2) 0 (p2, []) ⟨h2, rfl, fun _ z => nomatch z⟩ (fun x hx m s _ hm2 hs => by
        obtain ⟨q, l⟩ := s
        obtain ⟨q0, q1, q2⟩ := hs
        rw [len_rng] at hm2
        obtain ⟨k, p', y, ey, fy, gy, hp'⟩ := pickL q0 hne (by omega)
        simp only [m_law_head_L1, ey, fy, Option.bind_some]
        rw [pushL_ok _ (by simp only at q1; omega)]
        exact ⟨_, rfl, hp', by simp only at q1; simp [q1], fun z hz => (List.mem_append.mp hz).elim (q2 z) fun hz => by simp at hz; subst hz; exact mem_uniq.mp gy⟩)
      rw [len_rng] at g1
      simp only at g1 g2 h3
      simp only [decide_eq_true hk, if_true, e2, Option.bind_some, rngO_ok (show 0 ≤ (0 : Int) ∧ (0 : Int) ≤ 1000 ∧ 0 ≤ k2 ∧ k2 ≤ 1000 by omega), e3]
      exact ⟨_, _, rfl, h3, by omega, g2⟩
    · simp only [decide_eq_false hk, Bool.false_eq_true, if_false, Option.bind_some]
      exact ⟨_, _, rfl, h1, by simp, fun _ z => nomatch z⟩
/-- a drawn question: its ties over few names and tables, its head -/
structure QA (most : Int) (ts : List (T3 Str Str Str)) (hd : List Str) (N T : List Str) : Prop where
  n1 : (N.length : Int) ≤ most
  nN : ∀ x ∈ N, Nm x
  nT : ∀ x ∈ T, Tb x
  t4 : T.length ≤ 4
  tl : ts.length ≤ 12
  ok : ∀ t ∈ ts, OkTie T N t
  hl : hd.length ≤ 4
  hn : ∀ x ∈ hd, x ∈ namesOf ts
theorem question_ok {p : List Int} {most : Int} (h : PO p) (m0 : 1 ≤ most) (m1 : most ≤ 6) : ∃ ts hd p' N T, m_law_question p most = some (⟨ts, hd⟩, p') ∧ PO p' ∧ QA most ts hd N T := by
  unfold m_law_question
  obtain ⟨k1, p1, e1, a1, b1, h1⟩ := take_ok (n := most) h (by omega) (by omega)
  have q0 := Int.emod_nonneg (2 + k1) (show most ≠ 0 by omega)
  have q1 := Int.emod_lt_of_pos (2 + k1) (show 0 < most by omega)
  obtain ⟨N, p2, e2, h2, nl, nN⟩ := words_ok (many := 1 + (2 + k1) % most) h1 (by omega) (by omega)
  obtain ⟨k3, p3, e3, a3, b3, h3⟩ := take_ok (n := 4) h2 (by decide) (by decide)
  obtain ⟨T, p4, e4, h4, tl, nT⟩ := tables_ok (many := 1 + k3) h3 (by omega) (by omega)
  obtain ⟨k5, p5, e5, a5, b5, h5⟩ := take_ok (n := 8) h4 (by decide) (by decide)
  obtain ⟨k6, p6, e6, a6, b6, h6⟩ := take_ok (n := 4) h5 (by decide) (by decide)
  have many : ∃ p7 m, (if (decide (k6 = (1 : Int))) = true then Option.bind (m_law_take p6 (13 : Int)) fun ⟨x55, y56⟩ => some (y56, x55) else some (p6, (((3 : Int) + k5) % (8 : Int)))) = some (p7, m) ∧ PO p7 ∧ 0 ≤ m ∧ m ≤ 12 := by
    split
    · obtain ⟨k7, p7, e7, a7, b7, h7⟩ := take_ok (n := 13) h6 (by decide) (by decide)
      exact ⟨p7, k7, by rw [e7]; rfl, h7, a7, by omega⟩
    · exact ⟨p6, _, rfl, h6, by omega, by omega⟩
  obtain ⟨p7, m, e7, h7, m7, m8⟩ := many
  obtain ⟨ts, p8, e8, h8, tsl, tok⟩ := ties_ok (N := N) (T := T) (many := m) ⟨by omega, by omega⟩ ⟨by omega, by omega⟩ m7 (by omega) h7
  obtain ⟨hd, p9, e9, h9, hl, hn⟩ := head_ok (ts := ts) (by omega) h8
  simp only [e1, e2, e3, e4, e5, e6, Option.bind_some, modI_pos (show 0 < most by omega), e7, e8, e9]
  exact ⟨_, _, _, N, T, rfl, h9, by omega, nN, nT, by omega, by omega, tok, hl, hn⟩
end My

namespace My
open PySem FB
/-! ### sorts -/
theorem leK_total {α : Type} [Sk α] (a b : α) : (leK a b || leK b a) = true := by
  unfold leK
  by_cases h : (sk b).cps.toList < (sk a).cps.toList
  · have h2 : ¬ (sk a).cps.toList < (sk b).cps.toList := fun z => List.lt_irrefl _ (List.lt_trans h z)
    rw [decide_eq_false h2]; simp
  · rw [decide_eq_false h]; rfl
theorem leK_trans {α : Type} [Sk α] (a b c : α) (h1 : leK a b = true) (h2 : leK b c = true) : leK a c = true := by
  unfold leK at *
  simp only [Bool.not_eq_true', decide_eq_false_iff_not, List.not_lt] at *
  exact List.le_trans h1 h2
theorem leK_anti (a b : Str) (h1 : leK a b = true) (h2 : leK b a = true) : a = b := by
  unfold leK at *
  simp only [Bool.not_eq_true', decide_eq_false_iff_not, List.not_lt] at *
  have e : a.cps.toList = b.cps.toList := List.le_antisymm h1 h2
  obtain ⟨a⟩ := a
  obtain ⟨b⟩ := b
  exact congrArg Str.mk (Array.toList_inj.mp e)
theorem sort_same {l m : List Str} (hl : l.Nodup) (hm : m.Nodup) (h : ∀ x, x ∈ l ↔ x ∈ m) : l.mergeSort leK = m.mergeSort leK := by
  refine List.Perm.eq_of_pairwise (le := fun a b => leK a b = true) (fun a b _ _ h1 h2 => leK_anti a b h1 h2) (List.pairwise_mergeSort leK_trans leK_total l) (List.pairwise_mergeSort leK_trans leK_total m) ?_
  exact ((List.mergeSort_perm l leK).trans ((List.perm_ext_iff_of_nodup hl hm).mpr h)).trans (List.mergeSort_perm m leK).symm
theorem mem_sort {α : Type} [Sk α] {l : List α} {x : α} : x ∈ l.mergeSort leK ↔ x ∈ l := (List.mergeSort_perm l leK).mem_iff
theorem len_sort {α : Type} [Sk α] (l : List α) : (l.mergeSort leK).length = l.length := (List.mergeSort_perm l leK).length_eq
theorem nodup_sort {α : Type} [Sk α] {l : List α} (h : l.Nodup) : (l.mergeSort leK).Nodup := (List.mergeSort_perm l leK).nodup_iff.mpr h
theorem sortS_ok {l : List Str} (h : ∀ x ∈ l, x.length ≤ 1000) : sortO l = some (l.mergeSort leK) := if_pos (List.all_eq_true.mpr fun x hx => decide_eq_true (by have := h x hx; show x.length ≤ LINE; simp [LINE]; omega))
/-- texts that show short -/
def Sh (s : Str) : Prop := s.length ≤ 1000 ∧ ∀ c ∈ s.cps.toList, c < 16 ^ 8
theorem shown3 {t : T3 Str Str Str} (ha : Sh t.a) (hb : Sh t.b) (hc : Sh t.c) : (sk t).length ≤ 100000 := by
  have e : sk t = tupleText ([t.a, t.b, t.c].map reprText) := by
    show PyData.shown (.tuple [.str t.a, .str t.b, .str t.c]) = _
    simp [PyData.shown, PyData.shownAll]
  rw [e]
  have h1 := fmt_text ([t.a, t.b, t.c].map reprText)
  have h2 := fmt_piled [t.a, t.b, t.c] (fun y hy => by
    simp only [List.mem_cons, List.not_mem_nil, or_false] at hy
    rcases hy with rfl | rfl | rfl
    · exact ha.2
    · exact hb.2
    · exact hc.2)
  have h3 : fmtCost [t.a, t.b, t.c] = (10 * t.a.length + 4) + ((10 * t.b.length + 4) + ((10 * t.c.length + 4) + 0)) := by rw [fmtCost_cons, fmtCost_cons, fmtCost_cons]; rfl
  have := ha.1; have := hb.1; have := hc.1
  omega
theorem sort3_ok {l : List (T3 Str Str Str)} (h : ∀ t ∈ l, Sh t.a ∧ Sh t.b ∧ Sh t.c) : sortO l = some (l.mergeSort leK) := if_pos (List.all_eq_true.mpr fun t ht => decide_eq_true (by
  obtain ⟨a, b, c⟩ := h t ht
  have := shown3 a b c
  simp [LINE]; omega))
theorem nm_sh {s : Str} (h : Nm s) : Sh s := ⟨by have := h.2; omega, fun c hc => by
  have q : ∀ c ∈ c_SIGNS.cps.toList, c < 16 ^ 8 := by decide +kernel
  exact q c (wd_sg h.1 c hc)⟩
theorem tb_sh {s : Str} (h : Tb s) : Sh s := ⟨by have := h.2.1; omega, fun c hc => by
  have q : ∀ c ∈ c_CAPITALS.cps.toList, c < 16 ^ 8 := by decide +kernel
  exact q c (h.2.2 c hc)⟩
/-! ### ascending: a dict filled, its keys sorted -/
theorem setE_true {κ : Type} [DecidableEq κ] (ks : List κ) (k : κ) : setE (ks.map fun x => (x, true)) k true = (addU ks k).map fun x => (x, true) := by
  have hh : hasE (ks.map fun x => (x, true)) k = decide (k ∈ ks) := by
    unfold hasE
    rw [List.any_map]
    induction ks with
    | nil => simp
    | cons x ks ih =>
      rw [List.any_cons, ih]
      by_cases h : x = k <;> by_cases h2 : k ∈ ks <;> simp [h, h2, eq_comm, Function.comp] <;> (intro z; exact absurd z.symm h)
  unfold setE addU
  rw [hh]
  by_cases h : k ∈ ks
  · rw [if_pos (decide_eq_true h), if_pos h]
    rw [List.map_map]
    refine List.map_congr_left fun x _ => ?_
    simp only [Function.comp]
    split <;> rfl
  · rw [if_neg (by simpa using h), if_neg h]; simp
theorem asc_fold {κ σ : Type} [DecidableEq κ] {mk : List (κ × Bool) → σ} {un : σ → List (κ × Bool)} (hu : ∀ l, un (mk l) = l) {f : κ → σ → Option σ} (hf : ∀ k s, f k s = Option.bind (putE (un s) k true) fun y => some (mk y)) :
    ∀ (xs ks : List κ), ks.length + xs.length ≤ 1000 → foldO xs (mk (ks.map fun x => (x, true))) f = some (mk ((xs.foldl addU ks).map fun x => (x, true)))
  | [], ks, _ => rfl
  | x :: xs, ks, h => by
    simp only [List.length_cons] at h
    have hl := (len_addU ks x).2
    have e : f x (mk (ks.map fun x => (x, true))) = some (mk ((addU ks x).map fun x => (x, true))) := by
      rw [hf, hu]
      have : putE (ks.map fun x => (x, true)) x true = some (setE (ks.map fun x => (x, true)) x true) := if_pos (by rw [List.length_map]; simp [LINE]; omega)
      rw [this, setE_true]; rfl
    rw [foldO, e, Option.bind_some, asc_fold hu hf xs (addU ks x) (by omega)]; rfl
theorem keys_true {κ : Type} (ks : List κ) : (ks.map fun x => (x, true)).map Prod.fst = ks := by
  rw [List.map_map]; exact List.map_id' ks
theorem asc3 {xs : List (T3 Str Str Str)} (h : xs.length ≤ 500) : m_ascending_T xs = sortO (uniq xs) := by
  unfold m_ascending_T
  have e := asc_fold (mk := fun l => (Dt.mk l : Dt (T3 Str Str Str) Bool)) (un := Dt.l) (fun _ => rfl) (f := m_ascending_T_L1) (fun k s => rfl) xs [] (by simp; omega)
  rw [List.map_nil] at e
  rw [e, Option.bind_some]
  show Option.bind (sortO ((((xs.foldl addU []).map fun x => (x, true))).map Prod.fst)) _ = _
  rw [keys_true]
  show Option.bind (sortO (uniq xs)) _ = _
  cases sortO (uniq xs) <;> rfl
theorem ascS {xs : List Str} (h : xs.length ≤ 500) : m_ascending_S xs = sortO (uniq xs) := by
  unfold m_ascending_S
  have e := asc_fold (mk := fun l => (Dk.mk l : Dk Str Bool)) (un := Dk.l) (fun _ => rfl) (f := m_ascending_S_L1) (fun k s => rfl) xs [] (by simp; omega)
  rw [List.map_nil] at e
  rw [e, Option.bind_some]
  show Option.bind (sortO ((((xs.foldl addU []).map fun x => (x, true))).map Prod.fst)) _ = _
  rw [keys_true]
  show Option.bind (sortO (uniq xs)) _ = _
  cases sortO (uniq xs) <;> rfl
theorem rankS {xs : List Str} (h : xs.length ≤ 500) : m_law_rank_S xs = sortO (uniq xs) := by
  unfold m_law_rank_S
  rw [fold_uniq (f := m_law_rank_S_L1) (fun x l => rfl) xs [] (by simp; omega), Option.bind_some]
  show Option.bind (sortO (uniq xs)) _ = _
  cases sortO (uniq xs) <;> rfl
theorem rank3 {xs : List (T3 Str Str Str)} (h : xs.length ≤ 500) : m_law_rank_T xs = sortO (uniq xs) := by
  unfold m_law_rank_T
  rw [fold_uniq (f := m_law_rank_T_L1) (fun x l => rfl) xs [] (by simp; omega), Option.bind_some]
  show Option.bind (sortO (uniq xs)) _ = _
  cases sortO (uniq xs) <;> rfl
theorem catL_ok {α : Type} {a b : List α} (h : a.length + b.length ≤ 1000) : catL a b = some (a ++ b) := if_pos (by simp [LINE]; omega)
/-- sorted and each once -/
def srt (xs : List Str) : List Str := (uniq xs).mergeSort leK
theorem names_of_ok {ts : List (T3 Str Str Str)} (h : ts.length ≤ 200) (hs : ∀ t ∈ ts, t.b.length ≤ 1000 ∧ t.c.length ≤ 1000) : m_names_of ts = some (srt (namesOf ts)) := by
  unfold m_names_of
  rw [compO_map (f := m_names_of_C1) (g := fun t => t.b) fun x _ => rfl, compO_map (f := m_names_of_C2) (g := fun t => t.c) fun x _ => rfl]
  simp only [Option.bind_some]
  rw [catL_ok (by rw [List.length_map, List.length_map]; omega), Option.bind_some, ascS (by rw [List.length_append, List.length_map, List.length_map]; omega)]
  have hm : ∀ x, x ∈ uniq (ts.map (fun t => t.b) ++ ts.map (fun t => t.c)) ↔ x ∈ uniq (namesOf ts) := fun x => by
    rw [mem_uniq, mem_uniq, mem_namesOf, List.mem_append, List.mem_map, List.mem_map]
    constructor
    · rintro (⟨t, ht, rfl⟩ | ⟨t, ht, rfl⟩)
      · exact ⟨t, ht, .inl rfl⟩
      · exact ⟨t, ht, .inr rfl⟩
    · rintro ⟨t, ht, rfl | rfl⟩
      · exact .inl ⟨t, ht, rfl⟩
      · exact .inr ⟨t, ht, rfl⟩
  rw [sortS_ok fun x hx => by
    obtain ⟨t, ht, e⟩ := mem_namesOf.mp (mem_uniq.mp ((hm x).mp hx))
    rcases e with rfl | rfl
    · exact (hs t ht).1
    · exact (hs t ht).2]
  rw [sort_same (nodup_uniq _) (nodup_uniq _) hm]; rfl
theorem srt_same {xs ys : List Str} (h : ∀ x, x ∈ xs ↔ x ∈ ys) : srt xs = srt ys := sort_same (nodup_uniq _) (nodup_uniq _) fun x => by rw [mem_uniq, mem_uniq]; exact h x
theorem mem_srt {xs : List Str} {x : Str} : x ∈ srt xs ↔ x ∈ xs := by rw [srt, mem_sort, mem_uniq]
/-! ### the law's own comparisons -/
theorem loopO_go {α ρ : Type} {f : α → Unit → Option (Fl ρ Unit)} : ∀ {xs : List α}, (∀ x ∈ xs, f x () = some (.go ())) → loopO xs () f = some (.go ())
  | [], _ => rfl
  | x :: xs, h => by rw [loopO, h x List.mem_cons_self, Option.bind_some]; exact loopO_go fun y hy => h y (List.mem_cons_of_mem _ hy)
theorem same_ok {xs : List (T3 Str Str Str)} (h : xs.length ≤ 1000) : m_law_same_T xs xs = some true := by
  unfold m_law_same_T
  have inner : ∀ i ∈ rangeI 0 (xs.length : Int), m_law_same_T_L1 xs xs i () = some (.go ()) := fun i hi => by
    obtain ⟨i0, i1⟩ := mem_rng hi
    obtain ⟨t, e, _⟩ := getI_ok (l := xs) i0 i1
    unfold m_law_same_T_L1
    have two : ∀ j ∈ rangeI 0 3, m_law_same_T_L2 xs xs i j () = some (.go ()) := fun j hj => by
      obtain ⟨j0, j1⟩ := mem_rng hj
      obtain ⟨y, e2, _⟩ := getI_ok (l := [t.a, t.b, t.c]) j0 (by simpa using j1)
      unfold m_law_same_T_L2
      simp [e, e2]
    simp only [e, Option.bind_some]
    rw [rngO_ok (by decide), Option.bind_some, loopO_go two]
    simp
  rw [rngO_ok (by omega), Option.bind_some]
  simp [loopO_go inner]
end My

namespace My
open PySem FB
theorem head_turn {xs : List (Tp Str)} (i : Int) (t : Tp Str) (e : getI xs i = some t) (ht : t.l.length ≤ 1000) (two : ∀ j ∈ rangeI 0 (t.l.length : Int), m_law_same_Q_L2 xs xs i j () = some (.go ())) : m_law_same_Q_L1 xs xs i () = some (.go ()) := by
  have r : rngO 0 (t.l.length : Int) = some (rangeI 0 (t.l.length : Int)) := rngO_ok (by omega)
  have l := loopO_go two
  generalize hn : (t.l.length : Int) = n at r l
  unfold m_law_same_Q_L1
  rw [e]
  rw [Option.bind_some, if_neg (show ¬ ((!true) = true) by decide), Option.bind_some, Option.bind_some, hn, decide_eq_true (rfl : n = n), Option.bind_some, if_neg (show ¬ ((!true) = true) by decide), Option.bind_some, hn, r, Option.bind_some, l, Option.bind_some]
theorem head_one {xs : List (Tp Str)} (h : xs.length ≤ 1000) (h2 : ∀ x ∈ xs, x.l.length ≤ 1000) : m_law_same_Q xs xs = some true := by
  have inner : ∀ i ∈ rangeI 0 (xs.length : Int), m_law_same_Q_L1 xs xs i () = some (.go ()) := fun i hi => by
    obtain ⟨i0, i1⟩ := mem_rng hi
    obtain ⟨t, e, et⟩ := getI_ok (l := xs) i0 i1
    refine head_turn i t e (h2 t (List.mem_of_getElem? et)) fun j hj => ?_
    obtain ⟨j0, j1⟩ := mem_rng hj
    obtain ⟨y, e2, _⟩ := getI_ok (l := t.l) j0 j1
    unfold m_law_same_Q_L2
    simp [e, e2]
  unfold m_law_same_Q
  rw [rngO_ok (by omega), Option.bind_some]
  simp [loopO_go inner]
end My

namespace My
open PySem FB
theorem foldO_unit {α : Type} {f : α → Unit → Option Unit} : ∀ {xs : List α}, (∀ x ∈ xs, f x () = some ()) → foldO xs () f = some ()
  | [], _ => rfl
  | x :: xs, h => by rw [foldO, h x List.mem_cons_self, Option.bind_some]; exact foldO_unit fun y hy => h y (List.mem_cons_of_mem _ hy)
theorem not_true_ne : ¬ ((!true) = true) := by decide
/-- ties that a question takes -/
structure TA (ts : List (T3 Str Str Str)) (hd : List Str) : Prop where
  l : ts.length ≤ 100
  a : ∀ t ∈ ts, Tb t.a
  b : ∀ t ∈ ts, Nm t.b
  c : ∀ t ∈ ts, Nm t.c
  u : (uniq ts).length ≤ 12
  n : (srt (namesOf ts)).length ≤ 6
  h : hd.length ≤ 4
  hn : ∀ x ∈ hd, x ∈ namesOf ts
theorem TA.names {ts hd} (A : TA ts hd) : ∀ x ∈ namesOf ts, Nm x := fun x hx => by
  obtain ⟨t, ht, e⟩ := mem_namesOf.mp hx
  rcases e with rfl | rfl
  · exact A.b t ht
  · exact A.c t ht
theorem TA.sort3 {ts hd} (A : TA ts hd) : sortO (uniq ts) = some ((uniq ts).mergeSort leK) := sort3_ok fun t ht => by
  have ht := mem_uniq.mp ht
  exact ⟨tb_sh (A.a t ht), nm_sh (A.b t ht), nm_sh (A.c t ht)⟩
theorem TA.namesS {ts hd} (A : TA ts hd) : m_names_of ((uniq ts).mergeSort leK) = some (srt (namesOf ts)) := by
  have hm : ∀ t, t ∈ (uniq ts).mergeSort leK ↔ t ∈ ts := fun t => by rw [mem_sort, mem_uniq]
  rw [names_of_ok (by rw [len_sort]; have := A.u; omega) fun t ht => ⟨by have := (A.b t ((hm t).mp ht)).2; omega, by have := (A.c t ((hm t).mp ht)).2; omega⟩]
  refine congrArg some (srt_same fun x => ?_)
  rw [mem_namesOf, mem_namesOf]
  exact ⟨fun ⟨t, h1, h2⟩ => ⟨t, (hm t).mp h1, h2⟩, fun ⟨t, h1, h2⟩ => ⟨t, (hm t).mpr h1, h2⟩⟩
theorem check_words_ok {ts : List (T3 Str Str Str)} {hd : List Str} (A : TA ts hd) : m_check_words ts hd = some () := by
  unfold m_check_words
  rw [foldO_unit (f := m_check_words_L1) fun t ht => by
    unfold m_check_words_L1
    rw [is_table_ok (A.a t ht), Option.bind_some, if_neg not_true_ne, is_name_ok (A.b t ht), Option.bind_some, if_neg not_true_ne, is_name_ok (A.c t ht), Option.bind_some, if_neg not_true_ne]]
  rw [Option.bind_some, foldO_unit (f := m_check_words_L2) fun x hx => by
    unfold m_check_words_L2
    rw [is_name_ok (A.names x (A.hn x hx)), Option.bind_some, if_neg not_true_ne]]
  rfl
theorem check_head_ok {ts : List (T3 Str Str Str)} {hd : List Str} (A : TA ts hd) : m_check_head hd (srt (namesOf ts)) 4 = some () := by
  unfold m_check_head
  have h4 : ¬ (decide ((4 : Int) < (hd.length : Int)) = true) := by have := A.h; simp; omega
  rw [if_neg h4, foldO_unit (f := m_check_head_L1 (srt (namesOf ts))) fun x hx => by
    unfold m_check_head_L1
    rw [decide_eq_true (mem_srt.mpr (A.hn x hx)), if_neg not_true_ne]]
  rfl
theorem init_ok {ts : List (T3 Str Str Str)} {hd : List Str} (A : TA ts hd) : m_Question___init__ ts hd = some ⟨(uniq ts).mergeSort leK, Tp.mk hd⟩ := by
  unfold m_Question___init__
  have hu : ¬ (decide ((12 : Int) < (((uniq ts).mergeSort leK).length : Int)) = true) := by have := A.u; rw [len_sort]; simp; omega
  have hn : ¬ (decide ((6 : Int) < ((srt (namesOf ts)).length : Int)) = true) := by have := A.n; simp; omega
  have e6 : compO ts m_Question___init___C1 = some ts := by
    rw [compO_map (f := m_Question___init___C1) (g := fun t => t) fun t _ => rfl, List.map_id']
  have g1 := check_words_ok A
  have g2 := check_head_ok A
  rw [g1, Option.bind_some]
  show Option.bind (compO ts m_Question___init___C1) _ = _
  rw [e6, Option.bind_some, asc3 (by have := A.l; omega), A.sort3, Option.bind_some, A.namesS, Option.bind_some, if_neg hu, if_neg hn, g2]
  rfl
theorem Q_names {ts hd} (A : TA ts hd) (h : Tp Str) : m_Question_names ⟨(uniq ts).mergeSort leK, h⟩ = some (srt (namesOf ts)) := by
  unfold m_Question_names
  show Option.bind (m_names_of ((uniq ts).mergeSort leK)) _ = _
  rw [A.namesS]; rfl
theorem Q_tables {ts hd} (A : TA ts hd) (h : Tp Str) : m_Question_tables ⟨(uniq ts).mergeSort leK, h⟩ = some (srt (ts.map fun t => t.a)) := by
  unfold m_Question_tables
  show Option.bind (compO ((uniq ts).mergeSort leK) m_Question_tables_C1) _ = _
  have hm : ∀ t, t ∈ (uniq ts).mergeSort leK ↔ t ∈ ts := fun t => by rw [mem_sort, mem_uniq]
  rw [compO_map (f := m_Question_tables_C1) (g := fun t => t.a) fun t _ => rfl, Option.bind_some, ascS (by rw [List.length_map, len_sort]; have := A.u; omega)]
  rw [sortS_ok fun x hx => by
    obtain ⟨t, ht, rfl⟩ := List.mem_map.mp (mem_uniq.mp hx)
    have := (A.a t ((hm t).mp ht)).2.1
    omega]
  rw [Option.bind_some]
  refine congrArg some (sort_same (nodup_uniq _) (nodup_uniq _) fun x => ?_)
  rw [mem_uniq, mem_uniq, List.mem_map, List.mem_map]
  exact ⟨fun ⟨t, h1, h2⟩ => ⟨t, (hm t).mp h1, h2⟩, fun ⟨t, h1, h2⟩ => ⟨t, (hm t).mpr h1, h2⟩⟩
theorem srt_len {xs : List Str} : (srt xs).length ≤ xs.length := by
  rw [srt, len_sort]; exact len_uniq xs
/-- what is drawn is taken -/
theorem QA.ta {most : Int} {ts hd N T} (h : QA most ts hd N T) (hm : most ≤ 6) {ys : List (T3 Str Str Str)} (hy : ∀ t, t ∈ ys ↔ t ∈ ts) (hl : ys.length ≤ 30) : TA ys hd where
  l := by omega
  a := fun t ht => h.nT _ (h.ok t ((hy t).mp ht)).1
  b := fun t ht => h.nN _ (h.ok t ((hy t).mp ht)).2.1
  c := fun t ht => h.nN _ (h.ok t ((hy t).mp ht)).2.2
  u := Nat.le_trans (len_sub (nodup_uniq ys) fun t ht => (hy t).mp (mem_uniq.mp ht)) h.tl
  n := by
    have := len_sub (l := srt (namesOf ys)) (m := N) (nodup_sort (nodup_uniq _)) fun x hx => by
      obtain ⟨t, ht, e⟩ := mem_namesOf.mp (mem_srt.mp hx)
      rcases e with rfl | rfl
      · exact (h.ok t ((hy t).mp ht)).2.1
      · exact (h.ok t ((hy t).mp ht)).2.2
    have := h.n1
    omega
  h := h.hl
  hn := fun x hx => by
    obtain ⟨t, ht, e⟩ := mem_namesOf.mp (h.hn x hx)
    exact mem_namesOf.mpr ⟨t, (hy t).mpr ht, e⟩
theorem capL_ok {α : Type} {l : List α} (h : l.length ≤ 1000) : capL l = some () := if_pos (by simp [LINE]; omega)
end My

namespace My
open PySem FB
open PySem.StrLaws (At occ_head occ_tight ChainG partsFrom partsBetween_eq)
open PySem.Builtin.Str (occurrences subAt strSub partsBetween)
/-! ### find, partition, split -/
theorem str_ext {a b : Str} (h : a.cps.toList = b.cps.toList) : a = b := by
  obtain ⟨a⟩ := a
  obtain ⟨b⟩ := b
  exact congrArg Str.mk (Array.toList_inj.mp h)
theorem at_one {x : Str} {c i : Nat} : At x ⟨#[c]⟩ x.length i ↔ x.cps.toList[i]? = some c := PySem.StrLaws.subAt_one x c i
theorem take2 {l : List Nat} {a b i : Nat} : ((l.drop i).take 2 == [a, b]) = true ↔ l[i]? = some a ∧ l[i + 1]? = some b := by
  rw [beq_iff_eq]
  have e0 : l[i]? = (l.drop i)[0]? := by rw [List.getElem?_drop, Nat.add_zero]
  have e1 : l[i + 1]? = (l.drop i)[1]? := by rw [List.getElem?_drop]
  rw [e0, e1]
  generalize l.drop i = m
  match m with
  | [] => simp
  | [x] => simp
  | x :: y :: r => simp
theorem at_two {x : Str} {a b i : Nat} : At x ⟨#[a, b]⟩ x.length i ↔ x.cps.toList[i]? = some a ∧ x.cps.toList[i + 1]? = some b := by
  unfold At
  rw [PySem.StrLaws.subAt_eq]
  show i + 2 ≤ x.length ∧ ((x.cps.toList.drop i).take 2 == [a, b]) = true ↔ _
  rw [take2]
  constructor
  · exact fun h => h.2
  · refine fun h => ⟨?_, h⟩
    have := (List.getElem?_eq_some_iff.mp h.2).1
    rw [len_list] at this
    omega
theorem sub_list (x : Str) (i j : Nat) : (strSub x i j).cps.toList = (x.cps.toList.drop i).take (j - i) := PySem.StrLaws.strSub_toList x i j
theorem find_cases (x y : Str) : (Txt.find x y = -1 ∧ (∀ i, ¬ At x y x.length i) ∧ Txt.partition x y = (x, Str.empty, Str.empty)) ∨
    ∃ i : Nat, Txt.find x y = (i : Int) ∧ At x y x.length i ∧ (∀ k, k < i → ¬ At x y x.length k) ∧ Txt.partition x y = (strSub x 0 i, y, strSub x (i + y.length) x.length) := by
  unfold Txt.find Txt.partition
  rcases occ_head x y 1 (by decide) with ⟨e, h⟩ | ⟨i, r, e, h1, h2⟩
  · rw [e]; exact .inl ⟨rfl, h, rfl⟩
  · rw [e]; exact .inr ⟨i, rfl, h1, h2, rfl⟩
theorem find_at {x y : Str} {i : Nat} (h : At x y x.length i) (h2 : ∀ k, k < i → ¬ At x y x.length k) : Txt.find x y = (i : Int) := by
  rcases find_cases x y with ⟨_, n, _⟩ | ⟨j, e, a, b, _⟩
  · exact absurd h (n i)
  · have : j = i := by
      rcases Nat.lt_trichotomy j i with q | q | q
      · exact absurd a (h2 j q)
      · exact q
      · exact absurd h (b i q)
    rw [e, this]
/-- the shortcuts of split find nothing -/
theorem kind_no {x y : Str} (h : Builtin.Str.strKind x < Builtin.Str.strKind y) (hy : ∀ c ∈ y.cps.toList, c < 256) : False := by
  have e : Builtin.Str.strKind y = 1 := by
    unfold Builtin.Str.strKind
    rw [if_pos]
    rw [Array.all_eq_true']
    intro c hc
    exact decide_eq_true (hy c (Array.mem_toList_iff.mpr hc))
  rw [e] at h
  unfold Builtin.Str.strKind at h
  split at h
  · omega
  · split at h <;> omega
theorem split_cases (x y : Str) (hy : 1 ≤ y.length) (hc : ∀ c ∈ y.cps.toList, c < 256) : ∃ cuts f, Txt.split x y = partsFrom x y.length 0 cuts ∧ ChainG x y x.length 0 cuts f ∧ ∀ k, f ≤ k → ¬ At x y x.length k := by
  obtain ⟨f, h1, h2⟩ := occ_tight x y hy
  have e0 : ∀ z : Str, z = strSub z 0 z.length := fun z => (PySem.StrLaws.sub_whole z).symm
  unfold Txt.split
  by_cases c1 : (decide (x.length < y.length) || decide (Builtin.Str.strKind x < Builtin.Str.strKind y)) = true
  · rw [if_pos c1]
    have no : ∀ k, ¬ At x y x.length k := fun k hk => by
      rcases Bool.or_eq_true_iff.mp c1 with q | q
      · have := of_decide_eq_true q; have := hk.1; omega
      · exact kind_no (of_decide_eq_true q) hc
    exact ⟨[], 0, by rw [partsFrom, ← e0], rfl, fun k _ => no k⟩
  · rw [if_neg c1]
    by_cases c2 : (occurrences x y 0 x.length (x.length + 1)).isEmpty = true
    · rw [if_pos c2]
      have e := List.isEmpty_iff.mp c2
      rw [e] at h1
      have hf : f = 0 := h1
      exact ⟨[], 0, by rw [partsFrom, ← e0], rfl, fun k _ => h2 k (by omega)⟩
    · rw [if_neg c2, partsBetween_eq]
      exact ⟨_, f, rfl, h1, h2⟩
theorem parts_len (x : Str) (w : Nat) : ∀ (cuts : List Nat) (a : Nat), (partsFrom x w a cuts).length = cuts.length + 1
  | [], a => rfl
  | c :: r, a => by rw [partsFrom, List.length_cons, parts_len x w r, List.length_cons]
/-- split, by the first place -/
theorem split_none {x y : Str} (hy : 1 ≤ y.length) (hc : ∀ c ∈ y.cps.toList, c < 256) (h : ∀ i, ¬ At x y x.length i) : Txt.split x y = [x] := by
  obtain ⟨cuts, f, e, h1, h2⟩ := split_cases x y hy hc
  cases cuts with
  | nil => rw [e, partsFrom]; exact congrArg (fun z => [z]) (PySem.StrLaws.sub_whole x)
  | cons c r => exact absurd h1.2.1 (h c)
theorem split_first {x y : Str} (hy : 1 ≤ y.length) (hc : ∀ c ∈ y.cps.toList, c < 256) {i : Nat} (h : At x y x.length i) (hb : ∀ k, k < i → ¬ At x y x.length k) :
    ∃ r, Txt.split x y = strSub x 0 i :: r ∧ ((∀ k, i + y.length ≤ k → ¬ At x y x.length k) → r = [strSub x (i + y.length) x.length]) ∧ ((∃ k, i + y.length ≤ k ∧ At x y x.length k) → 2 ≤ r.length) := by
  obtain ⟨cuts, f, e, h1, h2⟩ := split_cases x y hy hc
  cases cuts with
  | nil =>
    have hf : f = 0 := h1
    exact absurd h (h2 i (by omega))
  | cons c r =>
    obtain ⟨_, a1, a2, a3⟩ := h1
    have ec : c = i := by
      rcases Nat.lt_trichotomy c i with q | q | q
      · exact absurd a1 (hb c q)
      · exact q
      · exact absurd h (a2 i (Nat.zero_le _) q)
    subst ec
    refine ⟨partsFrom x y.length (c + y.length) r, by rw [e, partsFrom], fun no => ?_, fun ⟨k, k1, k2⟩ => ?_⟩
    · cases r with
      | nil => rfl
      | cons d r => exact absurd a3.2.1 (no d a3.1)
    · cases r with
      | nil =>
        have hf : f = c + y.length := a3
        exact absurd k2 (h2 k (by omega))
      | cons d r => rw [parts_len]; simp
/-! ### slices -/
theorem six_nat (n d i : Nat) : sixI n d (some (i : Int)) = min i n := by
  simp only [sixI]
  rw [if_neg (by omega), Int.toNat_natCast]
theorem six_m1 (n d : Nat) : sixI n d (some (-1)) = n - 1 := by
  simp only [sixI]
  rw [if_pos (by decide)]
  omega
theorem cut_ab (z : Str) {i j : Nat} (hij : i ≤ j) (hj : j ≤ z.length) : (cutS z (some (i : Int)) (some (j : Int))).cps.toList = (z.cps.toList.drop i).take (j - i) := by
  rw [cut_list]
  unfold cutL
  rw [six_nat, six_nat, len_list, Nat.min_eq_left hj, Nat.min_eq_left (Nat.le_trans hij hj)]
theorem cut_a_neg (z : Str) {i : Nat} (hi : i ≤ z.length) : (cutS z (some (i : Int)) (some (-1))).cps.toList = (z.cps.toList.drop i).take (z.length - 1 - i) := by
  rw [cut_list]
  unfold cutL
  rw [six_nat, six_m1, len_list, Nat.min_eq_left hi]
theorem cut_none_neg (z : Str) : (cutS z none (some (-1))).cps.toList = z.cps.toList.take (z.length - 1) := by
  rw [cut_list]
  unfold cutL
  rw [six_m1, len_list]
  show ((z.cps.toList.drop 0).take (z.length - 1 - 0)) = _
  rw [List.drop_zero, Nat.sub_zero]
theorem cut_last (z : Str) : (cutS z (some (-1)) none).cps.toList = z.cps.toList.drop (z.length - 1) := by
  rw [cut_list]
  unfold cutL
  rw [six_m1, len_list]
  show ((z.cps.toList.drop (z.length - 1)).take (z.cps.toList.length - (z.length - 1))) = _
  rw [List.take_of_length_le]
  rw [List.length_drop, len_list]
  omega
end My

namespace My
open PySem FB
open PySem.StrLaws (At)
open PySem.Builtin.Str (strSub)
/-! ### names and tables, the program's way and the law's -/
def tblB (s : Str) : Bool := decide (1 ≤ s.length) && (decide (s.length ≤ 3) && s.cps.toList.all (inn c_CAPITALS))
def headB (s : Str) : Bool := match s.cps.toList with | c :: _ => inn c_LETTERS c | [] => false
def nmB (s : Str) : Bool := decide (1 ≤ s.length) && (decide (s.length ≤ 6) && (headB s && s.cps.toList.all (inn c_SIGNS)))
theorem is_table_eq {s : Str} (h : s.length ≤ 1000) : m_is_table s = some (tblB s) := by
  unfold m_is_table tblB
  obtain ⟨l, e1, ea⟩ := comp_in (f := m_is_table_C1) (z := c_CAPITALS) s fun s => rfl
  have a1 : decide ((1 : Int) ≤ (s.length : Int)) = decide (1 ≤ s.length) := by by_cases q : 1 ≤ s.length <;> simp [q] <;> omega
  have a2 : decide ((s.length : Int) ≤ (3 : Int)) = decide (s.length ≤ 3) := by by_cases q : s.length ≤ 3 <;> simp [q] <;> omega
  simp only [lenS_ok h, signsO_ok h, Option.bind_some, e1, ea, a1, a2]
  cases decide (1 ≤ s.length) <;> cases decide (s.length ≤ 3) <;> simp
theorem nil_len {s : Str} (h : s.cps.toList = []) : s.length = 0 := by rw [← len_list, h]; rfl
theorem getS0 {s : Str} {c : Nat} {r : List Nat} (h : s.length ≤ 1000) (e : s.cps.toList = c :: r) : getS s 0 = some ⟨#[c]⟩ := by
  have hl := len_list s
  rw [e] at hl
  simp only [List.length_cons] at hl
  obtain ⟨d, hd, e0⟩ := getS_ok (a := s) (i := 0) h (by decide) (by omega)
  rw [e] at hd
  have ed : d = c := by simpa using hd.symm
  rw [e0, ed]
theorem is_name_eq {s : Str} (h : s.length ≤ 1000) : m_is_name s = some (nmB s) := by
  unfold m_is_name nmB
  obtain ⟨l, e1, ea⟩ := comp_in (f := m_is_name_C1) (z := c_SIGNS) s fun s => rfl
  have a1 : decide ((1 : Int) ≤ (s.length : Int)) = decide (1 ≤ s.length) := by by_cases q : 1 ≤ s.length <;> simp [q] <;> omega
  have a2 : decide ((s.length : Int) ≤ (6 : Int)) = decide (s.length ≤ 6) := by by_cases q : s.length ≤ 6 <;> simp [q] <;> omega
  cases e : s.cps.toList with
  | nil =>
    have h0 := nil_len e
    simp only [lenS_ok h, Option.bind_some, a1, a2, h0]
    simp
  | cons c r =>
    have hh : headB s = inn c_LETTERS c := by unfold headB; rw [e]
    have hi : decide (c ∈ c_LETTERS.cps.toList) = inn c_LETTERS c := rfl
    simp only [lenS_ok h, signsO_ok h, Option.bind_some, e1, ea, a1, a2, getS0 h e, inS_one, hh, e, hi]
    generalize inn c_LETTERS c = b3
    generalize (c :: r).all (inn c_SIGNS) = b4
    cases decide (1 ≤ s.length) <;> cases decide (s.length ≤ 6) <;> cases b3 <;> cases b4 <;> rfl
theorem dig_low : ∀ c ∈ ("0123456789abcdefghijklmnopqrstuvwxyz" : Str).cps.toList, inn ("0123456789" : Str) c = !(inn c_LETTERS c) := by decide +kernel
theorem sg_same (c : Nat) : inn ("0123456789abcdefghijklmnopqrstuvwxyz" : Str) c = inn c_SIGNS c := by
  have h1 : ∀ c ∈ ("0123456789abcdefghijklmnopqrstuvwxyz" : Str).cps.toList, c ∈ c_SIGNS.cps.toList := by decide +kernel
  have h2 : ∀ c ∈ c_SIGNS.cps.toList, c ∈ ("0123456789abcdefghijklmnopqrstuvwxyz" : Str).cps.toList := by decide +kernel
  by_cases h : c ∈ c_SIGNS.cps.toList
  · rw [inn, inn, decide_eq_true h, decide_eq_true (h2 c h)]
  · rw [inn, inn, decide_eq_false h, decide_eq_false fun z => h (h1 c z)]
theorem comma_cap : inn c_CAPITALS 44 = false ∧ inn c_SIGNS 44 = false ∧ inn c_CAPITALS 40 = false := by decide +kernel
theorem tbl_free {s : Str} (h : tblB s = true) : 44 ∉ s.cps.toList ∧ 40 ∉ s.cps.toList := by
  unfold tblB at h
  simp only [Bool.and_eq_true] at h
  have ha := List.all_eq_true.mp h.2.2
  exact ⟨(fun z => by have := ha 44 z; rw [comma_cap.1] at this; cases this), (fun z => by have := ha 40 z; rw [comma_cap.2.2] at this; cases this)⟩
theorem nm_free {s : Str} (h : nmB s = true) : 44 ∉ s.cps.toList := by
  unfold nmB at h
  simp only [Bool.and_eq_true] at h
  have ha := List.all_eq_true.mp h.2.2.2
  exact fun z => by have := ha 44 z; rw [comma_cap.2.1] at this; cases this
theorem tb_B {s : Str} (h : Tb s) : tblB s = true := by
  obtain ⟨h1, h2, h3⟩ := h
  unfold tblB
  rw [decide_eq_true h1, decide_eq_true h2, List.all_eq_true.mpr fun x hx => decide_eq_true (h3 x hx)]; rfl
theorem nm_B {s : Str} (h : Nm s) : nmB s = true := by
  obtain ⟨⟨c, r, e, h1, h2⟩, h3⟩ := h
  have hl := len_list s
  rw [e] at hl
  simp only [List.length_cons] at hl
  unfold nmB headB
  rw [e, decide_eq_true (show 1 ≤ s.length by omega), decide_eq_true h3]
  have : (c :: r).all (inn c_SIGNS) = true := by
    rw [List.all_eq_true]
    intro x hx
    rcases List.mem_cons.mp hx with rfl | hx
    · exact decide_eq_true (low_sg h1)
    · exact decide_eq_true (h2 x hx)
  rw [this]
  simp only [Bool.true_and, Bool.and_true]
  exact decide_eq_true h1
end My

namespace My
open PySem FB
/-! ### odd words -/
end My

namespace My
open PySem FB
/-! ### a search with its error; the first word that is not valid -/
theorem compO_all {α β : Type} {f : α → Option (Option β)} {P : β → Prop} : ∀ {xs : List α}, (∀ x ∈ xs, ∃ y, f x = some (some y) ∧ P y) → ∃ ys, compO xs f = some ys ∧ ys.length = xs.length ∧ ∀ y ∈ ys, P y
  | [], _ => ⟨[], rfl, rfl, fun _ z => nomatch z⟩
  | x :: xs, h => by
    obtain ⟨y, e, hy⟩ := h x List.mem_cons_self
    obtain ⟨ys, e2, l, hys⟩ := compO_all fun z hz => h z (List.mem_cons_of_mem _ hz)
    refine ⟨y :: ys, by rw [compO, e, e2]; rfl, by simp [l], fun z hz => ?_⟩
    rcases List.mem_cons.mp hz with rfl | hz
    · exact hy
    · exact hys z hz
theorem ix_ok {n : Nat} {i : Int} (h0 : 0 ≤ i) (h1 : i < n) : ixI n i = some i.toNat := by unfold ixI; rw [if_pos h0, if_pos h1]
theorem setI_ok {α : Type} {l : List α} {i : Int} (v : α) (h0 : 0 ≤ i) (h1 : i < l.length) : setI l i v = some (l.set i.toNat v) := by unfold setI; rw [ix_ok h0 h1]; rfl
theorem B_tb {s : Str} (h : tblB s = true) : Tb s := by
  unfold tblB at h
  simp only [Bool.and_eq_true, decide_eq_true_eq] at h
  exact ⟨h.1, h.2.1, fun c hc => of_decide_eq_true (List.all_eq_true.mp h.2.2 c hc)⟩
theorem B_nm {s : Str} (h : nmB s = true) : Nm s := by
  unfold nmB at h
  simp only [Bool.and_eq_true, decide_eq_true_eq] at h
  obtain ⟨h1, h2, h3, h4⟩ := h
  refine ⟨?_, h2⟩
  unfold headB at h3
  cases e : s.cps.toList with
  | nil => rw [e] at h3; cases h3
  | cons c r =>
    rw [e] at h3 h4
    exact ⟨c, r, rfl, of_decide_eq_true h3, fun d hd => of_decide_eq_true (List.all_eq_true.mp h4 d (List.mem_cons_of_mem _ hd))⟩
def fr {β ρ : Type} (R : β → ρ) : Option β → Fl ρ Unit
  | some w => .ret (R w)
  | none => .go ()
theorem loop_find {α ρ β : Type} {f : α → Unit → Option (Fl ρ Unit)} {g : α → Option β} {R : β → ρ} : ∀ {xs : List α}, (∀ x ∈ xs, f x () = some (fr R (g x))) → loopO xs () f = some (fr R (xs.findSome? g))
  | [], _ => rfl
  | x :: xs, h => by
    rw [loopO, h x List.mem_cons_self, Option.bind_some, List.findSome?_cons]
    cases g x with
    | some w => rfl
    | none => exact loop_find fun y hy => h y (List.mem_cons_of_mem _ hy)
theorem loopO_inv {α ρ σ : Type} {f : α → σ → Option (Fl ρ σ)} (P : σ → Prop) : ∀ {xs : List α} {s : σ}, P s → (∀ x ∈ xs, ∀ s, P s → ∃ s', f x s = some (.go s') ∧ P s') → ∃ s', loopO xs s f = some (.go s') ∧ P s'
  | [], s, h, _ => ⟨s, rfl, h⟩
  | x :: xs, s, h, hf => by
    obtain ⟨s1, e, h1⟩ := hf x List.mem_cons_self s h
    obtain ⟨s2, e2, h2⟩ := loopO_inv P (xs := xs) h1 fun y hy => hf y (List.mem_cons_of_mem _ hy)
    exact ⟨s2, by rw [loopO, e, Option.bind_some]; exact e2, h2⟩
def badT (t : T3 Str Str Str) : Option Str := if tblB t.a = true then (if nmB t.b = true then (if nmB t.c = true then none else some t.c) else some t.b) else some t.a
def badN (x : Str) : Option Str := if nmB x = true then none else some x
def offN (N : List Str) (x : Str) : Option Str := if x ∈ N then none else some x
theorem bw (x : Str) (h : x.length ≤ 100) : addS ("not a valid word here: " : Str) x = some (("not a valid word here: " : Str) ++ x) := addS_ok (by
  have h1 : ("not a valid word here: " : Str).length = 23 := by decide +kernel
  omega)
theorem tm (n : Int) (h : 0 ≤ n ∧ n < 200) : ∃ z y, strI n = some z ∧ addS ("more than " : Str) z = some y := by
  have h1 : ("more than " : Str).length = 10 := by decide +kernel
  obtain ⟨z, e, l, _⟩ := strI_small (i := n) (by omega) (by omega)
  exact ⟨z, _, e, addS_ok (by omega)⟩
theorem sg (x : Str) (h : x.length ≤ 100) : addS ("not a name of the question: " : Str) x = some (("not a name of the question: " : Str) ++ x) := addS_ok (by
  have st : ("not a name of the question: " : Str).length = 28 := by decide +kernel
  omega)
theorem law_is_ok {ts : List (T3 Str Str Str)} {hd cur : List Str} (A : TA ts hd) (hc : cur.length ≤ 1000) : m_law_is ⟨(uniq ts).mergeSort leK, Tp.mk cur⟩ ts cur = some true := by
  have al := A.l
  unfold m_law_is
  rw [if_neg not_true_ne, Q_names A, Option.bind_some, met_ok al, Option.bind_some]
  have n3 : uniq (uniq (namesOf ts)) = uniq (uniq (namesOf ts)) := rfl
  have r1 : m_law_rank_S (uniq (namesOf ts)) = some (srt (namesOf ts)) := by
    rw [rankS (by have := len_uniq (namesOf ts); have := len_namesOf ts; omega)]
    rw [sortS_ok fun x hx => by
      have := (A.names x (mem_uniq.mp (mem_uniq.mp hx))).2
      omega]
    exact congrArg some (sort_same (nodup_uniq _) (nodup_uniq _) fun x => by rw [mem_uniq])
  have r2 : m_law_rank_S (ts.map fun t => t.a) = some (srt (ts.map fun t => t.a)) := by
    rw [rankS (by rw [List.length_map]; omega)]
    rw [sortS_ok fun x hx => by
      obtain ⟨t, ht, rfl⟩ := List.mem_map.mp (mem_uniq.mp hx)
      have := (A.a t ht).2.1
      omega]
    rfl
  rw [r1, Option.bind_some, decide_eq_true rfl, if_neg not_true_ne, Q_tables A, Option.bind_some]
  rw [compO_map (f := m_law_is_C1) (g := fun t => t.a) fun t _ => rfl, Option.bind_some, r2, Option.bind_some, decide_eq_true rfl, if_neg not_true_ne]
  have sq : m_law_same_Q [Tp.mk cur] [Tp.mk cur] = some true := head_one (by simp) fun x hx => by
    have e : x = Tp.mk cur := by simpa using hx
    subst e
    exact hc
  have st : m_law_same_T ((uniq ts).mergeSort leK) ((uniq ts).mergeSort leK) = some true := same_ok (by rw [len_sort]; have := A.u; omega)
  unfold m_Question_head m_Question_ties
  rw [Option.bind_some, sq, Option.bind_some, if_neg not_true_ne, Option.bind_some, rank3 (by omega), A.sort3, Option.bind_some, st, Option.bind_some]
end My

namespace My
open PySem FB PySem.Builtin.Str
/-! ### ties are told apart by their texts -/
def AL : List Nat := c_SIGNS.cps.toList ++ c_CAPITALS.cps.toList
theorem al_all : ∀ c ∈ AL, reprChar 39 c = [c] ∧ c ≠ 39 ∧ c ≠ 34 := by decide +kernel
theorem nm_al {s : Str} (h : Nm s) : ∀ c ∈ s.cps.toList, c ∈ AL := fun c hc => List.mem_append_left _ (wd_sg h.1 c hc)
theorem tb_al {s : Str} (h : Tb s) : ∀ c ∈ s.cps.toList, c ∈ AL := fun c hc => List.mem_append_right _ (h.2.2 c hc)
theorem cut39 : ∀ {l l' r r' : List Nat}, 39 ∉ l → 39 ∉ l' → l ++ 39 :: r = l' ++ 39 :: r' → l = l' ∧ r = r'
  | [], [], r, r', _, _, e => ⟨rfl, (List.cons.inj e).2⟩
  | [], d :: l', r, r', _, h2, e => absurd (List.mem_cons.mpr (.inl (List.cons.inj e).1)) h2
  | c :: l, [], r, r', h1, _, e => absurd (List.mem_cons.mpr (.inl (List.cons.inj e).1.symm)) h1
  | c :: l, d :: l', r, r', h1, h2, e => by
    obtain ⟨e1, e2⟩ := List.cons.inj e
    obtain ⟨a, b⟩ := cut39 (fun z => h1 (List.mem_cons_of_mem _ z)) (fun z => h2 (List.mem_cons_of_mem _ z)) e2
    exact ⟨by rw [e1, a], b⟩
theorem repr_al {s : Str} (h : ∀ c ∈ s.cps.toList, c ∈ AL) : (reprText s).cps.toList = 39 :: (s.cps.toList ++ [39]) := by
  have hq : reprQuote s = 39 := by
    unfold reprQuote
    have : s.cps.contains 39 = false := by
      rw [← Bool.not_eq_true, Array.contains_iff_mem]
      intro z
      exact (al_all 39 (h 39 (by simpa using z))).2.1 rfl
    rw [this]
    rfl
  have key : ∀ (l acc : List Nat), (∀ c ∈ l, c ∈ AL) → (l.foldl (fun out c => out ++ (reprChar 39 c).toArray) acc.toArray).toList = acc ++ l := fun l => by
    induction l with
    | nil => intro acc _; simp
    | cons c l ih =>
      intro acc hl
      rw [List.foldl_cons, (al_all c (hl c List.mem_cons_self)).1]
      have e : acc.toArray ++ [c].toArray = (acc ++ [c]).toArray := by simp
      rw [e, ih _ fun d hd => hl d (List.mem_cons_of_mem _ hd), List.append_assoc]
      rfl
  show ((s.cps.foldl (fun out c => out ++ (reprChar (reprQuote s) c).toArray) #[reprQuote s]).push (reprQuote s)).toList = _
  rw [hq, Array.toList_push, ← Array.foldl_toList]
  have e := key s.cps.toList [39] h
  rw [show ([39] : List Nat).toArray = #[39] from rfl] at e
  rw [e]
  rfl
def VT (t : T3 Str Str Str) : Prop := Tb t.a ∧ Nm t.b ∧ Nm t.c
theorem sk_list {t : T3 Str Str Str} (h : VT t) : (sk t).cps.toList = 40 :: 39 :: (t.a.cps.toList ++ 39 :: 44 :: 32 :: 39 :: (t.b.cps.toList ++ 39 :: 44 :: 32 :: 39 :: (t.c.cps.toList ++ [39, 41]))) := by
  obtain ⟨h1, h2, h3⟩ := h
  have e : sk t = tupleText ([t.a, t.b, t.c].map reprText) := by
    show PyData.shown (.tuple [.str t.a, .str t.b, .str t.c]) = _
    simp [PyData.shown, PyData.shownAll]
  have r1 := repr_al (tb_al h1)
  have r2 := repr_al (nm_al h2)
  have r3 := repr_al (nm_al h3)
  have p1 : ("(" : Str).cps.toList = [40] := by decide +kernel
  have p2 : (")" : Str).cps.toList = [41] := by decide +kernel
  have p3 : (", " : Str).cps.toList = [44, 32] := by decide +kernel
  rw [e]
  show (("(" : Str) ++ (reprText t.a ++ ", " ++ (reprText t.b ++ ", " ++ reprText t.c)) ++ (")" : Str)).cps.toList = _
  rw [app_list, app_list, app_list, app_list, app_list, app_list, p1, p2, p3, r1, r2, r3]
  simp
theorem sk_inj {t u : T3 Str Str Str} (h : VT t) (h' : VT u) (e : (sk t).cps.toList = (sk u).cps.toList) : t = u := by
  rw [sk_list h, sk_list h'] at e
  have q : ∀ {s : Str}, (∀ c ∈ s.cps.toList, c ∈ AL) → 39 ∉ s.cps.toList := fun {s} hs z => (al_all 39 (hs 39 z)).2.1 rfl
  have e1 := (List.cons.inj (List.cons.inj e).2).2
  obtain ⟨a, e2⟩ := cut39 (q (tb_al h.1)) (q (tb_al h'.1)) e1
  have e3 := (List.cons.inj (List.cons.inj (List.cons.inj e2).2).2).2
  obtain ⟨b, e4⟩ := cut39 (q (nm_al h.2.1)) (q (nm_al h'.2.1)) e3
  have e5 := (List.cons.inj (List.cons.inj (List.cons.inj e4).2).2).2
  obtain ⟨c, _⟩ := cut39 (q (nm_al h.2.2)) (q (nm_al h'.2.2)) e5
  obtain ⟨ta, tb, tc⟩ := t
  obtain ⟨ua, ub, uc⟩ := u
  have ea : ta = ua := str_ext a
  have eb : tb = ub := str_ext b
  have ec : tc = uc := str_ext c
  rw [ea, eb, ec]
theorem leK_anti3 {t u : T3 Str Str Str} (h : VT t) (h' : VT u) (h1 : leK t u = true) (h2 : leK u t = true) : t = u := by
  unfold leK at h1 h2
  simp only [Bool.not_eq_true', decide_eq_false_iff_not, List.not_lt] at h1 h2
  exact sk_inj h h' (List.le_antisymm h1 h2)
theorem sort3_same {l m : List (T3 Str Str Str)} (hl : l.Nodup) (hm : m.Nodup) (h : ∀ x, x ∈ l ↔ x ∈ m) (hv : ∀ t ∈ l, VT t) : l.mergeSort leK = m.mergeSort leK := by
  refine List.Perm.eq_of_pairwise (le := fun a b => leK a b = true) (fun a b ha hb h1 h2 => leK_anti3 (hv a (mem_sort.mp ha)) (hv b ((h b).mpr (mem_sort.mp hb))) h1 h2) (List.pairwise_mergeSort leK_trans leK_total l) (List.pairwise_mergeSort leK_trans leK_total m) ?_
  exact ((List.mergeSort_perm l leK).trans ((List.perm_ext_iff_of_nodup hl hm).mpr h)).trans (List.mergeSort_perm m leK).symm
theorem uniq_same3 {l m : List (T3 Str Str Str)} (h : ∀ x, x ∈ l ↔ x ∈ m) (hv : ∀ t ∈ l, VT t) : (uniq l).mergeSort leK = (uniq m).mergeSort leK :=
  sort3_same (nodup_uniq _) (nodup_uniq _) (fun x => by rw [mem_uniq, mem_uniq]; exact h x) fun t ht => hv t (mem_uniq.mp ht)
/-! ### dicts -/
theorem setE_keys {κ ν : Type} [DecidableEq κ] (l : List (κ × ν)) (k : κ) (v : ν) : (setE l k v).map Prod.fst = if hasE l k = true then l.map Prod.fst else l.map Prod.fst ++ [k] := by
  unfold setE
  split
  · rw [List.map_map]
    exact List.map_congr_left fun p _ => by
      show (if p.1 = k then (p.1, v) else p).1 = p.1
      split <;> rfl
  · rw [List.map_append]; rfl
theorem hasE_mem {κ ν : Type} [DecidableEq κ] {l : List (κ × ν)} {k : κ} : hasE l k = true ↔ k ∈ l.map Prod.fst := by
  unfold hasE
  rw [List.any_eq_true, List.mem_map]
  exact ⟨fun ⟨p, h1, h2⟩ => ⟨p, h1, by simpa using h2⟩, fun ⟨p, h1, h2⟩ => ⟨p, h1, by simpa using h2⟩⟩
theorem setE_nodup {κ ν : Type} [DecidableEq κ] {l : List (κ × ν)} {k : κ} {v : ν} (h : (l.map Prod.fst).Nodup) : ((setE l k v).map Prod.fst).Nodup := by
  rw [setE_keys]
  split
  · exact h
  · rename_i hk
    rw [List.nodup_append]
    refine ⟨h, by simp, fun a ha b hb => ?_⟩
    obtain rfl : b = k := by simpa using hb
    intro e
    subst e
    exact hk (hasE_mem.mpr ha)
theorem setE_len {κ ν : Type} [DecidableEq κ] (l : List (κ × ν)) (k : κ) (v : ν) : (setE l k v).length ≤ l.length + 1 := by
  unfold setE
  split <;> simp
theorem setE_val {κ ν : Type} [DecidableEq κ] {l : List (κ × ν)} {k : κ} {v : ν} {P : ν → Prop} (hl : ∀ p ∈ l, P p.2) (hv : P v) : ∀ p ∈ setE l k v, P p.2 := by
  unfold setE
  intro p hp
  split at hp
  · obtain ⟨q, hq, rfl⟩ := List.mem_map.mp hp
    split
    · exact hv
    · exact hl q hq
  · rcases List.mem_append.mp hp with h | h
    · exact hl p h
    · obtain rfl : p = (k, v) := by simpa using h
      exact hv
theorem getE_self {κ ν : Type} [DecidableEq κ] {l : List (κ × ν)} (h : (l.map Prod.fst).Nodup) : ∀ p ∈ l, getE l p.1 = some p.2 := by
  induction l with
  | nil => intro p hp; cases hp
  | cons q l ih =>
    rw [List.map_cons, List.nodup_cons] at h
    intro p hp
    unfold getE
    rcases List.mem_cons.mp hp with rfl | hp
    · rw [List.find?_cons_of_pos (by simp)]; rfl
    · have ne : ¬ q.1 = p.1 := fun z => h.1 (z ▸ List.mem_map_of_mem hp)
      rw [List.find?_cons_of_neg (by simp [ne])]
      exact ih h.2 p hp
theorem getE_mem {κ ν : Type} [DecidableEq κ] {l : List (κ × ν)} {k : κ} {v : ν} (h : getE l k = some v) : (k, v) ∈ l := by
  unfold getE at h
  rw [Option.map_eq_some_iff] at h
  obtain ⟨p, h1, rfl⟩ := h
  have h2 := List.find?_some h1
  obtain rfl : p.1 = k := by simpa using h2
  exact List.mem_of_find?_eq_some h1
theorem dkE_self {κ ν : Type} [DecidableEq κ] [DecidableEq ν] {l : List (κ × ν)} (h : (l.map Prod.fst).Nodup) : dkE l l = true := by
  unfold dkE
  rw [Bool.and_eq_true]
  exact ⟨by simp, List.all_eq_true.mpr fun p hp => decide_eq_true (getE_self h p hp)⟩
/-- a dict of texts -/
structure MI (n : Nat) (m : Dk Str Str) : Prop where
  k : (m.l.map Prod.fst).Nodup
  l : m.l.length ≤ n
  v : ∀ p ∈ m.l, p.2.length ≤ 100
theorem MI.put {n : Nat} {m : Dk Str Str} (h : MI n m) (hn : n ≤ 900) (x v : Str) (hv : v.length ≤ 100) : ∃ l, putE m.l x v = some l ∧ MI (n + 1) (Dk.mk l) := by
  refine ⟨setE m.l x v, if_pos (by have := h.l; simp [LINE]; omega), setE_nodup h.k, ?_, setE_val (P := fun z : Str => z.length ≤ 100) h.v hv⟩
  have := setE_len m.l x v
  have := h.l
  show (setE m.l x v).length ≤ n + 1
  omega
theorem MI.mono {n n' : Nat} {m : Dk Str Str} (h : MI n m) (hn : n ≤ n') : MI n' m := ⟨h.k, Nat.le_trans h.l hn, h.v⟩
end My

namespace My
open PySem FB
open PySem.StrLaws (At ChainG partsFrom)
open PySem.Builtin.Str (strSub)
/-! ### texts that are joined and parted again -/
abbrev tl (s : Str) : List Nat := s.cps.toList
theorem at_iff {x y : Str} {i : Nat} (hy : 1 ≤ y.length) : At x y x.length i ↔ ∃ r, (tl x).drop i = tl y ++ r := by
  have hl := len_list x
  have hm := len_list y
  unfold At
  rw [PySem.StrLaws.subAt_eq, beq_iff_eq]
  constructor
  · rintro ⟨h1, h2⟩
    refine ⟨((tl x).drop i).drop y.length, ?_⟩
    have h2 : ((tl x).drop i).take y.length = tl y := h2
    rw [← h2]
    exact (List.take_append_drop _ _).symm
  · rintro ⟨r, h⟩
    have h3 := congrArg List.length h
    rw [List.length_drop, List.length_append, hl, hm] at h3
    refine ⟨by omega, ?_⟩
    show ((tl x).drop i).take y.length = tl y
    rw [h, List.take_left' hm]
theorem at_get {x y : Str} {i j c : Nat} (hy : 1 ≤ y.length) (h : At x y x.length i) (e : (tl y)[j]? = some c) : (tl x)[i + j]? = some c := by
  obtain ⟨r, h⟩ := (at_iff hy).mp h
  have hj := (List.getElem?_eq_some_iff.mp e).1
  rw [← List.getElem?_drop, h, List.getElem?_append_left hj, e]
def glue (y : List Nat) (ps : List (List Nat)) (L : List Nat) : List Nat := (ps.map (· ++ y)).flatten ++ L
theorem glue_cons (y p : List Nat) (ps : List (List Nat)) (L : List Nat) : glue y (p :: ps) L = p ++ (y ++ glue y ps L) := by
  unfold glue
  rw [List.map_cons, List.flatten_cons]
  simp only [List.append_assoc]
theorem parts_of {x y : Str} {c0 : Nat} {yr : List Nat} (hy : tl y = c0 :: yr) {L : List Nat} (hL : ∀ j r, L.drop j ≠ tl y ++ r) :
    ∀ (ps : List (List Nat)) (a : Nat) (cuts : List Nat) (f : Nat), (tl x).drop a = glue (tl y) ps L → a ≤ x.length → (∀ p ∈ ps, c0 ∉ p) → ChainG x y x.length a cuts f → (∀ k, f ≤ k → ¬ At x y x.length k) →
      (partsFrom x y.length a cuts).map tl = ps ++ [L] := by
  have hm := len_list y
  have h1 : 1 ≤ y.length := by
    rw [← len_list]
    show 1 ≤ (tl y).length
    rw [hy]; simp
  have hl := len_list x
  intro ps
  induction ps with
  | nil =>
    intro a cuts f e ha _ ch hf
    have e : (tl x).drop a = L := e
    have no : ∀ k, a ≤ k → ¬ At x y x.length k := fun k hk z => by
      obtain ⟨r, q⟩ := (at_iff h1).mp z
      refine hL (k - a) r ?_
      rw [← e, List.drop_drop, show a + (k - a) = k by omega, q]
    cases cuts with
    | nil =>
      rw [partsFrom]
      show [tl (strSub x a x.length)] = _
      rw [show tl (strSub x a x.length) = L by
        show (strSub x a x.length).cps.toList = L
        rw [sub_list, List.take_of_length_le (by rw [List.length_drop, hl]; omega), ← e]]
      rfl
    | cons c r => exact absurd ch.2.1 (no c ch.1)
  | cons p ps ih =>
    intro a cuts f e ha hp ch hf
    rw [glue_cons] at e
    have hpl : a + p.length + y.length ≤ x.length := by
      have := congrArg List.length e
      rw [List.length_drop, List.length_append, List.length_append, hl, hm] at this
      omega
    have hat : At x y x.length (a + p.length) := (at_iff h1).mpr ⟨glue (tl y) ps L, by rw [← List.drop_drop, e, List.drop_left]⟩
    have no : ∀ k, a ≤ k → k < a + p.length → ¬ At x y x.length k := fun k k1 k2 z => by
      have g := at_get (j := 0) h1 z (c := c0) (by rw [hy]; rfl)
      have g2 : ((tl x).drop a)[k - a]? = some c0 := by rw [List.getElem?_drop, show a + (k - a) = k + 0 by omega]; exact g
      rw [e, List.getElem?_append_left (by omega)] at g2
      exact hp p List.mem_cons_self (List.mem_of_getElem? g2)
    cases cuts with
    | nil =>
      have hf0 : f = a := ch
      exact absurd hat (hf _ (by omega))
    | cons c r =>
      obtain ⟨a0, a1, a2, a3⟩ := ch
      have ec : c = a + p.length := by
        rcases Nat.lt_trichotomy c (a + p.length) with q | q | q
        · exact absurd a1 (no c a0 q)
        · exact q
        · exact absurd hat (a2 _ (by omega) q)
      subst ec
      rw [partsFrom, List.map_cons]
      have t0 : tl (strSub x a (a + p.length)) = p := by
        show (strSub x a (a + p.length)).cps.toList = p
        rw [sub_list]
        show ((tl x).drop a).take _ = p
        rw [e, show a + p.length - a = p.length by omega, List.take_left]
      rw [t0, ih (a + p.length + y.length) r f (by
        rw [Nat.add_assoc, ← List.drop_drop, e, ← List.drop_drop, List.drop_left, List.drop_left' hm]) hpl (fun q hq => hp q (List.mem_cons_of_mem _ hq)) a3 hf]
      rfl
theorem split_parts {x y : Str} {c0 : Nat} {yr : List Nat} (hy : tl y = c0 :: yr) (hc : ∀ c ∈ tl y, c < 256) {L : List Nat} {ps : List (List Nat)} (hL : ∀ j r, L.drop j ≠ tl y ++ r) (hp : ∀ p ∈ ps, c0 ∉ p) (hx : tl x = glue (tl y) ps L) : (Txt.split x y).map tl = ps ++ [L] := by
  have h1 : 1 ≤ y.length := by
    rw [← len_list]
    show 1 ≤ (tl y).length
    rw [hy]; simp
  obtain ⟨cuts, f, e, g1, g2⟩ := split_cases x y h1 hc
  rw [e]
  exact parts_of hy hL ps 0 cuts f (by rw [List.drop_zero]; exact hx) (Nat.zero_le _) hp g1 g2
theorem map_tl_inj : ∀ {xs ys : List Str}, xs.map tl = ys.map tl → xs = ys
  | [], [], _ => rfl
  | x :: xs, y :: ys, h => by
    rw [List.map_cons, List.map_cons] at h
    injection h with h1 h2
    rw [str_ext h1, map_tl_inj h2]
  | [], _ :: _, h => by cases h
  | _ :: _, [], h => by cases h
/-- the parts that a separator's first sign is not in -/
theorem free_of {y : List Nat} {c0 : Nat} {yr L : List Nat} (hy : y = c0 :: yr) (h : c0 ∉ L) : ∀ j r, L.drop j ≠ y ++ r := fun j r z => by
  subst hy
  exact h (List.mem_of_mem_drop (i := j) (by rw [z]; exact List.mem_cons_self))
theorem join_glue (y : Str) : ∀ (xs : List Str) (x : Str), tl (Str.join y (xs ++ [x])) = glue (tl y) (xs.map tl) (tl x)
  | [], x => rfl
  | [a], x => by
    show tl (a ++ y ++ x) = _
    rw [List.map_cons, glue_cons]
    show (a ++ y ++ x).cps.toList = _
    rw [app_list, app_list, List.append_assoc]; rfl
  | a :: b :: r, x => by
    have ih := join_glue y (b :: r) x
    show tl (a ++ y ++ Str.join y (b :: r ++ [x])) = _
    rw [List.map_cons, glue_cons]
    show (a ++ y ++ Str.join y (b :: r ++ [x])).cps.toList = _
    rw [app_list, app_list, List.append_assoc]
    exact congrArg (fun z => tl a ++ (tl y ++ z)) ih
theorem join_one (y x : Str) : Str.join y [x] = x := rfl
/-- join, then split -/
theorem split_join {y : Str} {c0 : Nat} {yr : List Nat} (hy : tl y = c0 :: yr) (hc : ∀ c ∈ tl y, c < 256) {xs : List Str} (hn : xs ≠ []) (h : ∀ x ∈ xs, c0 ∉ tl x) : Txt.split (Str.join y xs) y = xs := by
  have e := List.dropLast_concat_getLast hn
  generalize xs.dropLast = zs at e
  generalize xs.getLast hn = z at e
  subst e
  apply map_tl_inj
  rw [split_parts hy hc (free_of hy (h z (by simp))) (fun p hp => by
    obtain ⟨q, hq, rfl⟩ := List.mem_map.mp hp
    exact h q (by simp [hq])) (join_glue y zs z), List.map_append]
  rfl
/-- the first place of y behind a part without y's first sign -/
theorem part_at {x y : Str} {c0 : Nat} {yr p r : List Nat} (hy : tl y = c0 :: yr) (hp : c0 ∉ p) (hx : tl x = p ++ (tl y ++ r)) : ∃ a b : Str, Txt.partition x y = (a, y, b) ∧ tl a = p ∧ tl b = r := by
  have h1 : 1 ≤ y.length := by
    rw [← len_list]
    show 1 ≤ (tl y).length
    rw [hy]; simp
  have hm := len_list y
  have hl := len_list x
  have hat : At x y x.length p.length := (at_iff h1).mpr ⟨r, by rw [hx, List.drop_left]⟩
  have no : ∀ k, k < p.length → ¬ At x y x.length k := fun k k2 z => by
    have g := at_get (j := 0) h1 z (c := c0) (by rw [hy]; rfl)
    rw [Nat.add_zero, hx, List.getElem?_append_left k2] at g
    exact hp (List.mem_of_getElem? g)
  rcases find_cases x y with ⟨_, n, _⟩ | ⟨i, _, g1, g2, e⟩
  · exact absurd hat (n _)
  · have ei : i = p.length := by
      rcases Nat.lt_trichotomy i p.length with q | q | q
      · exact absurd g1 (no i q)
      · exact q
      · exact absurd hat (g2 _ q)
    subst ei
    refine ⟨_, _, e, ?_, ?_⟩
    · show (strSub x 0 p.length).cps.toList = p
      rw [sub_list, List.drop_zero, Nat.sub_zero]
      show (tl x).take _ = p
      rw [hx, List.take_left]
    · show (strSub x (p.length + y.length) x.length).cps.toList = r
      rw [sub_list, List.take_of_length_le (by rw [List.length_drop, hl]; omega)]
      show (tl x).drop _ = r
      rw [hx, ← List.drop_drop, List.drop_left, List.drop_left' hm]
theorem tjoin (y : Str) (xs : List Str) : Txt.join y xs = Str.join y xs := PySem.StrLaws.glued_eq_join y xs
theorem mem_join {y : Str} {c : Nat} : ∀ {xs : List Str}, c ∈ tl (Str.join y xs) → c ∈ tl y ∨ ∃ x ∈ xs, c ∈ tl x
  | [], h => absurd h (by show c ∉ tl Str.empty; exact List.not_mem_nil)
  | [x], h => .inr ⟨x, List.mem_singleton_self x, h⟩
  | a :: b :: r, h => by
    have h : c ∈ tl (a ++ y ++ Str.join y (b :: r)) := h
    have e : tl (a ++ y ++ Str.join y (b :: r)) = tl a ++ tl y ++ tl (Str.join y (b :: r)) := by
      show (a ++ y ++ Str.join y (b :: r)).cps.toList = _
      rw [app_list, app_list]
    rw [e, List.mem_append, List.mem_append] at h
    rcases h with (h | h) | h
    · exact .inr ⟨a, List.mem_cons_self, h⟩
    · exact .inl h
    · rcases mem_join h with h | ⟨x, hx, h⟩
      · exact .inl h
      · exact .inr ⟨x, List.mem_cons_of_mem _ hx, h⟩
theorem len_join {y : Str} {B : Nat} : ∀ {xs : List Str}, (∀ x ∈ xs, x.length ≤ B) → (Str.join y xs).length ≤ xs.length * (B + y.length)
  | [], _ => Nat.le_of_eq (by simp; rfl)
  | [x], h => by
    have := h x (List.mem_singleton_self x)
    show x.length ≤ _
    simp only [List.length_singleton]; omega
  | a :: b :: r, h => by
    have h1 := h a List.mem_cons_self
    have h2 := len_join (y := y) (xs := b :: r) fun x hx => h x (List.mem_cons_of_mem _ hx)
    show (a ++ y ++ Str.join y (b :: r)).length ≤ (r.length + 1 + 1) * (B + y.length)
    rw [len_app, len_app, Nat.succ_mul]
    rw [List.length_cons] at h2
    omega
theorem sum_le {B : Nat} : ∀ {xs : List Str}, (∀ x ∈ xs, x.length ≤ B) → (xs.map (·.length)).sum ≤ xs.length * B
  | [], _ => Nat.zero_le _
  | x :: xs, h => by
    have h1 := h x List.mem_cons_self
    have h2 := sum_le fun z hz => h z (List.mem_cons_of_mem _ hz)
    rw [List.map_cons, List.sum_cons, List.length_cons, Nat.succ_mul]
    omega
theorem joinO_ok {y : Str} {B n : Nat} {xs : List Str} (h : ∀ x ∈ xs, x.length ≤ B) (hn : xs.length ≤ n) (hb : n * (B + y.length) ≤ 100000) : joinO y xs = some (Str.join y xs) := by
  unfold joinO
  have h1 := sum_le h
  have h2 : xs.length * (B + y.length) ≤ n * (B + y.length) := Nat.mul_le_mul_right _ hn
  rw [Nat.mul_add] at h2
  rw [if_pos (by simp only [LINE]; omega), tjoin]
theorem starts_one (z : Str) (c : Nat) : Txt.startswith z (⟨#[c]⟩ : Str) = decide ((tl z)[0]? = some c) := by
  unfold Txt.startswith
  rw [PySem.StrLaws.subAt_eq, List.drop_zero]
  show (decide (0 + 1 ≤ z.length) && ((tl z).take 1 == [c])) = _
  rw [← len_list]
  show (decide (0 + 1 ≤ (tl z).length) && ((tl z).take 1 == [c])) = _
  cases tl z with
  | nil => rfl
  | cons a r => by_cases q : a = c <;> simp [q]
theorem ends_one (z : Str) (c : Nat) : Txt.endswith z (⟨#[c]⟩ : Str) = decide ((tl z).getLast? = some c) := by
  unfold Txt.endswith
  have hl := len_list z
  rw [PySem.StrLaws.subAt_eq, List.getLast?_eq_getElem?]
  show (decide (0 + 1 ≤ z.length) && ((z.cps.toList.drop (z.length - 1)).take 1 == [c])) = decide (z.cps.toList[z.cps.toList.length - 1]? = some c)
  rw [hl]
  by_cases h : z.length = 0
  · have e : z.cps.toList = [] := List.eq_nil_of_length_eq_zero (by rw [hl]; exact h)
    rw [e, h]; rfl
  · rw [decide_eq_true (show 0 + 1 ≤ z.length by omega), Bool.true_and, Bool.eq_iff_iff, PySem.StrLaws.take1_drop, decide_eq_true_iff]
theorem split_fit (x y : Str) : (Txt.split x y).length ≤ x.length + 2 := by
  unfold Txt.split
  split
  · simp
  · split
    · simp
    · rw [PySem.StrLaws.partsBetween_eq, parts_len]
      have := PySem.StrLaws.occ_length_le_len x y 0 x.length (x.length + 1)
      omega
theorem splitO_ok {x y : Str} (h : x.length ≤ 10000) (hy : 1 ≤ y.length) : splitO x y = some (Txt.split x y) := if_pos ⟨by simp only [LINE]; omega, by omega⟩
theorem fitL_ok {α : Type} {l : List α} (h : l.length ≤ 100000) : fitL l = some () := if_pos (by simp only [LINE]; omega)
theorem partO_ok {x y a b c : Str} (h : x.length ≤ 10000) (hy : 1 ≤ y.length) (e : Txt.partition x y = (a, b, c)) : partO x y = some ⟨a, b, c⟩ := by
  unfold partO
  rw [if_pos ⟨by simp only [LINE]; omega, by omega⟩, e]
theorem starL_ok {α : Type} {xs : List α} {x : α} (h : xs.length ≤ 10000) : starL (xs ++ [x]) = some (xs, x) := by
  unfold starL
  rw [List.getLast?_concat]
  simp only
  rw [if_pos (by rw [List.length_append, List.length_singleton]; omega), List.dropLast_concat]
end My

namespace My
open PySem FB
/-! ### ties and questions written -/
def wt (t : T3 Str Str Str) : Str := t.a ++ ("(" : Str) ++ t.b ++ (", " : Str) ++ t.c ++ (")" : Str)
/-- .. without the last sign -/
def pw (t : T3 Str Str Str) : List Nat := tl t.a ++ 40 :: (tl t.b ++ 44 :: 32 :: tl t.c)
def qtx (ts : List (T3 Str Str Str)) (hd : List Str) : Str := ("(" : Str) ++ Str.join (", " : Str) hd ++ (") <-" : Str) ++ (if ts = [] then ("" : Str) else (" " : Str) ++ Str.join (", " : Str) (ts.map wt))
theorem l1 : ("(" : Str) = ⟨#[40]⟩ := by decide +kernel
theorem l2 : (")" : Str) = ⟨#[41]⟩ := by decide +kernel
theorem l3 : (" " : Str) = ⟨#[32]⟩ := by decide +kernel
theorem t1 : tl (", " : Str) = [44, 32] := by decide +kernel
theorem t2 : tl (") <-" : Str) = [41, 32, 60, 45] := by decide +kernel
theorem t3 : tl ("), " : Str) = [41, 44, 32] := by decide +kernel
theorem t4 : tl ("(" : Str) = [40] := by decide +kernel
theorem t5 : tl (")" : Str) = [41] := by decide +kernel
theorem t6 : tl (" " : Str) = [32] := by decide +kernel
theorem t7 : tl ("" : Str) = [] := by decide +kernel
theorem n1 : (", " : Str).length = 2 := by decide +kernel
theorem n2 : (") <-" : Str).length = 4 := by decide +kernel
theorem n3 : ("), " : Str).length = 3 := by decide +kernel
theorem n4 : ("(" : Str).length = 1 := by decide +kernel
theorem n5 : (")" : Str).length = 1 := by decide +kernel
theorem n6 : (" " : Str).length = 1 := by decide +kernel
theorem n7 : ("" : Str).length = 0 := by decide +kernel
theorem tapp (a b : Str) : tl (a ++ b) = tl a ++ tl b := app_list a b
theorem al_no : 40 ∉ AL ∧ 41 ∉ AL ∧ 44 ∉ AL ∧ 32 ∉ AL := by decide +kernel
theorem nm_no {x : Str} (h : Nm x) : 40 ∉ tl x ∧ 41 ∉ tl x ∧ 44 ∉ tl x ∧ 32 ∉ tl x :=
  ⟨fun z => al_no.1 (nm_al h _ z), fun z => al_no.2.1 (nm_al h _ z), fun z => al_no.2.2.1 (nm_al h _ z), fun z => al_no.2.2.2 (nm_al h _ z)⟩
theorem tb_no {x : Str} (h : Tb x) : 40 ∉ tl x ∧ 41 ∉ tl x ∧ 44 ∉ tl x ∧ 32 ∉ tl x :=
  ⟨fun z => al_no.1 (tb_al h _ z), fun z => al_no.2.1 (tb_al h _ z), fun z => al_no.2.2.1 (tb_al h _ z), fun z => al_no.2.2.2 (tb_al h _ z)⟩
theorem tl_wt (t : T3 Str Str Str) : tl (wt t) = pw t ++ [41] := by
  unfold wt pw
  rw [tapp, tapp, tapp, tapp, tapp, t4, t1, t5]
  simp
theorem wt_len {t : T3 Str Str Str} (h : VT t) : (wt t).length ≤ 19 := by
  unfold wt
  rw [len_app, len_app, len_app, len_app, len_app, n4, n1, n5]
  have a := h.1.2.1
  have b := h.2.1.2
  have c := h.2.2.2
  omega
theorem pw_no {t : T3 Str Str Str} (h : VT t) : 41 ∉ pw t := fun z => by
  unfold pw at z
  simp only [List.mem_append, List.mem_cons] at z
  rcases z with z | z | z | z | z | z
  · exact (tb_no h.1).2.1 z
  · cases z
  · exact (nm_no h.2.1).2.1 z
  · cases z
  · cases z
  · exact (nm_no h.2.2).2.1 z
/-- the tie's parts -/
theorem tie_part {t : T3 Str Str Str} (h : VT t) : ∃ c : Str, Txt.partition (wt t) ("(" : Str) = (t.a, ("(" : Str), c) ∧ tl c = tl t.b ++ 44 :: 32 :: (tl t.c ++ [41]) := by
  obtain ⟨a, c, e, ea, ec⟩ := part_at (x := wt t) (y := ("(" : Str)) (c0 := 40) (yr := []) (p := tl t.a) (r := tl t.b ++ 44 :: 32 :: (tl t.c ++ [41])) t4 (tb_no h.1).1 (by
    rw [tl_wt, t4]; unfold pw; simp)
  rw [str_ext ea] at e
  exact ⟨c, e, ec⟩
theorem head_split {hd : List Str} (hn : hd ≠ []) (h : ∀ x ∈ hd, Nm x) : Txt.split (Str.join (", " : Str) hd) (", " : Str) = hd :=
  split_join t1 (by decide +kernel) hn fun x hx => (nm_no (h x hx)).2.2.1
/-- the ties' texts, parted -/
theorem ties_split {us : List (T3 Str Str Str)} {t : T3 Str Str Str} (h : ∀ u ∈ us, VT u) (ht : VT t) : Txt.split (Str.join (", " : Str) ((us ++ [t]).map wt)) ("), " : Str) = us.map (fun u => (⟨(pw u).toArray⟩ : Str)) ++ [wt t] := by
  apply map_tl_inj
  have key : ∀ vs : List (T3 Str Str Str), glue [44, 32] (vs.map fun u => tl (wt u)) (tl (wt t)) = glue [41, 44, 32] (vs.map pw) (tl (wt t)) := fun vs => by
    induction vs with
    | nil => rfl
    | cons v vs ih => rw [List.map_cons, List.map_cons, glue_cons, glue_cons, ih, tl_wt]; simp
  rw [split_parts (c0 := 41) (yr := [44, 32]) (L := tl (wt t)) (ps := us.map pw) t3 (by decide +kernel) (fun j r z => by
    rw [t3, tl_wt] at z
    have g0 : (pw t ++ [41])[j]? = some 41 := by rw [← Nat.add_zero j, ← List.getElem?_drop, z]; rfl
    have g1 : (pw t ++ [41])[j + 1]? = some 44 := by rw [← List.getElem?_drop, z]; rfl
    by_cases q : j < (pw t).length
    · rw [List.getElem?_append_left q] at g0
      exact pw_no ht (List.mem_of_getElem? g0)
    · rw [List.getElem?_append_right (by omega), List.getElem?_eq_none (by simp; omega)] at g1
      cases g1) (fun p hp => by
    obtain ⟨u, hu, rfl⟩ := List.mem_map.mp hp
    exact pw_no (h u hu)) (by
    rw [List.map_append, List.map_singleton, join_glue, List.map_map, t1, t3]
    exact key us), List.map_append, List.map_map]
  rfl
/-- the question's text, parted -/
theorem head_no {hd : List Str} (h : ∀ x ∈ hd, Nm x) : 41 ∉ tl (Str.join (", " : Str) hd) := fun z => by
  rcases mem_join z with z | ⟨x, hx, z⟩
  · rw [t1] at z; simp at z
  · exact (nm_no (h x hx)).2.1 z
theorem q_part {ts : List (T3 Str Str Str)} {hd : List Str} (h : ∀ x ∈ hd, Nm x) : ∃ a b : Str, Txt.partition (qtx ts hd) (") <-" : Str) = (a, (") <-" : Str), b) ∧ tl a = 40 :: tl (Str.join (", " : Str) hd) ∧ tl b = if ts = [] then [] else 32 :: tl (Str.join (", " : Str) (ts.map wt)) := by
  refine part_at t2 (p := 40 :: tl (Str.join (", " : Str) hd)) (fun z => ?_) ?_
  · rcases List.mem_cons.mp z with z | z
    · cases z
    · exact head_no h z
  · unfold qtx
    rw [tapp, tapp, tapp, t4]
    split
    · rw [t7]; simp
    · rw [tapp, t6]; simp
theorem hj_len {hd : List Str} (h : ∀ x ∈ hd, Nm x) (n : hd.length ≤ 10) : (Str.join (", " : Str) hd).length ≤ 80 := by
  have := len_join (y := (", " : Str)) (B := 6) (xs := hd) fun x hx => (h x hx).2
  rw [n1] at this
  omega
theorem tj_len {ts : List (T3 Str Str Str)} (h : ∀ t ∈ ts, VT t) (n : ts.length ≤ 30) : (Str.join (", " : Str) (ts.map wt)).length ≤ 630 := by
  have := len_join (y := (", " : Str)) (B := 19) (xs := ts.map wt) fun x hx => by
    obtain ⟨t, ht, rfl⟩ := List.mem_map.mp hx
    exact wt_len (h t ht)
  rw [n1, List.length_map] at this
  omega
theorem q_len {ts : List (T3 Str Str Str)} {hd : List Str} (h : ∀ x ∈ hd, Nm x) (n : hd.length ≤ 10) (ht : ∀ t ∈ ts, VT t) (m : ts.length ≤ 30) : (qtx ts hd).length ≤ 900 := by
  have a := hj_len h n
  have b := tj_len ht m
  unfold qtx
  rw [len_app, len_app, len_app, n4, n2]
  split
  · rw [n7]; omega
  · rw [len_app, n6]; omega
theorem nm_ne {x : Str} (h : Nm x) : tl x ≠ [] := fun z => by
  obtain ⟨c, r, e, _⟩ := h.1
  have e : tl x = c :: r := e
  rw [e] at z; cases z
theorem hj_nil {hd : List Str} (h : ∀ x ∈ hd, Nm x) : tl (Str.join (", " : Str) hd) = [] ↔ hd = [] := by
  match hd, h with
  | [], _ => exact ⟨fun _ => rfl, fun _ => rfl⟩
  | [x], h => exact ⟨fun z => absurd z (nm_ne (h x (List.mem_singleton_self x))), fun z => nomatch z⟩
  | a :: b :: r, h =>
    refine ⟨fun z => ?_, fun z => nomatch z⟩
    have z : tl (a ++ (", " : Str) ++ Str.join (", " : Str) (b :: r)) = [] := z
    rw [tapp, tapp] at z
    have := congrArg List.length z
    simp [t1] at this
theorem empty_app (x : Str) : ("" : Str) ++ x = x := str_ext (by rw [app_list]; rfl)
theorem app_empty (x : Str) : x ++ ("" : Str) = x := str_ext (by
  rw [app_list]
  show x.cps.toList ++ tl ("" : Str) = _
  rw [t7, List.append_nil])
end My

namespace My
open PySem FB
/-! ### k06 itself -/
theorem write_ok {t : T3 Str Str Str} (h : VT t) : m_write_tie t = some (wt t) := by
  have a := h.1.2.1
  have b := h.2.1.2
  have c := h.2.2.2
  unfold m_write_tie
  rw [addS_ok (by rw [n7]; omega), Option.bind_some, empty_app, addS_ok (by rw [n4]; omega), Option.bind_some, addS_ok (by rw [len_app, n4]; omega), Option.bind_some,
    addS_ok (by rw [len_app, len_app, n4, n1]; omega), Option.bind_some, addS_ok (by rw [len_app, len_app, len_app, n4, n1]; omega), Option.bind_some,
    addS_ok (by rw [len_app, len_app, len_app, len_app, n4, n1, n5]; omega), Option.bind_some]
  rfl
theorem text_C {t : T3 Str Str Str} (h : VT t) : m_law_text_C1 t = some (some (wt t)) := by
  have a := h.1.2.1
  have b := h.2.1.2
  have c := h.2.2.2
  unfold m_law_text_C1
  rw [addS_ok (by rw [n4]; omega), Option.bind_some, addS_ok (by rw [len_app, n4]; omega), Option.bind_some,
    addS_ok (by rw [len_app, len_app, n4, n1]; omega), Option.bind_some, addS_ok (by rw [len_app, len_app, len_app, n4, n1]; omega), Option.bind_some,
    addS_ok (by rw [len_app, len_app, len_app, len_app, n4, n1, n5]; omega), Option.bind_some]
  rfl
section
variable {ts : List (T3 Str Str Str)} {hd : List Str}
theorem jO_hd (h : ∀ x ∈ hd, Nm x) (n : hd.length ≤ 10) : joinO (", " : Str) hd = some (Str.join (", " : Str) hd) :=
  joinO_ok (B := 6) (n := 10) (fun x hx => (h x hx).2) n (by rw [n1]; decide)
theorem jO_ts (h : ∀ t ∈ ts, VT t) (n : ts.length ≤ 30) : joinO (", " : Str) (ts.map wt) = some (Str.join (", " : Str) (ts.map wt)) :=
  joinO_ok (B := 19) (n := 30) (fun x hx => by
    obtain ⟨t, ht, rfl⟩ := List.mem_map.mp hx
    exact wt_len (h t ht)) (by rw [List.length_map]; exact n) (by rw [n1]; decide)
theorem text_ok (h : ∀ x ∈ hd, Nm x) (n : hd.length ≤ 10) (ht : ∀ t ∈ ts, VT t) (m : ts.length ≤ 30) : m_law_text ts hd = some (qtx ts hd) := by
  have a := hj_len h n
  have b := tj_len ht m
  unfold m_law_text
  rw [jO_hd h n, Option.bind_some, addS_ok (by rw [n4]; omega), Option.bind_some, addS_ok (by rw [len_app, n4, n2]; omega), Option.bind_some,
    compO_map (f := m_law_text_C1) (g := wt) fun t q => text_C (ht t q), Option.bind_some]
  unfold qtx
  by_cases c : ts = []
  · subst c
    rw [List.map_nil, decide_eq_true rfl, if_pos rfl, if_pos rfl, app_empty]
  · rw [decide_eq_false (by intro z; exact c (List.map_eq_nil_iff.mp z)), if_neg (by decide), if_neg c, addS_ok (by rw [len_app, len_app, n4, n2, n6]; omega), Option.bind_some, jO_ts ht m, Option.bind_some,
      addS_ok (by rw [len_app, len_app, len_app, n4, n2, n6]; omega), Option.bind_some]
    refine congrArg some (str_ext ?_)
    simp only [app_list, List.append_assoc]
theorem str_ok (h : ∀ x ∈ hd, Nm x) (n : hd.length ≤ 10) (ht : ∀ t ∈ ts, VT t) (m : ts.length ≤ 30) : m_Question___str__ ⟨ts, Tp.mk hd⟩ = some (qtx ts hd) := by
  have a := hj_len h n
  have b := tj_len ht m
  unfold m_Question___str__
  show Option.bind (joinO (", " : Str) hd) _ = _
  rw [jO_hd h n, Option.bind_some]
  have g : (if (decide ((0 : Int) < ((ts).length : Int))) = true then some (" " : Str) else some ("" : Str)) = some (if ts = [] then ("" : Str) else (" " : Str)) := by
    cases ts with
    | nil => rfl
    | cons t r => rw [decide_eq_true (by simp)]; rfl
  show Option.bind (if (decide ((0 : Int) < ((ts).length : Int))) = true then some (" " : Str) else some ("" : Str)) _ = _
  have gl : (if ts = [] then ("" : Str) else (" " : Str)).length ≤ 1 := by split <;> first | (rw [n7]; omega) | (rw [n6]; omega)
  rw [g, Option.bind_some]
  show Option.bind (compO ts m_Question___str___C1) _ = _
  rw [compO_map (f := m_Question___str___C1) (g := wt) fun t q => by unfold m_Question___str___C1; rw [write_ok (ht t q)]; rfl]
  rw [Option.bind_some, jO_ts ht m, Option.bind_some, addS_ok (by rw [n7, n4]; omega), Option.bind_some, empty_app, addS_ok (by rw [n4]; omega), Option.bind_some, addS_ok (by rw [len_app, n4, n2]; omega), Option.bind_some,
    addS_ok (by rw [len_app, len_app, n4, n2]; omega), Option.bind_some, addS_ok (by rw [len_app, len_app, len_app, n4, n2]; omega), Option.bind_some]
  unfold qtx
  refine congrArg some ?_
  by_cases c : ts = []
  · subst c
    rw [if_pos rfl, if_pos rfl, app_empty]
    exact app_empty _
  · rw [if_neg c, if_neg c]
    refine str_ext ?_
    simp only [app_list, List.append_assoc]
theorem read_tie_ok {t : T3 Str Str Str} (h : VT t) : m_read_tie (wt t) = some t := by
  obtain ⟨c, e, ec⟩ := tie_part h
  have lw := wt_len h
  have lc : c.length ≤ 19 := by
    have := congrArg List.length ec
    rw [len_list, List.length_append, List.length_cons, List.length_cons, List.length_append, len_list, len_list, List.length_singleton] at this
    have b := h.2.1.2
    have d := h.2.2.2
    omega
  have eb : cutS c none (some (-1)) = Str.join (", " : Str) [t.b, t.c] := by
    refine str_ext ?_
    rw [cut_none_neg]
    show (tl c).take _ = tl (t.b ++ (", " : Str) ++ t.c)
    rw [tapp, tapp, t1, ← len_list, ec]
    have e2 : tl t.b ++ 44 :: 32 :: (tl t.c ++ [41]) = (tl t.b ++ [44, 32] ++ tl t.c) ++ [41] := by simp
    rw [show c.cps.toList = tl c from rfl, ec, e2, List.length_append, List.length_singleton, Nat.add_sub_cancel, List.take_left]
  have es : Txt.split (Str.join (", " : Str) [t.b, t.c]) (", " : Str) = [t.b, t.c] := head_split (by simp) fun x hx => by
    rcases List.mem_cons.mp hx with rfl | hx
    · exact h.2.1
    · rw [List.mem_singleton.mp hx]; exact h.2.2
  have en : Txt.endswith c (")" : Str) = true := by
    rw [l2, ends_one, ec]
    refine decide_eq_true ?_
    rw [show tl t.b ++ 44 :: 32 :: (tl t.c ++ [41]) = (tl t.b ++ [44, 32] ++ tl t.c) ++ [41] by simp, List.getLast?_concat]
  unfold m_read_tie
  rw [partO_ok (by omega) (by decide +kernel) e, Option.bind_some]
  show Option.bind (cutSO c none (some (-1))) _ = _
  rw [cutSO_ok _ _ (by omega), eb, Option.bind_some, splitO_ok (by
    have := len_join (y := (", " : Str)) (B := 6) (xs := [t.b, t.c]) fun x hx => by
      rcases List.mem_cons.mp hx with rfl | hx
      · exact h.2.1.2
      · rw [List.mem_singleton.mp hx]; exact h.2.2.2
    rw [n1] at this
    simp at this
    omega) (by decide +kernel), es, Option.bind_some, fitL_ok (by simp), Option.bind_some]
  have q1 : ("(" : Str) ≠ ("" : Str) := by decide +kernel
  dsimp only
  rw [decide_eq_false q1, if_neg (by decide), en]
  simp only [Bool.not_true, Bool.false_eq_true, if_false, Option.bind_some]
  have g0 : getI [t.b, t.c] (0 : Int) = some t.b := rfl
  have g1 : getI [t.b, t.c] (1 : Int) = some t.c := rfl
  rw [is_table_ok h.1]
  simp only [g0, g1, is_name_ok h.2.1, is_name_ok h.2.2, Option.bind_some]
  rfl
theorem pw_str (t : T3 Str Str Str) : (⟨(pw t).toArray⟩ : Str) ++ (")" : Str) = wt t := str_ext (by
  show tl (_ ++ _) = tl (wt t)
  rw [tapp, t5, tl_wt])
theorem read_ok (h : ∀ x ∈ hd, Nm x) (n : hd.length ≤ 10) (ht : ∀ t ∈ ts, VT t) (m : ts.length ≤ 30) : m_Question_read (qtx ts hd) = m_Question___init__ ts hd := by
  obtain ⟨a, b, e, ea, eb⟩ := q_part (ts := ts) h
  have lq := q_len h n ht m
  have lj := hj_len h n
  have lt := tj_len ht m
  have la : a.length ≤ 900 := by
    have := congrArg List.length ea
    rw [len_list, List.length_cons, len_list] at this
    omega
  have lb : b.length ≤ 900 := by
    have := congrArg List.length eb
    rw [len_list] at this
    by_cases c : ts = []
    · rw [if_pos c] at this; simp at this; omega
    · rw [if_neg c, List.length_cons, len_list] at this; omega
  have st : Txt.startswith a ("(" : Str) = true := by rw [l1, starts_one, ea]; rfl
  have x28 : (if (decide (a = ("(" : Str))) = true then some ([] : List Str) else
      Option.bind (cutSO a (some (1 : Int)) none) fun x38 => Option.bind (splitO x38 (", " : Str)) fun y40 => Option.bind (fitL y40) fun _ => some y40) = some hd := by
    by_cases c : hd = []
    · subst c
      rw [decide_eq_true (str_ext (by show tl a = tl _; rw [ea, t4]; rfl)), if_pos rfl]
    · have ne : a ≠ ("(" : Str) := fun z => by
        rw [z, t4] at ea
        injection ea with _ ea
        exact c ((hj_nil h).mp ea.symm)
      have ec : cutS a (some (1 : Int)) none = Str.join (", " : Str) hd := by
        refine str_ext ?_
        rw [cut_list, cut_suf _ (by decide)]
        show (tl a).drop _ = _
        rw [ea]; rfl
      rw [decide_eq_false ne, if_neg (by decide), cutSO_ok _ _ (by omega), ec, Option.bind_some, splitO_ok (by omega) (by decide +kernel), head_split c h, Option.bind_some, fitL_ok (by omega), Option.bind_some]
  have x72 : (if (!decide (b = ("" : Str))) = true then
      Option.bind (cutSO b (some (1 : Int)) none) fun x81 =>
      Option.bind (splitO x81 (("), " : Str))) fun y83 =>
      Option.bind (fitL y83) fun _ =>
      Option.bind (starL y83) fun ⟨y90, z91⟩ =>
      Option.bind (compO y90 m_Question_read_C2) fun y98 =>
      Option.bind (m_read_tie z91) fun x122 =>
      Option.bind (catL y98 ([x122] : List (T3 Str Str Str))) fun y132 =>
      some y132
      else some ([] : List (T3 Str Str Str))) = some ts := by
    by_cases c : ts = []
    · subst c
      rw [if_pos rfl] at eb
      rw [decide_eq_true (show b = ("" : Str) from str_ext (by show tl b = tl _; rw [eb, t7]))]; rfl
    · rw [if_neg c] at eb
      have ne : b ≠ ("" : Str) := fun z => by rw [z, t7] at eb; cases eb
      have ec : cutS b (some (1 : Int)) none = Str.join (", " : Str) (ts.map wt) := by
        refine str_ext ?_
        rw [cut_list, cut_suf _ (by decide)]
        show (tl b).drop _ = _
        rw [eb]; rfl
      obtain ⟨us, t, rfl⟩ : ∃ us t, ts = us ++ [t] := ⟨_, _, (List.dropLast_concat_getLast c).symm⟩
      have hu : ∀ u ∈ us, VT u := fun u q => ht u (by simp [q])
      have h1 : VT t := ht t (by simp)
      rw [List.length_append, List.length_singleton] at m
      rw [decide_eq_false ne, if_pos (by decide), cutSO_ok _ _ (by omega), ec, Option.bind_some, splitO_ok (by omega) (by decide +kernel), ties_split hu h1, Option.bind_some,
        fitL_ok (by simp; omega), Option.bind_some, starL_ok (by rw [List.length_map]; omega), Option.bind_some]
      show Option.bind (compO (us.map fun u => (⟨(pw u).toArray⟩ : Str)) m_Question_read_C2) _ = _
      have cm : compO (us.map fun u => (⟨(pw u).toArray⟩ : Str)) m_Question_read_C2 = some us := by
        have key : ∀ vs : List (T3 Str Str Str), (∀ u ∈ vs, VT u) → compO (vs.map fun u => (⟨(pw u).toArray⟩ : Str)) m_Question_read_C2 = some vs := fun vs => by
          induction vs with
          | nil => intro _; rfl
          | cons v vs ih =>
            intro q
            have q1 := q v List.mem_cons_self
            have q2 := wt_len q1
            rw [← pw_str, len_app] at q2
            rw [List.map_cons, compO]
            have e1 : m_Question_read_C2 (⟨(pw v).toArray⟩ : Str) = some (some v) := by
              unfold m_Question_read_C2
              rw [addS_ok (by omega), Option.bind_some, pw_str, read_tie_ok q1]; rfl
            rw [e1, ih fun u hu => q u (List.mem_cons_of_mem _ hu)]; rfl
        exact key us hu
      rw [cm, Option.bind_some, read_tie_ok h1, Option.bind_some, catL_ok (by simp; omega)]; rfl
  unfold m_Question_read
  rw [partO_ok (by omega) (by decide +kernel) e, Option.bind_some]
  have q1 : (") <-" : Str) ≠ ("" : Str) := by decide +kernel
  dsimp only
  have sb : (if (!decide (b = ("" : Str))) = true then some (!(Txt.startswith b (" " : Str))) else some false) = some false := by
    by_cases c : ts = []
    · rw [if_pos c] at eb
      rw [decide_eq_true (show b = ("" : Str) from str_ext (by show tl b = tl _; rw [eb, t7]))]; rfl
    · rw [if_neg c] at eb
      have ne : b ≠ ("" : Str) := fun z => by rw [z, t7] at eb; cases eb
      rw [decide_eq_false ne, if_pos (by decide), l3, starts_one, eb]; rfl
  rw [decide_eq_false q1, if_neg (by decide), st, sb]
  simp only [Bool.not_true, Bool.false_eq_true, if_false, Option.bind_some]
  have x28 := x28
  have c1 : compO hd m_Question_read_C1 = some (hd.map fun _ => true) := compO_map fun x hx => by unfold m_Question_read_C1; rw [is_name_ok (h x hx)]; rfl
  have al : ((hd.map fun _ => true).all id) = true := by simp
  first
    | rw [x28, Option.bind_some, c1, Option.bind_some, al, if_neg not_true_ne, x72, Option.bind_some]
    | skip
  cases m_Question___init__ ts hd <;> rfl
end
theorem nil_ask {ts : List (T3 Str Str Str)} {hd cur : List Str} (A : TA ts hd) : m_Question_ask ⟨(uniq ts).mergeSort leK, Tp.mk cur⟩ (Tp.mk []) = some ⟨(uniq ts).mergeSort leK, Tp.mk []⟩ := by
  unfold m_Question_ask m_Question_head_setter m_check_words_i1 m_check_head_i1
  rw [foldO, Option.bind_some]
  show Option.bind (Option.bind (Option.bind (some ()) _) _) _ = _
  rw [Option.bind_some, Option.bind_some, Q_names A, Option.bind_some]
  rfl
theorem law_true (ns : List Int) (hl : ns.length ≤ 63) : m_law ns = some true := by
  unfold m_law
  obtain ⟨p, e, hp⟩ := pool_ok hl
  obtain ⟨ts, hd, p1, N, T, e1, hp1, q⟩ := question_ok (most := 6) hp (by decide) (by decide)
  obtain ⟨k2, p2, e2, a2, b2, hp2⟩ := take_ok (n := 4) hp1 (by decide) (by decide)
  have htl := q.tl
  have cl : (cutL ts none (some k2)).length ≤ ts.length := by rw [cut_pre _ a2, List.length_take]; omega
  have A : TA (ts ++ cutL ts none (some k2)) hd := q.ta (by decide) (fun t => by
    rw [List.mem_append, cut_pre _ a2]
    exact ⟨fun z => z.elim id List.mem_of_mem_take, .inl⟩) (by rw [List.length_append]; omega)
  have y31 : catL ts (cutL ts none (some k2)) = some (ts ++ cutL ts none (some k2)) := catL_ok (by omega)
  have yl : (ts ++ cutL ts none (some k2)).length ≤ 30 := by rw [List.length_append]; omega
  have hdl := q.hl
  generalize ts ++ cutL ts none (some k2) = ys at A y31 yl
  have hv : ∀ t ∈ ys, VT t := fun t ht => ⟨A.a t ht, A.b t ht, A.c t ht⟩
  have hn : ∀ x ∈ hd, Nm x := fun x hx => A.names x (A.hn x hx)
  have sm : ∀ t, t ∈ (uniq ys).mergeSort leK ↔ t ∈ ys := fun t => by rw [mem_sort, mem_uniq]
  have hvs : ∀ t ∈ (uniq ys).mergeSort leK, VT t := fun t ht => hv t ((sm t).mp ht)
  have sl : ((uniq ys).mergeSort leK).length ≤ 30 := by rw [len_sort]; have := A.u; omega
  have same : (uniq ((uniq ys).mergeSort leK)).mergeSort leK = (uniq ys).mergeSort leK := uniq_same3 sm fun t ht => hvs t ht
  have As : TA ((uniq ys).mergeSort leK) hd := {
    l := by omega
    a := fun t ht => (hvs t ht).1
    b := fun t ht => (hvs t ht).2.1
    c := fun t ht => (hvs t ht).2.2
    u := Nat.le_trans (len_sub (nodup_uniq _) fun t ht => mem_uniq.mpr ((sm t).mp (mem_uniq.mp ht))) A.u
    n := by
      rw [show srt (namesOf ((uniq ys).mergeSort leK)) = srt (namesOf ys) from srt_same fun x => by
        rw [mem_namesOf, mem_namesOf]
        exact ⟨fun ⟨t, h1, h2⟩ => ⟨t, (sm t).mp h1, h2⟩, fun ⟨t, h1, h2⟩ => ⟨t, (sm t).mpr h1, h2⟩⟩]
      exact A.n
    h := A.h
    hn := fun x hx => by
      obtain ⟨t, h1, h2⟩ := mem_namesOf.mp (A.hn x hx)
      exact mem_namesOf.mpr ⟨t, (sm t).mpr h1, h2⟩ }
  have x40 : m_law_rank_T ys = some ((uniq ys).mergeSort leK) := by rw [rank3 (by omega), A.sort3]
  have x47 := text_ok hn (by omega) hvs sl
  have x71 := text_ok hn (by omega) hv yl
  have xs := str_ok hn (by omega) hvs sl
  have turn : ∀ zs, (zs = ys ∨ zs = (uniq ys).mergeSort leK) → m_law_L1 ⟨ts, hd⟩ ys (qtx ((uniq ys).mergeSort leK) hd) (qtx zs hd) () = some (.go ()) := fun zs hz => by
    have rd : m_Question_read (qtx zs hd) = some ⟨(uniq ys).mergeSort leK, Tp.mk hd⟩ := by
      rcases hz with rfl | rfl
      · rw [read_ok hn (by omega) hv yl, init_ok A]
      · rw [read_ok hn (by omega) hvs sl, init_ok As, same]
    have li := law_is_ok A (cur := hd) (by omega)
    unfold m_law_L1
    simp only [rd, li, xs, Option.bind_some, Bool.not_true, Bool.false_eq_true, if_false, decide_true, nil_ask A]
  rw [e, Option.bind_some, e1, Option.bind_some]
  show Option.bind (m_law_take p1 4) _ = _
  rw [e2, Option.bind_some]
  show Option.bind (catL ts (cutL ts none (some k2))) _ = _
  rw [y31, Option.bind_some, x40, Option.bind_some]
  show Option.bind (m_law_text ((uniq ys).mergeSort leK) hd) _ = _
  rw [x47, Option.bind_some]
  show Option.bind (m_Question___init__ ys hd) _ = _
  rw [init_ok A, Option.bind_some]
  show Option.bind (m_law_text ys hd) _ = _
  rw [x71, Option.bind_some]
  have lp : loopO [qtx ((uniq ys).mergeSort leK) hd, qtx ys hd] () (m_law_L1 ⟨ts, hd⟩ ys (qtx ((uniq ys).mergeSort leK) hd)) = some (.go ()) := loopO_go fun x hx => by
    rcases List.mem_cons.mp hx with rfl | hx
    · exact turn _ (.inr rfl)
    · rw [List.mem_singleton.mp hx]; exact turn _ (.inl rfl)
  have x188 := text_ok (hd := []) (fun x hx => nomatch hx) (by simp) hvs sl
  have xs2 := str_ok (hd := []) (fun x hx => nomatch hx) (by simp) hvs sl
  rw [lp, Option.bind_some]
  simp only [xs, Option.bind_some, decide_true, Bool.not_true, Bool.false_eq_true, if_false, nil_ask A, xs2, x188]
end My

namespace My
open PySem L2 FB
abbrev nm_Question : List Str := ["_ties", "_head"]
instance : TD O_Question := ⟨fun q => .obj "Question" [("_ties", td q.f_ties), ("_head", td q.f_head)]⟩

def top (i : Nat) : Stmt := PySem.Challenge.pw_foldbelow_k06_question_text.main.body.getD i (.Pass ⟨0, 0, 0, 0⟩)
abbrev s_law_pool : Stmt := top 29
abbrev N_law_pool : List Str := ["_law_script", "_law_pool_here", "_law_cell"]
theorem sc_law_pool : FnScope N_law_pool ["_law_script"] (defScope s_law_pool) := ⟨rfl, rfl, rfl, by decide +kernel, rfl, by decide +kernel, by decide +kernel⟩
abbrev s_law_take : Stmt := top 30
abbrev N_law_take : List Str := ["_law_pool_here", "_law_many", "_law_digit", "_law_mixed"]
theorem sc_law_take : FnScope N_law_take ["_law_pool_here", "_law_many"] (defScope s_law_take) := ⟨rfl, rfl, rfl, by decide +kernel, rfl, by decide +kernel, by decide +kernel⟩
abbrev s_law_word : Stmt := top 31
abbrev N_law_word : List Str := ["_law_pool_here", "_law_size", "_law_marks", "_law_word_here", "_law_k"]
theorem sc_law_word : FnScope N_law_word ["_law_pool_here", "_law_size"] (defScope s_law_word) := ⟨rfl, rfl, rfl, by decide +kernel, rfl, by decide +kernel, by decide +kernel⟩
abbrev s_law_words : Stmt := top 32
abbrev N_law_words : List Str := ["_law_pool_here", "_law_many", "_law_marks", "_law_base", "_law_place", "_law_start", "_law_step", "_law_mode", "_law_words_here", "_law_k", "_law_sign"]
theorem sc_law_words : FnScope N_law_words ["_law_pool_here", "_law_many"] (defScope s_law_words) := ⟨rfl, rfl, rfl, by decide +kernel, rfl, by decide +kernel, by decide +kernel⟩
abbrev s_law_tables : Stmt := top 33
abbrev N_law_tables : List Str := ["_law_pool_here", "_law_many", "_law_marks", "_law_base", "_law_k", "_law_place", "_law_start", "_law_nested", "_law_tables_here", "_law_sign"]
theorem sc_law_tables : FnScope N_law_tables ["_law_pool_here", "_law_many"] (defScope s_law_tables) := ⟨rfl, rfl, rfl, by decide +kernel, rfl, by decide +kernel, by decide +kernel⟩
abbrev s_law_ties : Stmt := top 36
abbrev N_law_ties : List Str := ["_law_pool_here", "_law_names", "_law_tables_here", "_law_many", "_law_ties_here", "_law_mode", "_law_k", "_law_one", "_law_two", "_law_child", "_law_spot"]
theorem sc_law_ties : FnScope N_law_ties ["_law_pool_here", "_law_names", "_law_tables_here", "_law_many"] (defScope s_law_ties) := ⟨rfl, rfl, rfl, by decide +kernel, rfl, by decide +kernel, by decide +kernel⟩
abbrev s_law_met : Stmt := top 34
abbrev N_law_met : List Str := ["_law_ties_here", "_law_met_here", "_law_tie", "_law_name"]
theorem sc_law_met : FnScope N_law_met ["_law_ties_here"] (defScope s_law_met) := ⟨rfl, rfl, rfl, by decide +kernel, rfl, by decide +kernel, by decide +kernel⟩
abbrev s_law_head : Stmt := top 37
abbrev N_law_head : List Str := ["_law_pool_here", "_law_ties_here", "_law_met_here", "_law_head_here", "_law_k"]
theorem sc_law_head : FnScope N_law_head ["_law_pool_here", "_law_ties_here"] (defScope s_law_head) := ⟨rfl, rfl, rfl, by decide +kernel, rfl, by decide +kernel, by decide +kernel⟩
abbrev s_law_question : Stmt := top 38
abbrev N_law_question : List Str := ["_law_pool_here", "_law_most", "_law_names", "_law_tables_here", "_law_many", "_law_ties_here"]
theorem sc_law_question : FnScope N_law_question ["_law_pool_here", "_law_most"] (defScope s_law_question) := ⟨rfl, rfl, rfl, by decide +kernel, rfl, by decide +kernel, by decide +kernel⟩
abbrev s_law_rank_T : Stmt := top 35
abbrev N_law_rank_T : List Str := ["_law_things", "_law_rank_here", "_law_thing"]
theorem sc_law_rank_T : FnScope N_law_rank_T ["_law_things"] (defScope s_law_rank_T) := ⟨rfl, rfl, rfl, by decide +kernel, rfl, by decide +kernel, by decide +kernel⟩
abbrev s_law_text : Stmt := top 41
abbrev N_law_text : List Str := ["_law_ties_here", "_law_head_here", "_law_text_here", "_law_words_here", "_law_tie"]
theorem sc_law_text : FnScope N_law_text ["_law_ties_here", "_law_head_here"] (defScope s_law_text) := ⟨rfl, rfl, rfl, by decide +kernel, rfl, by decide +kernel, by decide +kernel⟩
abbrev s_is_table : Stmt := top 17
abbrev N_is_table : List Str := ["text", "sign"]
theorem sc_is_table : FnScope N_is_table ["text"] (defScope s_is_table) := ⟨rfl, rfl, rfl, by decide +kernel, rfl, by decide +kernel, by decide +kernel⟩
abbrev s_is_name : Stmt := top 16
abbrev N_is_name : List Str := ["text", "sign"]
theorem sc_is_name : FnScope N_is_name ["text"] (defScope s_is_name) := ⟨rfl, rfl, rfl, by decide +kernel, rfl, by decide +kernel, by decide +kernel⟩
abbrev s_check_words : Stmt := top 22
abbrev N_check_words : List Str := ["ties", "head", "table", "left", "right", "name"]
theorem sc_check_words : FnScope N_check_words ["ties", "head"] (defScope s_check_words) := ⟨rfl, rfl, rfl, by decide +kernel, rfl, by decide +kernel, by decide +kernel⟩
abbrev s_ascending_T : Stmt := top 21
abbrev N_ascending_T : List Str := ["things", "found", "thing"]
theorem sc_ascending_T : FnScope N_ascending_T ["things"] (defScope s_ascending_T) := ⟨rfl, rfl, rfl, by decide +kernel, rfl, by decide +kernel, by decide +kernel⟩
abbrev s_ascending_S : Stmt := top 21
abbrev N_ascending_S : List Str := ["things", "found", "thing"]
theorem sc_ascending_S : FnScope N_ascending_S ["things"] (defScope s_ascending_S) := ⟨rfl, rfl, rfl, by decide +kernel, rfl, by decide +kernel, by decide +kernel⟩
abbrev s_names_of : Stmt := top 24
abbrev N_names_of : List Str := ["ties", "_", "left", "right"]
theorem sc_names_of : FnScope N_names_of ["ties"] (defScope s_names_of) := ⟨rfl, rfl, rfl, by decide +kernel, rfl, by decide +kernel, by decide +kernel⟩
abbrev s_check_head : Stmt := top 23
abbrev N_check_head : List Str := ["head", "names", "most", "name"]
theorem sc_check_head : FnScope N_check_head ["head", "names", "most"] (defScope s_check_head) := ⟨rfl, rfl, rfl, by decide +kernel, rfl, by decide +kernel, by decide +kernel⟩
abbrev s_Question___init__ : Stmt := inClass (top 26) 3
abbrev N_Question___init__ : List Str := ["self", "ties", "head", "different", "names", "table", "left", "right"]
theorem sc_Question___init__ : FnScope N_Question___init__ ["self", "ties", "head"] (defScope s_Question___init__) := ⟨rfl, rfl, rfl, by decide +kernel, rfl, by decide +kernel, by decide +kernel⟩
abbrev s_read_tie : Stmt := top 19
abbrev N_read_tie : List Str := ["text", "table", "mark", "inside", "words"]
theorem sc_read_tie : FnScope N_read_tie ["text"] (defScope s_read_tie) := ⟨rfl, rfl, rfl, by decide +kernel, rfl, by decide +kernel, by decide +kernel⟩
abbrev s_Question_read : Stmt := inClass (top 26) 4
abbrev N_Question_read : List Str := ["cls", "text", "inside", "arrow", "body", "head", "ties", "pieces", "last", "name", "piece"]
theorem sc_Question_read : FnScope N_Question_read ["cls", "text"] (defScope s_Question_read) := ⟨rfl, rfl, rfl, by decide +kernel, rfl, by decide +kernel, by decide +kernel⟩
abbrev s_Question_names : Stmt := inClass (top 26) 7
abbrev N_Question_names : List Str := ["self"]
theorem sc_Question_names : FnScope N_Question_names ["self"] (defScope s_Question_names) := ⟨rfl, rfl, rfl, by decide +kernel, rfl, by decide +kernel, by decide +kernel⟩
abbrev s_law_rank_S : Stmt := top 35
abbrev N_law_rank_S : List Str := ["_law_things", "_law_rank_here", "_law_thing"]
theorem sc_law_rank_S : FnScope N_law_rank_S ["_law_things"] (defScope s_law_rank_S) := ⟨rfl, rfl, rfl, by decide +kernel, rfl, by decide +kernel, by decide +kernel⟩
abbrev s_Question_tables : Stmt := inClass (top 26) 8
abbrev N_Question_tables : List Str := ["self", "tie"]
theorem sc_Question_tables : FnScope N_Question_tables ["self"] (defScope s_Question_tables) := ⟨rfl, rfl, rfl, by decide +kernel, rfl, by decide +kernel, by decide +kernel⟩
abbrev s_Question_head : Stmt := inClass (top 26) 10
abbrev N_Question_head : List Str := ["self"]
theorem sc_Question_head : FnScope N_Question_head ["self"] (defScope s_Question_head) := ⟨rfl, rfl, rfl, by decide +kernel, rfl, by decide +kernel, by decide +kernel⟩
abbrev s_law_same_Q : Stmt := top 39
abbrev N_law_same_Q : List Str := ["_law_actual", "_law_expected", "_law_k", "_law_j", "_law_part"]
theorem sc_law_same_Q : FnScope N_law_same_Q ["_law_actual", "_law_expected"] (defScope s_law_same_Q) := ⟨rfl, rfl, rfl, by decide +kernel, rfl, by decide +kernel, by decide +kernel⟩
abbrev s_Question_ties : Stmt := inClass (top 26) 6
abbrev N_Question_ties : List Str := ["self"]
theorem sc_Question_ties : FnScope N_Question_ties ["self"] (defScope s_Question_ties) := ⟨rfl, rfl, rfl, by decide +kernel, rfl, by decide +kernel, by decide +kernel⟩
abbrev s_law_same_T : Stmt := top 39
abbrev N_law_same_T : List Str := ["_law_actual", "_law_expected", "_law_k", "_law_j", "_law_part"]
theorem sc_law_same_T : FnScope N_law_same_T ["_law_actual", "_law_expected"] (defScope s_law_same_T) := ⟨rfl, rfl, rfl, by decide +kernel, rfl, by decide +kernel, by decide +kernel⟩
abbrev s_law_is : Stmt := top 40
abbrev N_law_is : List Str := ["_law_question_here", "_law_ties_here", "_law_head_here", "_law_tie"]
theorem sc_law_is : FnScope N_law_is ["_law_question_here", "_law_ties_here", "_law_head_here"] (defScope s_law_is) := ⟨rfl, rfl, rfl, by decide +kernel, rfl, by decide +kernel, by decide +kernel⟩
abbrev s_write_tie : Stmt := top 18
abbrev N_write_tie : List Str := ["tie", "table", "left", "right"]
theorem sc_write_tie : FnScope N_write_tie ["tie"] (defScope s_write_tie) := ⟨rfl, rfl, rfl, by decide +kernel, rfl, by decide +kernel, by decide +kernel⟩
abbrev s_Question___str__ : Stmt := inClass (top 26) 20
abbrev N_Question___str__ : List Str := ["self", "head", "gap", "body", "tie"]
theorem sc_Question___str__ : FnScope N_Question___str__ ["self"] (defScope s_Question___str__) := ⟨rfl, rfl, rfl, by decide +kernel, rfl, by decide +kernel, by decide +kernel⟩
abbrev s_check_words_i1 : Stmt := top 22
abbrev N_check_words_i1 : List Str := ["ties", "head", "table", "left", "right", "name"]
theorem sc_check_words_i1 : FnScope N_check_words_i1 ["ties", "head"] (defScope s_check_words_i1) := ⟨rfl, rfl, rfl, by decide +kernel, rfl, by decide +kernel, by decide +kernel⟩
abbrev s_check_head_i1 : Stmt := top 23
abbrev N_check_head_i1 : List Str := ["head", "names", "most", "name"]
theorem sc_check_head_i1 : FnScope N_check_head_i1 ["head", "names", "most"] (defScope s_check_head_i1) := ⟨rfl, rfl, rfl, by decide +kernel, rfl, by decide +kernel, by decide +kernel⟩
abbrev s_Question_head_setter : Stmt := inClass (top 26) 11
abbrev N_Question_head_setter : List Str := ["self", "names"]
theorem sc_Question_head_setter : FnScope N_Question_head_setter ["self", "names"] (defScope s_Question_head_setter) := ⟨rfl, rfl, rfl, by decide +kernel, rfl, by decide +kernel, by decide +kernel⟩
abbrev s_Question_ask : Stmt := inClass (top 26) 12
abbrev N_Question_ask : List Str := ["self", "names"]
theorem sc_Question_ask : FnScope N_Question_ask ["self", "names"] (defScope s_Question_ask) := ⟨rfl, rfl, rfl, by decide +kernel, rfl, by decide +kernel, by decide +kernel⟩
abbrev s_law : Stmt := top 42
abbrev N_law : List Str := ["_law_script", "_law_pool_here", "_law_pair", "_law_ties_here", "_law_head_here", "_law_due", "_law_question_here", "_law_text_here", "_law_back"]
theorem sc_law : FnScope N_law ["_law_script"] (defScope s_law) := ⟨rfl, rfl, rfl, by decide +kernel, rfl, by decide +kernel, by decide +kernel⟩

structure Ad where
  ce : Str → Addr
  f__law_pool : Addr
  d__law_pool : FuncData
  f__law_take : Addr
  d__law_take : FuncData
  f__law_word : Addr
  d__law_word : FuncData
  f__law_words : Addr
  d__law_words : FuncData
  f__law_tables : Addr
  d__law_tables : FuncData
  f__law_ties : Addr
  d__law_ties : FuncData
  f__law_met : Addr
  d__law_met : FuncData
  f__law_head : Addr
  d__law_head : FuncData
  f__law_question : Addr
  d__law_question : FuncData
  f__law_rank : Addr
  d__law_rank : FuncData
  f__law_text : Addr
  d__law_text : FuncData
  f_is_table : Addr
  d_is_table : FuncData
  f_is_name : Addr
  d_is_name : FuncData
  f__check_words : Addr
  d__check_words : FuncData
  f_ascending : Addr
  d_ascending : FuncData
  f__names_of : Addr
  d__names_of : FuncData
  f__check_head : Addr
  d__check_head : FuncData
  f_Question___init__ : Addr
  d_Question___init__ : FuncData
  t_Question___init__ : Addr
  f_read_tie : Addr
  d_read_tie : FuncData
  f_Question_read : Addr
  d_Question_read : FuncData
  p_Question_read : Addr
  f_Question_names : Addr
  d_Question_names : FuncData
  p_Question_names : Addr
  f_Question_tables : Addr
  d_Question_tables : FuncData
  p_Question_tables : Addr
  f_Question_head : Addr
  d_Question_head : FuncData
  p_Question_head : Addr
  f__law_same : Addr
  d__law_same : FuncData
  f_Question_ties : Addr
  d_Question_ties : FuncData
  p_Question_ties : Addr
  f__law_is : Addr
  d__law_is : FuncData
  f_write_tie : Addr
  d_write_tie : FuncData
  f_Question___str__ : Addr
  d_Question___str__ : FuncData
  f_Question_head_setter : Addr
  d_Question_head_setter : FuncData
  p_Question_head_setter : Addr
  f_Question_ask : Addr
  d_Question_ask : FuncData
  f_law : Addr
  d_law : FuncData
structure Txt (P : Program) (K : PySem.W.Frag) (mg : Str → Option Value) (A : Ad) : Prop where
  F__law_pool : Fun K "_law_pool" "_law_pool" s_law_pool A.f__law_pool A.d__law_pool
  g__law_pool : mg "_law_pool" = some (.ref A.f__law_pool)
  k__law_pool : PySem.W.keepIn K (.ref A.f__law_pool) = true
  b__law_pool : Binds K A.d__law_pool ["_law_script"] []
  F__law_take : Fun K "_law_take" "_law_take" s_law_take A.f__law_take A.d__law_take
  g__law_take : mg "_law_take" = some (.ref A.f__law_take)
  k__law_take : PySem.W.keepIn K (.ref A.f__law_take) = true
  b__law_take : Binds K A.d__law_take ["_law_pool_here", "_law_many"] []
  F__law_word : Fun K "_law_word" "_law_word" s_law_word A.f__law_word A.d__law_word
  g__law_word : mg "_law_word" = some (.ref A.f__law_word)
  k__law_word : PySem.W.keepIn K (.ref A.f__law_word) = true
  b__law_word : Binds K A.d__law_word ["_law_pool_here", "_law_size"] []
  F__law_words : Fun K "_law_words" "_law_words" s_law_words A.f__law_words A.d__law_words
  g__law_words : mg "_law_words" = some (.ref A.f__law_words)
  k__law_words : PySem.W.keepIn K (.ref A.f__law_words) = true
  b__law_words : Binds K A.d__law_words ["_law_pool_here", "_law_many"] []
  F__law_tables : Fun K "_law_tables" "_law_tables" s_law_tables A.f__law_tables A.d__law_tables
  g__law_tables : mg "_law_tables" = some (.ref A.f__law_tables)
  k__law_tables : PySem.W.keepIn K (.ref A.f__law_tables) = true
  b__law_tables : Binds K A.d__law_tables ["_law_pool_here", "_law_many"] []
  F__law_ties : Fun K "_law_ties" "_law_ties" s_law_ties A.f__law_ties A.d__law_ties
  g__law_ties : mg "_law_ties" = some (.ref A.f__law_ties)
  k__law_ties : PySem.W.keepIn K (.ref A.f__law_ties) = true
  b__law_ties : Binds K A.d__law_ties ["_law_pool_here", "_law_names", "_law_tables_here", "_law_many"] []
  F__law_met : Fun K "_law_met" "_law_met" s_law_met A.f__law_met A.d__law_met
  g__law_met : mg "_law_met" = some (.ref A.f__law_met)
  k__law_met : PySem.W.keepIn K (.ref A.f__law_met) = true
  b__law_met : Binds K A.d__law_met ["_law_ties_here"] []
  F__law_head : Fun K "_law_head" "_law_head" s_law_head A.f__law_head A.d__law_head
  g__law_head : mg "_law_head" = some (.ref A.f__law_head)
  k__law_head : PySem.W.keepIn K (.ref A.f__law_head) = true
  b__law_head : Binds K A.d__law_head ["_law_pool_here", "_law_ties_here"] []
  F__law_question : Fun K "_law_question" "_law_question" s_law_question A.f__law_question A.d__law_question
  g__law_question : mg "_law_question" = some (.ref A.f__law_question)
  k__law_question : PySem.W.keepIn K (.ref A.f__law_question) = true
  b__law_question : Binds K A.d__law_question ["_law_pool_here", "_law_most"] []
  F__law_rank : Fun K "_law_rank" "_law_rank" s_law_rank_T A.f__law_rank A.d__law_rank
  g__law_rank : mg "_law_rank" = some (.ref A.f__law_rank)
  k__law_rank : PySem.W.keepIn K (.ref A.f__law_rank) = true
  b__law_rank : Binds K A.d__law_rank ["_law_things"] []
  F__law_text : Fun K "_law_text" "_law_text" s_law_text A.f__law_text A.d__law_text
  g__law_text : mg "_law_text" = some (.ref A.f__law_text)
  k__law_text : PySem.W.keepIn K (.ref A.f__law_text) = true
  b__law_text : Binds K A.d__law_text ["_law_ties_here", "_law_head_here"] []
  F_is_table : Fun K "is_table" "is_table" s_is_table A.f_is_table A.d_is_table
  g_is_table : mg "is_table" = some (.ref A.f_is_table)
  k_is_table : PySem.W.keepIn K (.ref A.f_is_table) = true
  b_is_table : Binds K A.d_is_table ["text"] []
  F_is_name : Fun K "is_name" "is_name" s_is_name A.f_is_name A.d_is_name
  g_is_name : mg "is_name" = some (.ref A.f_is_name)
  k_is_name : PySem.W.keepIn K (.ref A.f_is_name) = true
  b_is_name : Binds K A.d_is_name ["text"] []
  F__check_words : Fun K "_check_words" "_check_words" s_check_words A.f__check_words A.d__check_words
  g__check_words : mg "_check_words" = some (.ref A.f__check_words)
  k__check_words : PySem.W.keepIn K (.ref A.f__check_words) = true
  b__check_words : Binds K A.d__check_words ["ties", "head"] []
  F_ascending : Fun K "ascending" "ascending" s_ascending_T A.f_ascending A.d_ascending
  g_ascending : mg "ascending" = some (.ref A.f_ascending)
  k_ascending : PySem.W.keepIn K (.ref A.f_ascending) = true
  b_ascending : Binds K A.d_ascending ["things"] []
  F__names_of : Fun K "_names_of" "_names_of" s_names_of A.f__names_of A.d__names_of
  g__names_of : mg "_names_of" = some (.ref A.f__names_of)
  k__names_of : PySem.W.keepIn K (.ref A.f__names_of) = true
  b__names_of : Binds K A.d__names_of ["ties"] []
  F__check_head : Fun K "_check_head" "_check_head" s_check_head A.f__check_head A.d__check_head
  g__check_head : mg "_check_head" = some (.ref A.f__check_head)
  k__check_head : PySem.W.keepIn K (.ref A.f__check_head) = true
  b__check_head : Binds K A.d__check_head ["head", "names", "most"] []
  F_Question___init__ : FunD K "__init__" "Question.__init__" (defArgs s_Question___init__) (defBody s_Question___init__) (defScope s_Question___init__) [.ref A.t_Question___init__] [] A.f_Question___init__ A.d_Question___init__
  e_Question___init__ : SqT K (fun _ => none) A.t_Question___init__ []
  bd_Question___init__ : ∃ ds, Vals [.ref A.t_Question___init__] ds ∧ Binds K A.d_Question___init__ ["self", "ties", "head"] ds
  mk_Question : Mk K (A.ce "Question") A.f_Question___init__
  b_Question___init__ : Binds K A.d_Question___init__ ["self", "ties", "head"] []
  F_read_tie : Fun K "read_tie" "read_tie" s_read_tie A.f_read_tie A.d_read_tie
  g_read_tie : mg "read_tie" = some (.ref A.f_read_tie)
  k_read_tie : PySem.W.keepIn K (.ref A.f_read_tie) = true
  b_read_tie : Binds K A.d_read_tie ["text"] []
  F_Question_read : Fun K "read" "Question.read" s_Question_read A.f_Question_read A.d_Question_read
  cm_Question_read : ClX.CMet K (A.ce "Question") (.type "type") "read" A.p_Question_read A.f_Question_read
  b_Question_read : Binds K A.d_Question_read ["cls", "text"] []
  F_Question_names : Fun K "names" "Question.names" s_Question_names A.f_Question_names A.d_Question_names
  pr_Question_names : PropOf K (A.ce "Question") "names" A.p_Question_names A.f_Question_names
  b_Question_names : Binds K A.d_Question_names ["self"] []
  F_Question_tables : Fun K "tables" "Question.tables" s_Question_tables A.f_Question_tables A.d_Question_tables
  pr_Question_tables : PropOf K (A.ce "Question") "tables" A.p_Question_tables A.f_Question_tables
  b_Question_tables : Binds K A.d_Question_tables ["self"] []
  F_Question_head : Fun K "head" "Question.head" s_Question_head A.f_Question_head A.d_Question_head
  pr_Question_head : PropOf K (A.ce "Question") "head" A.p_Question_head A.f_Question_head
  b_Question_head : Binds K A.d_Question_head ["self"] []
  F__law_same : Fun K "_law_same" "_law_same" s_law_same_Q A.f__law_same A.d__law_same
  g__law_same : mg "_law_same" = some (.ref A.f__law_same)
  k__law_same : PySem.W.keepIn K (.ref A.f__law_same) = true
  b__law_same : Binds K A.d__law_same ["_law_actual", "_law_expected"] []
  F_Question_ties : Fun K "ties" "Question.ties" s_Question_ties A.f_Question_ties A.d_Question_ties
  pr_Question_ties : PropOf K (A.ce "Question") "ties" A.p_Question_ties A.f_Question_ties
  b_Question_ties : Binds K A.d_Question_ties ["self"] []
  F__law_is : Fun K "_law_is" "_law_is" s_law_is A.f__law_is A.d__law_is
  g__law_is : mg "_law_is" = some (.ref A.f__law_is)
  k__law_is : PySem.W.keepIn K (.ref A.f__law_is) = true
  b__law_is : Binds K A.d__law_is ["_law_question_here", "_law_ties_here", "_law_head_here"] []
  F_write_tie : Fun K "write_tie" "write_tie" s_write_tie A.f_write_tie A.d_write_tie
  g_write_tie : mg "write_tie" = some (.ref A.f_write_tie)
  k_write_tie : PySem.W.keepIn K (.ref A.f_write_tie) = true
  b_write_tie : Binds K A.d_write_tie ["tie"] []
  F_Question___str__ : Fun K "__str__" "Question.__str__" s_Question___str__ A.f_Question___str__ A.d_Question___str__
  sr_Question : SrC K (A.ce "Question") A.f_Question___str__
  b_Question___str__ : Binds K A.d_Question___str__ ["self"] []
  F_Question_head_setter : Fun K "head" "Question.head" s_Question_head_setter A.f_Question_head_setter A.d_Question_head_setter
  ps_Question_head_setter : PSet K (A.ce "Question") "head" A.p_Question_head_setter A.f_Question_head_setter
  b_Question_head_setter : Binds K A.d_Question_head_setter ["self", "names"] []
  F_Question_ask : Fun K "ask" "Question.ask" s_Question_ask A.f_Question_ask A.d_Question_ask
  m_Question_ask : Meth K (A.ce "Question") "ask" A.f_Question_ask
  bs_Question_ask : ∀ us rest : List Value, us.length = 1 → bindArgs A.d_Question_ask ⟨us ++ rest, []⟩ = (newTuple rest >>= fun t => pure ((["self"] : List Str).zip us ++ [(("names" : Str), t)]))
  F_law : Fun K "law" "law" s_law A.f_law A.d_law
  g_law : mg "law" = some (.ref A.f_law)
  k_law : PySem.W.keepIn K (.ref A.f_law) = true
  b_law : Binds K A.d_law ["_law_script"] []
  is_Question : IsC K (A.ce "Question")
  cl_Question : Cls K (A.ce "Question")
  g_Question : mg "Question" = some (.ref (A.ce "Question"))
  na_Question__ties : NoAttr K (A.ce "Question") "_ties"
  na_Question__head : NoAttr K (A.ce "Question") "_head"
  cr_Question : ClX.CRead K (A.ce "Question") (.type "type")
  cc_Question_MOST_HEAD : ∃ u, Con K (A.ce "Question") "MOST_HEAD" (.int 4) u
  cc_Question_MOST_NAMES : ∃ u, Con K (A.ce "Question") "MOST_NAMES" (.int 6) u
  cc_Question_MOST_TIES : ∃ u, Con K (A.ce "Question") "MOST_TIES" (.int 12) u
  n_abs : mg "abs" = none
  n_all : mg "all" = none
  n_int : mg "int" = none
  n_isinstance : mg "isinstance" = none
  n_len : mg "len" = none
  n_list : mg "list" = none
  n_range : mg "range" = none
  n_sorted : mg "sorted" = none
  n_str : mg "str" = none
  n_tuple : mg "tuple" = none
  g_LETTERS : ∃ t, mg "LETTERS" = some (.str c_LETTERS t)
  g_CAPITALS : ∃ t, mg "CAPITALS" = some (.str c_CAPITALS t)
  g_SIGNS : ∃ t, mg "SIGNS" = some (.str c_SIGNS t)


def sp_law_pool (K : PySem.W.Frag) (ce : Str → Addr) : Sp := fun vs H Q _ => ∃ (Z : Addr → Prop) (L : Lk) (a_law_script : Addr) (x_law_script : List Int) (r : List Int), vs = [.ref a_law_script] ∧ SqL K H a_law_script (x_law_script.map V.int) ∧ S (mk K ce Z L H []) H [] ∧ m_law_pool x_law_script = some r ∧ ∀ H' w, S (mk K ce Z L H []) H' (ow w (td r) :: []) → Q (.ref w) H'
theorem ok_law_pool {P : Program} {w : World} {K : PySem.W.Frag} {mg : Str → Option Value} {base : Heap} {A : Ad} (T : Txt P K mg A) : FnB P w K mg base 1 A.f__law_pool A.d__law_pool ["_law_script"] (sp_law_pool K A.ce) := by
  have SC := sc_law_pool
  refine Fun.okG0 T.F__law_pool sc_law_pool (fun vs H Q E h => ?_) (fun cdv Ar outer s9 H vs Q E hr h => ?_)
  · obtain ⟨_, _, _, _, _, rfl, _⟩ := h; rfl
  obtain ⟨Z, L, a_law_script, x_law_script, r, rfl, hS, s0, hm, kQ⟩ := h
  refine ⟨_, (pss_cons (ps_set (i := 1) SC.nd rfl (by first | exact Or.inl rfl | exact Or.inr rfl) (pe_lst (pa_cons pe_int pa_nil)))
    (pss_cons (ps_for PassesOwn.never rfl (pi_list (pv 0)) (pg_name (i := 2) SC.nd rfl (by first | exact Or.inl rfl | exact Or.inr rfl)) (pss_cons (ps_asg (pe_op op_mod (pe_callTy call_int1' (by rfl) T.n_int (by decide +kernel) (pa_cons (pe_op op_add (pe_op op_add (pe_op op_mul (pe_ix ix_list (pv 1) pe_int (fun _ _ => rfl)) pe_int) (pe_op op_mod (pe_callTy call_int1' (by rfl) T.n_int (by decide +kernel) (pa_cons (pv 2) pa_nil)) pe_int)) pe_int) pa_nil)) pe_int) (pg_sub (pv 1) pe_int set_list))
    (pss_one (ps_if (pt_cmpR op_ge (pe_callB call_abs (by rfl) T.n_abs (by decide +kernel) (pa_cons (pv 2) pa_nil)) (pe_op op_pow pe_int pe_int) (nomark _)) (pss_one (ps_expr (pe_bm PySem.F.plainAttrs_list PySem.F.slot_list_append PySem.F.type_list_append mt_append (pv 1) (pa_cons (pe_callB call_abs (by rfl) T.n_abs (by decide +kernel) (pa_cons (pv 2) pa_nil)) pa_nil)))) pss_nil))))
    (pss_one (ps_ret (pv 1))))), ?_⟩
  refine w_seq [some (.ref a_law_script), none, none] rfl ?_
  refine w_set ?_
  refine w_lst ?_
  refine w_cons ?_
  refine w_c ?_
  refine w_nil ?_
  refine r_lstO s0 (.cons (.sc _) .nil) (q := fun p1 H2 s3 => ?_)
  have s4 : S _ _ [ow p1 (td ([(0 : Int)] : List Int))] := s3
  refine w_seq [some (.ref a_law_script), some (.ref p1), none] rfl ?_
  refine w_forL ?_
  refine w_var rfl ?_
  refine l_scr (s4.scr hS rfl) fun J hJ => ?_
  obtain ⟨r5, h6, hm⟩ := bnd hm
  refine forB (c := (mk K A.ce Z L H [])) x_law_script (w := .scr a_law_script x_law_script) hJ (fun l13 σ10 H11 => ∃ (y8 : List Int) (o9 : Option V), σ10 = [some (.ref a_law_script), some (.ref p1), o9] ∧ S (mk K A.ce Z L H []) H11 [ow p1 (td y8)] ∧ foldO l13 y8 m_law_pool_L1 = some r5) ?_ ?_ ?_ ?_
  ·
    exact ⟨_, _, rfl, s4, h6⟩
  ·
    rintro _ _ _ ⟨y8, o9, rfl, s12, h14⟩; exact ⟨s12.scr hS rfl, rfl⟩
  ·
    rintro d15 l13 w16 _ H11 ⟨y8, o9, rfl, s12, h14⟩ g17
    obtain ⟨q18, h19, h20⟩ := fold_cons h14
    have h7 := hm
    replace hm := h19
    obtain rfl : V.int d15 = w16 := gv_sc g17
    refine w_name ?_
    refine w_seq [some (.ref a_law_script), some (.ref p1), some (.int d15)] rfl ?_
    refine w_asgS ?_
    refine w_op ?_
    refine w_cb ?_
    refine w_cons ?_
    refine w_op ?_
    refine w_op ?_
    refine w_op ?_
    refine w_op ?_
    refine w_var rfl ?_
    refine w_c ?_
    obtain ⟨x23, h24, hm⟩ := bnd hm
    refine r_ixLi s12 (k := 0) rfl h24 ?_
    refine w_c ?_
    refine r_I (.inr ⟨by decide, by decide⟩) ?_
    refine w_op ?_
    refine w_cb ?_
    refine w_cons ?_
    refine w_var rfl ?_
    refine w_nil ?_
    refine r_intI ?_
    refine w_c ?_
    refine r_I (show (0 : Int) < 2147483647 by decide) ?_
    refine r_I0 ?_
    refine w_c ?_
    refine r_I0 ?_
    refine w_nil ?_
    refine r_intI ?_
    refine w_c ?_
    refine r_I (show (0 : Int) < 2147483647 by decide) ?_
    refine w_var rfl ?_
    refine w_c ?_
    obtain ⟨y25, h26, hm⟩ := bnd hm
    refine r_setL s12 (k := 0) (x := ((((x23 * (48271 : Int)) + (d15 % (2147483647 : Int))) + (11 : Int)) % (2147483647 : Int))) rfl (.sc _) h26 fun H27 s28 => ?_
    refine w_if ?_
    refine w_test ?_
    refine w_op ?_
    refine w_cb ?_
    refine w_cons ?_
    refine w_var rfl ?_
    refine w_nil ?_
    refine ⟨_, rfl, ?_⟩
    refine w_op ?_
    refine w_c ?_
    refine w_c ?_
    refine r_I ⟨by decide, by decide, by decide⟩ ?_
    refine r_I0 ?_
    refine w_bl ?_
    refine w_ite (fun h29 => ?_) (fun h29 => ?_)
    ·
      replace hm := ifT h29 hm
      refine w_drop ?_
      refine w_bm ?_
      refine w_var rfl ?_
      refine ⟨s28.tyL (k := 0) rfl, ?_⟩
      refine w_cons ?_
      refine w_cb ?_
      refine w_cons ?_
      refine w_var rfl ?_
      refine w_nil ?_
      refine ⟨_, rfl, ?_⟩
      refine w_nil ?_
      obtain ⟨y30, h31, hm⟩ := bnd hm
      refine r_appL s28 (k := 0) (x := (absI d15)) rfl (.sc _) h31 fun H32 s33 => ?_
      cases som hm
      exact ⟨_, _, rfl, s33, h20⟩
    ·
      replace hm := ifF h29 hm
      refine w_next ?_
      cases som hm
      exact ⟨_, _, rfl, s28, h20⟩
  ·
    rintro _ H11 ⟨y8, o9, rfl, s12, h14⟩
    have e9 := som h14; subst e9
    refine w_ret ?_
    refine w_var rfl ?_
    cases som hm
    exact kQ _ _ s12
def sp_law_take (K : PySem.W.Frag) (ce : Str → Addr) : Sp := fun vs H Q _ => ∃ (Z : Addr → Prop) (L : Lk) (a_law_pool_here : Addr) (x_law_pool_here : List Int) (x_law_many : Int) (r : Int) (y_law_pool_here : List Int), vs = [.ref a_law_pool_here, .int x_law_many] ∧ S (mk K ce Z L H [ow a_law_pool_here (td x_law_pool_here)]) H [ow a_law_pool_here (td x_law_pool_here)] ∧ m_law_take x_law_pool_here x_law_many = some (r, y_law_pool_here) ∧ ∀ H', S (mk K ce Z L H [ow a_law_pool_here (td x_law_pool_here)]) H' [ow a_law_pool_here (td y_law_pool_here)] → Q (.int r) H'
theorem ok_law_take {P : Program} {w : World} {K : PySem.W.Frag} {mg : Str → Option Value} {base : Heap} {A : Ad} (T : Txt P K mg A) : FnB P w K mg base 1 A.f__law_take A.d__law_take ["_law_pool_here", "_law_many"] (sp_law_take K A.ce) := by
  have SC := sc_law_take
  refine Fun.okG0 T.F__law_take sc_law_take (fun vs H Q E h => ?_) (fun cdv Ar outer s9 H vs Q E hr h => ?_)
  · obtain ⟨_, _, _, _, _, _, _, rfl, _⟩ := h; rfl
  obtain ⟨Z, L, a_law_pool_here, x_law_pool_here, x_law_many, r, y_law_pool_here, rfl, s0, hm, kQ⟩ := h
  refine ⟨_, (Evl.pss_cut (ps_if (PW.pt (pw_and (pt_cmpR op_gt (pe_callB call_lenQ (by rfl) T.n_len PySem.boot_len (pa_cons (pv 0) pa_nil)) pe_int (nomark _)) (pw_and1 (pt_cmpR op_lt (pe_ix ix_list (pv 0) pe_int (fun _ _ => rfl)) pe_int (nomark _))))) (pss_one (ps_expr (pe_bm PySem.F.plainAttrs_list PySem.F.slot_list_pop PySem.F.type_list_pop mt_popAt (pv 0) (pa_cons pe_int pa_nil)))) pss_nil)
    (pss_cons (ps_if (pt_cmpR op_gt (pe_callB call_lenQ (by rfl) T.n_len PySem.boot_len (pa_cons (pv 0) pa_nil)) pe_int (nomark _)) (pss_cons (ps_set (i := 2) SC.nd rfl (by first | exact Or.inl rfl | exact Or.inr rfl) (pe_op op_mod (pe_callTy call_int1' (by rfl) T.n_int (by decide +kernel) (pa_cons (pe_ix ix_list (pv 0) pe_int (fun _ _ => rfl)) pa_nil)) (pv 1)))
    (pss_cons (ps_asg (pe_op op_fdiv (pe_ix ix_list (pv 0) pe_int (fun _ _ => rfl)) (pv 1)) (pg_sub (pv 0) pe_int set_list))
    (pss_one (ps_ret (pv 2))))) pss_nil)
    (pss_cons (ps_asg (pe_op op_mod (pe_callTy call_int1' (by rfl) T.n_int (by decide +kernel) (pa_cons (pe_op op_mul (pe_ix ix_list (pv 0) pe_int (fun _ _ => rfl)) pe_int) pa_nil)) pe_int) (pg_sub (pv 0) pe_int set_list))
    (pss_cons (ps_set (i := 3) SC.nd rfl (by first | exact Or.inl rfl | exact Or.inr rfl) (pe_op op_mod (pe_callTy call_int1' (by rfl) T.n_int (by decide +kernel) (pa_cons (pe_op op_add (pe_op op_mul (pe_ix ix_list (pv 0) pe_int (fun _ _ => rfl)) pe_int) (pe_op op_fdiv (pe_ix ix_list (pv 0) pe_int (fun _ _ => rfl)) pe_int)) pa_nil)) pe_int))
    (pss_one (ps_ret (pe_op op_mod (pe_callTy call_int1' (by rfl) T.n_int (by decide +kernel) (pa_cons (pe_op op_fdiv (pv 3) pe_int) pa_nil)) (pv 1)))))))), ?_⟩
  obtain ⟨y1, h2, hm⟩ := bnd hm
  refine w_cut [some (.ref a_law_pool_here), some (.int x_law_many), none, none] rfl (fun σ5 H3 => σ5 = [some (.ref a_law_pool_here), some (.int x_law_many), none, none] ∧ S (mk K A.ce Z L H [ow a_law_pool_here (td x_law_pool_here)]) H3 [ow a_law_pool_here (td y1)]) ?_ ?_
  ·
    replace hm := h2
    refine w_if ?_
    obtain ⟨b6, h7, hm⟩ := bnd hm
    refine cutT (P := fun v H9 => v = b6 ∧ S (mk K A.ce Z L H [ow a_law_pool_here (td x_law_pool_here)]) H9 [ow a_law_pool_here (td x_law_pool_here)]) (fun Q9 k9 => ?_) ?_
    ·
      replace hm := h7
      refine w_and ?_
      refine w_test ?_
      refine w_op ?_
      refine w_cb ?_
      refine w_cons ?_
      refine w_var rfl ?_
      refine w_nil ?_
      refine r_lenQ s0 (k := 0) rfl ?_
      refine w_c ?_
      refine r_I0 ?_
      refine w_bl ?_
      refine w_ite (fun h10 => ?_) (fun h10 => ?_)
      ·
        replace hm := ifT h10 hm
        refine w_test ?_
        refine w_op ?_
        refine w_op ?_
        refine w_var rfl ?_
        refine w_c ?_
        obtain ⟨x11, h12, hm⟩ := bnd hm
        refine r_ixLi s0 (k := 0) rfl h12 ?_
        refine w_c ?_
        refine r_I0 ?_
        refine w_bl ?_
        cases som hm
        exact k9 _ _ ⟨rfl, s0⟩
      ·
        replace hm := ifF h10 hm
        cases som hm
        exact k9 _ _ ⟨rfl, s0⟩
    rintro _ H8 ⟨rfl, s9⟩
    refine w_ite (fun h13 => ?_) (fun h13 => ?_)
    ·
      replace hm := ifT h13 hm
      refine w_drop ?_
      refine w_bm ?_
      refine w_var rfl ?_
      refine ⟨s9.tyL (k := 0) rfl, ?_⟩
      refine w_cons ?_
      refine w_c ?_
      refine w_nil ?_
      obtain ⟨⟨x14, y15⟩, h16, hm⟩ := bnd hm
      refine r_popLi s9 (k := 0) rfl h16 ⟨by decide, by decide⟩ fun H17 s18 => ?_
      cases som hm
      exact ⟨rfl, s18⟩
    ·
      replace hm := ifF h13 hm
      refine w_next ?_
      cases som hm
      exact ⟨rfl, s9⟩
  rintro _ H3 ⟨rfl, s4⟩
  refine w_seq [some (.ref a_law_pool_here), some (.int x_law_many), none, none] rfl ?_
  refine w_if ?_
  refine w_test ?_
  refine w_op ?_
  refine w_cb ?_
  refine w_cons ?_
  refine w_var rfl ?_
  refine w_nil ?_
  refine r_lenQ s4 (k := 0) rfl ?_
  refine w_c ?_
  refine r_I0 ?_
  refine w_bl ?_
  refine w_ite (fun h19 => ?_) (fun h19 => ?_)
  ·
    replace hm := ifT h19 hm
    refine w_seq [some (.ref a_law_pool_here), some (.int x_law_many), none, none] rfl ?_
    refine w_set ?_
    refine w_op ?_
    refine w_cb ?_
    refine w_cons ?_
    refine w_op ?_
    refine w_var rfl ?_
    refine w_c ?_
    obtain ⟨x20, h21, hm⟩ := bnd hm
    refine r_ixLi s4 (k := 0) rfl h21 ?_
    refine w_nil ?_
    refine r_intI ?_
    refine w_var rfl ?_
    obtain ⟨x22, h23, hm⟩ := bnd hm
    refine r_modI h23 ?_
    refine w_seq [some (.ref a_law_pool_here), some (.int x_law_many), some (.int x22), none] rfl ?_
    refine w_asgS ?_
    refine w_op ?_
    refine w_op ?_
    refine w_var rfl ?_
    refine w_c ?_
    obtain ⟨x24, h25, hm⟩ := bnd hm
    refine r_ixLi s4 (k := 0) rfl h25 ?_
    refine w_var rfl ?_
    obtain ⟨x26, h27, hm⟩ := bnd hm
    refine r_fdivI h27 ?_
    refine w_var rfl ?_
    refine w_c ?_
    obtain ⟨y28, h29, hm⟩ := bnd hm
    refine r_setL s4 (k := 0) (x := x26) rfl (.sc _) h29 fun H30 s31 => ?_
    refine w_ret ?_
    refine w_var rfl ?_
    cases som hm
    exact kQ _ s31
  ·
    replace hm := ifF h19 hm
    refine w_next ?_
    refine w_seq [some (.ref a_law_pool_here), some (.int x_law_many), none, none] rfl ?_
    refine w_asgS ?_
    refine w_op ?_
    refine w_cb ?_
    refine w_cons ?_
    refine w_op ?_
    refine w_op ?_
    refine w_var rfl ?_
    refine w_c ?_
    obtain ⟨x32, h33, hm⟩ := bnd hm
    refine r_ixLi s4 (k := 0) rfl h33 ?_
    refine w_c ?_
    refine r_I (.inr ⟨by decide, by decide⟩) ?_
    refine w_nil ?_
    refine r_intI ?_
    refine w_c ?_
    refine r_I (show (0 : Int) < 2147483647 by decide) ?_
    refine w_var rfl ?_
    refine w_c ?_
    obtain ⟨y34, h35, hm⟩ := bnd hm
    refine r_setL s4 (k := 0) (x := ((x32 * (48271 : Int)) % (2147483647 : Int))) rfl (.sc _) h35 fun H36 s37 => ?_
    refine w_seq [some (.ref a_law_pool_here), some (.int x_law_many), none, none] rfl ?_
    refine w_set ?_
    refine w_op ?_
    refine w_cb ?_
    refine w_cons ?_
    refine w_op ?_
    refine w_op ?_
    refine w_op ?_
    refine w_var rfl ?_
    refine w_c ?_
    obtain ⟨x38, h39, hm⟩ := bnd hm
    refine r_ixLi s37 (k := 0) rfl h39 ?_
    refine w_c ?_
    refine r_I (.inr ⟨by decide, by decide⟩) ?_
    refine w_op ?_
    refine w_op ?_
    refine w_var rfl ?_
    refine w_c ?_
    obtain ⟨x40, h41, hm⟩ := bnd hm
    refine r_ixLi s37 (k := 0) rfl h41 ?_
    refine w_c ?_
    refine r_I ⟨by decide, by decide⟩ ?_
    refine r_I0 ?_
    refine w_nil ?_
    refine r_intI ?_
    refine w_c ?_
    refine r_I (show (0 : Int) < 2147483629 by decide) ?_
    refine w_ret ?_
    refine w_op ?_
    refine w_cb ?_
    refine w_cons ?_
    refine w_op ?_
    refine w_var rfl ?_
    refine w_c ?_
    refine r_I ⟨by decide, by decide⟩ ?_
    refine w_nil ?_
    refine r_intI ?_
    refine w_var rfl ?_
    obtain ⟨x42, h43, hm⟩ := bnd hm
    refine r_modI h43 ?_
    cases som hm
    exact kQ _ s37
def sp_law_word (K : PySem.W.Frag) (ce : Str → Addr) : Sp := fun vs H Q _ => ∃ (Z : Addr → Prop) (L : Lk) (a_law_pool_here : Addr) (x_law_pool_here : List Int) (x_law_size : Int) (r : Str) (y_law_pool_here : List Int), vs = [.ref a_law_pool_here, .int x_law_size] ∧ S (mk K ce Z L H [ow a_law_pool_here (td x_law_pool_here)]) H [ow a_law_pool_here (td x_law_pool_here)] ∧ m_law_word x_law_pool_here x_law_size = some (r, y_law_pool_here) ∧ ∀ H', S (mk K ce Z L H [ow a_law_pool_here (td x_law_pool_here)]) H' [ow a_law_pool_here (td y_law_pool_here)] → Q (.str r) H'
theorem ok_law_word {P : Program} {w : World} {K : PySem.W.Frag} {mg : Str → Option Value} {base : Heap} {A : Ad} (T : Txt P K mg A) : FnB P w K mg base 2 A.f__law_word A.d__law_word ["_law_pool_here", "_law_size"] (sp_law_word K A.ce) := by
  have SC := sc_law_word
  refine Fun.okG0 T.F__law_word sc_law_word (fun vs H Q E h => ?_) (fun cdv Ar outer s9 H vs Q E hr h => ?_)
  · obtain ⟨_, _, _, _, _, _, _, rfl, _⟩ := h; rfl
  obtain ⟨Z, L, a_law_pool_here, x_law_pool_here, x_law_size, r, y_law_pool_here, rfl, s0, hm, kQ⟩ := h
  refine ⟨_, (pss_cons (ps_set (i := 2) SC.nd rfl (by first | exact Or.inl rfl | exact Or.inr rfl) pe_str)
    (pss_cons (ps_set (i := 3) SC.nd rfl (by first | exact Or.inl rfl | exact Or.inr rfl) (pe_ix ix_str (pv 2) (pe_callG ((ok_law_take T).raw0 T.b__law_take) (hr.mono (by decide)) takes0 rfl T.g__law_take T.k__law_take (pa_cons (pv 0) (pa_cons pe_int pa_nil))) (fun _ _ => rfl)))
    (pss_cons (ps_for PassesOwn.never rfl (pi_range1 rfl T.n_range (pa_cons (pe_op op_sub (pv 1) pe_int) pa_nil)) (pg_name (i := 4) SC.nd rfl (by first | exact Or.inl rfl | exact Or.inr rfl)) (pss_one (ps_set (i := 3) SC.nd rfl (by first | exact Or.inl rfl | exact Or.inr rfl) (pe_op op_addT (pv 3) (pe_ix ix_str (pv 2) (pe_callG ((ok_law_take T).raw0 T.b__law_take) (hr.mono (by decide)) takes0 rfl T.g__law_take T.k__law_take (pa_cons (pv 0) (pa_cons pe_int pa_nil))) (fun _ _ => rfl))))))
    (pss_one (ps_ret (pv 3)))))), ?_⟩
  refine w_seq [some (.ref a_law_pool_here), some (.int x_law_size), none, none, none] rfl ?_
  refine w_set ?_
  refine w_c ?_
  refine w_seq [some (.ref a_law_pool_here), some (.int x_law_size), some (.str ("abcdefghijklmnopqrstuvwxyz0123456789" : Str)), none, none] rfl ?_
  refine w_set ?_
  refine w_op ?_
  refine w_var rfl ?_
  refine w_callG ?_
  refine w_cons ?_
  refine w_var rfl ?_
  refine w_cons ?_
  refine w_c ?_
  refine w_nil ?_
  have s1 := s0.pick (E' := [ow a_law_pool_here (td x_law_pool_here)] ++ []) [0]
  obtain ⟨⟨x2, y3⟩, h4, hm⟩ := bnd hm
  refine ⟨_, _, _, _, _, _, _, rfl, s1.enter, h4, fun H5 s6 => ?_⟩
  have s7 : S _ _ [ow a_law_pool_here (td y3)] := s1.leave s6
  obtain ⟨x8, h9, hm⟩ := bnd hm
  refine r_ixS h9 ?_
  refine w_seq [some (.ref a_law_pool_here), some (.int x_law_size), some (.str ("abcdefghijklmnopqrstuvwxyz0123456789" : Str)), some (.str x8), none] rfl ?_
  refine w_forR ?_
  refine w_cons ?_
  refine w_op ?_
  refine w_var rfl ?_
  refine w_c ?_
  refine r_I0 ?_
  refine w_nil ?_
  obtain ⟨x11, h10, hm⟩ := bnd hm
  refine r_rng h10 ?_
  obtain ⟨r12, h13, hm⟩ := bnd hm
  refine forB (c := (mk K A.ce Z L H [ow a_law_pool_here (td x_law_pool_here)])) x11 (w := .rng 0 (x_law_size - (1 : Int))) rfl (fun l21 σ18 H19 => ∃ (y15 : List Int) (x16 : Str) (o17 : Option V), σ18 = [some (.ref a_law_pool_here), some (.int x_law_size), some (.str ("abcdefghijklmnopqrstuvwxyz0123456789" : Str)), some (.str x16), o17] ∧ S (mk K A.ce Z L H [ow a_law_pool_here (td x_law_pool_here)]) H19 [ow a_law_pool_here (td y15)] ∧ foldO l21 (y15, x16) m_law_word_L1 = some r12) ?_ ?_ ?_ ?_
  ·
    exact ⟨_, _, _, rfl, s7, h13⟩
  ·
    rintro _ _ _ ⟨y15, x16, o17, rfl, s20, h22⟩; exact rng_at h10
  ·
    rintro d23 l21 w24 _ H19 ⟨y15, x16, o17, rfl, s20, h22⟩ g25
    obtain ⟨q26, h27, h28⟩ := fold_cons h22
    have h14 := hm
    replace hm := h27
    obtain rfl : V.int d23 = w24 := gv_sc g25
    refine w_name ?_
    refine w_set ?_
    refine w_op ?_
    refine w_var rfl ?_
    refine w_op ?_
    refine w_var rfl ?_
    refine w_callG ?_
    refine w_cons ?_
    refine w_var rfl ?_
    refine w_cons ?_
    refine w_c ?_
    refine w_nil ?_
    have s31 := s20.pick (E' := [ow a_law_pool_here (td y15)] ++ []) [0]
    obtain ⟨⟨x32, y33⟩, h34, hm⟩ := bnd hm
    refine ⟨_, _, _, _, _, _, _, rfl, s31.enter, h34, fun H35 s36 => ?_⟩
    have s37 : S _ _ [ow a_law_pool_here (td y33)] := s31.leave s36
    obtain ⟨x38, h39, hm⟩ := bnd hm
    refine r_ixS h39 ?_
    obtain ⟨x40, h41, hm⟩ := bnd hm
    refine r_addS h41 ?_
    cases som hm
    exact ⟨_, _, _, rfl, s37, h28⟩
  ·
    rintro _ H19 ⟨y15, x16, o17, rfl, s20, h22⟩
    have e9 := som h22; subst e9
    refine w_ret ?_
    refine w_var rfl ?_
    cases som hm
    exact kQ _ s20
def sp_law_words (K : PySem.W.Frag) (ce : Str → Addr) : Sp := fun vs H Q _ => ∃ (Z : Addr → Prop) (L : Lk) (a_law_pool_here : Addr) (x_law_pool_here : List Int) (x_law_many : Int) (r : List Str) (y_law_pool_here : List Int), vs = [.ref a_law_pool_here, .int x_law_many] ∧ S (mk K ce Z L H [ow a_law_pool_here (td x_law_pool_here)]) H [ow a_law_pool_here (td x_law_pool_here)] ∧ m_law_words x_law_pool_here x_law_many = some (r, y_law_pool_here) ∧ ∀ H' w, S (mk K ce Z L H [ow a_law_pool_here (td x_law_pool_here)]) H' (fz w (td r) :: [ow a_law_pool_here (td y_law_pool_here)]) → Q w H'
theorem ok_law_words {P : Program} {w : World} {K : PySem.W.Frag} {mg : Str → Option Value} {base : Heap} {A : Ad} (T : Txt P K mg A) : FnB P w K mg base 3 A.f__law_words A.d__law_words ["_law_pool_here", "_law_many"] (sp_law_words K A.ce) := by
  have SC := sc_law_words
  refine Fun.okG0 T.F__law_words sc_law_words (fun vs H Q E h => ?_) (fun cdv Ar outer s9 H vs Q E hr h => ?_)
  · obtain ⟨_, _, _, _, _, _, _, rfl, _⟩ := h; rfl
  obtain ⟨Z, L, a_law_pool_here, x_law_pool_here, x_law_many, r, y_law_pool_here, rfl, s0, hm, kQ⟩ := h
  refine ⟨_, (pss_cons (ps_set (i := 2) SC.nd rfl (by first | exact Or.inl rfl | exact Or.inr rfl) pe_str)
    (pss_cons (ps_set (i := 3) SC.nd rfl (by first | exact Or.inl rfl | exact Or.inr rfl) (pe_callG ((ok_law_word T).raw0 T.b__law_word) (hr.mono (by decide)) takes0 rfl T.g__law_word T.k__law_word (pa_cons (pv 0) (pa_cons (pe_op op_add pe_int (pe_callG ((ok_law_take T).raw0 T.b__law_take) (hr.mono (by decide)) takes0 rfl T.g__law_take T.k__law_take (pa_cons (pv 0) (pa_cons pe_int pa_nil)))) pa_nil))))
    (pss_cons (ps_set (i := 4) SC.nd rfl (by first | exact Or.inl rfl | exact Or.inr rfl) (pe_callG ((ok_law_take T).raw0 T.b__law_take) (hr.mono (by decide)) takes0 rfl T.g__law_take T.k__law_take (pa_cons (pv 0) (pa_cons (pe_op op_add (pe_callB call_lenT (by rfl) T.n_len PySem.boot_len (pa_cons (pv 3) pa_nil)) pe_int) pa_nil))))
    (pss_cons (ps_set (i := 5) SC.nd rfl (by first | exact Or.inl rfl | exact Or.inr rfl) (pe_callG ((ok_law_take T).raw0 T.b__law_take) (hr.mono (by decide)) takes0 rfl T.g__law_take T.k__law_take (pa_cons (pv 0) (pa_cons pe_int pa_nil))))
    (pss_cons (ps_set (i := 6) SC.nd rfl (by first | exact Or.inl rfl | exact Or.inr rfl) (pe_ix ix_tup (pe_tup (pa_cons pe_int (pa_cons pe_int (pa_cons pe_int (pa_cons pe_int (pa_cons pe_int (pa_cons pe_int pa_nil))))))) (pe_callG ((ok_law_take T).raw0 T.b__law_take) (hr.mono (by decide)) takes0 rfl T.g__law_take T.k__law_take (pa_cons (pv 0) (pa_cons pe_int pa_nil))) (fun _ _ => rfl)))
    (pss_cons (ps_set (i := 7) SC.nd rfl (by first | exact Or.inl rfl | exact Or.inr rfl) (pe_callG ((ok_law_take T).raw0 T.b__law_take) (hr.mono (by decide)) takes0 rfl T.g__law_take T.k__law_take (pa_cons (pv 0) (pa_cons pe_int pa_nil))))
    (pss_cons (ps_set (i := 8) SC.nd rfl (by first | exact Or.inl rfl | exact Or.inr rfl) (pe_lst pa_nil))
    (pss_cons (ps_for PassesOwn.never rfl (pi_range1 rfl T.n_range (pa_cons (pv 1) pa_nil)) (pg_name (i := 9) SC.nd rfl (by first | exact Or.inl rfl | exact Or.inr rfl)) (pss_cons (ps_set (i := 10) SC.nd rfl (by first | exact Or.inl rfl | exact Or.inr rfl) (pe_ix ix_str (pv 2) (pe_op op_mod (pe_callTy call_int1' (by rfl) T.n_int (by decide +kernel) (pa_cons (pe_op op_add (pv 5) (pe_op op_mul (pv 6) (pv 9))) pa_nil)) pe_int) (fun _ _ => rfl)))
    (Evl.pss_cut (ps_if (PW.pt (pw_and (pt_cmpR op_eq (pv 7) pe_int (nomark _)) (pw_and1 (pt_cmpR op_gt (pv 4) pe_int (nomark _))))) (pss_one (ps_set (i := 10) SC.nd rfl (by first | exact Or.inl rfl | exact Or.inr rfl) (pe_ix ix_str (pv 2) (pe_op op_mod (pe_callTy call_int1' (by rfl) T.n_int (by decide +kernel) (pa_cons (pe_op op_add (pv 5) (pe_op op_mul (pv 6) (pv 9))) pa_nil)) pe_int) (fun _ _ => rfl)))) pss_nil)
    (pss_one (ps_if (pt_cmpR op_eq (pv 7) pe_int (nomark _)) (pss_one (ps_expr (pe_bm PySem.F.plainAttrs_list PySem.F.slot_list_append PySem.F.type_list_append mt_append (pv 8) (pa_cons (pe_op op_addT (pe_op op_addT (pe_slice sl_str (pv 3) po_none (po_some (pv 4))) (pv 10)) (pe_slice sl_str (pv 3) (po_some (pv 4)) po_none)) pa_nil)))) (pss_one (ps_if (pt_cmpR op_eq (pv 7) pe_int (nomark _)) (pss_one (ps_expr (pe_bm PySem.F.plainAttrs_list PySem.F.slot_list_append PySem.F.type_list_append mt_append (pv 8) (pa_cons (pe_op op_addT (pv 10) (pe_slice sl_str (pv 3) po_none (po_some (pe_op op_mod (pe_callTy call_int1' (by rfl) T.n_int (by decide +kernel) (pa_cons (pe_op op_add (pv 5) (pv 9)) pa_nil)) (pe_op op_add (pe_callB call_lenT (by rfl) T.n_len PySem.boot_len (pa_cons (pv 3) pa_nil)) pe_int))))) pa_nil)))) (pss_one (ps_if (pt_cmpR op_lt (pv 5) pe_int (nomark _)) (pss_one (ps_expr (pe_bm PySem.F.plainAttrs_list PySem.F.slot_list_append PySem.F.type_list_append mt_append (pv 8) (pa_cons (pe_op op_mulT (pe_slice sl_str (pv 3) po_none (po_some pe_int)) (pe_op op_add pe_int (pe_op op_mod (pe_callTy call_int1' (by rfl) T.n_int (by decide +kernel) (pa_cons (pe_op op_add (pv 5) (pv 9)) pa_nil)) (pv 1)))) pa_nil)))) (pss_one (ps_expr (pe_bm PySem.F.plainAttrs_list PySem.F.slot_list_append PySem.F.type_list_append mt_append (pv 8) (pa_cons (pe_op op_addT (pe_slice sl_str (pv 3) po_none (po_some pe_int)) (pe_callTy call_strI (by rfl) T.n_str (by decide +kernel) (pa_cons (pe_op op_add (pe_op op_sub (pv 5) pe_int) (pe_op op_mul (pv 6) (pv 9))) pa_nil))) pa_nil)))))))))))))
    (pss_one (ps_ret (pv 8))))))))))), ?_⟩
  refine w_seq [some (.ref a_law_pool_here), some (.int x_law_many), none, none, none, none, none, none, none, none, none] rfl ?_
  refine w_set ?_
  refine w_c ?_
  refine w_seq [some (.ref a_law_pool_here), some (.int x_law_many), some (.str ("abcdefghijklmnopqrstuvwxyz0123456789" : Str)), none, none, none, none, none, none, none, none] rfl ?_
  refine w_set ?_
  refine w_callG ?_
  refine w_cons ?_
  refine w_var rfl ?_
  refine w_cons ?_
  refine w_op ?_
  refine w_c ?_
  refine w_callG ?_
  refine w_cons ?_
  refine w_var rfl ?_
  refine w_cons ?_
  refine w_c ?_
  refine w_nil ?_
  have s1 := s0.pick (E' := [ow a_law_pool_here (td x_law_pool_here)] ++ []) [0]
  obtain ⟨⟨x2, y3⟩, h4, hm⟩ := bnd hm
  refine ⟨_, _, _, _, _, _, _, rfl, s1.enter, h4, fun H5 s6 => ?_⟩
  have s7 : S _ _ [ow a_law_pool_here (td y3)] := s1.leave s6
  refine r_I0 ?_
  refine w_nil ?_
  have s8 := s7.pick (E' := [ow a_law_pool_here (td y3)] ++ []) [0]
  obtain ⟨⟨x9, y10⟩, h11, hm⟩ := bnd hm
  refine ⟨_, _, _, _, _, _, _, rfl, s8.enter, h11, fun H12 s13 => ?_⟩
  have s14 : S _ _ [ow a_law_pool_here (td y10)] := s8.leave s13
  refine w_seq [some (.ref a_law_pool_here), some (.int x_law_many), some (.str ("abcdefghijklmnopqrstuvwxyz0123456789" : Str)), some (.str x9), none, none, none, none, none, none, none] rfl ?_
  refine w_set ?_
  refine w_callG ?_
  refine w_cons ?_
  refine w_var rfl ?_
  refine w_cons ?_
  refine w_op ?_
  refine w_cb ?_
  refine w_cons ?_
  refine w_var rfl ?_
  refine w_nil ?_
  obtain ⟨x15, h16, hm⟩ := bnd hm
  refine r_lenS h16 ?_
  refine w_c ?_
  refine r_I0 ?_
  refine w_nil ?_
  have s17 := s14.pick (E' := [ow a_law_pool_here (td y10)] ++ []) [0]
  obtain ⟨⟨x18, y19⟩, h20, hm⟩ := bnd hm
  refine ⟨_, _, _, _, _, _, _, rfl, s17.enter, h20, fun H21 s22 => ?_⟩
  have s23 : S _ _ [ow a_law_pool_here (td y19)] := s17.leave s22
  refine w_seq [some (.ref a_law_pool_here), some (.int x_law_many), some (.str ("abcdefghijklmnopqrstuvwxyz0123456789" : Str)), some (.str x9), some (.int x18), none, none, none, none, none, none] rfl ?_
  refine w_set ?_
  refine w_callG ?_
  refine w_cons ?_
  refine w_var rfl ?_
  refine w_cons ?_
  refine w_c ?_
  refine w_nil ?_
  have s24 := s23.pick (E' := [ow a_law_pool_here (td y19)] ++ []) [0]
  obtain ⟨⟨x25, y26⟩, h27, hm⟩ := bnd hm
  refine ⟨_, _, _, _, _, _, _, rfl, s24.enter, h27, fun H28 s29 => ?_⟩
  have s30 : S _ _ [ow a_law_pool_here (td y26)] := s24.leave s29
  refine w_seq [some (.ref a_law_pool_here), some (.int x_law_many), some (.str ("abcdefghijklmnopqrstuvwxyz0123456789" : Str)), some (.str x9), some (.int x18), some (.int x25), none, none, none, none, none] rfl ?_
  refine w_set ?_
  refine w_op ?_
  refine w_tup ?_
  refine w_cons ?_
  refine w_c ?_
  refine w_cons ?_
  refine w_c ?_
  refine w_cons ?_
  refine w_c ?_
  refine w_cons ?_
  refine w_c ?_
  refine w_cons ?_
  refine w_c ?_
  refine w_cons ?_
  refine w_c ?_
  refine w_nil ?_
  refine r_tup s30 (.cons (.sc _) (.cons (.sc _) (.cons (.sc _) (.cons (.sc _) (.cons (.sc _) (.cons (.sc _) .nil)))))) (q := fun p31 H32 s33 => ?_)
  have s34 : S _ _ [fz (.ref p31) (td (⟨[(1 : Int), (5 : Int), (7 : Int), (11 : Int), (17 : Int), (19 : Int)]⟩ : Tp Int)), ow a_law_pool_here (td y26)] := s33
  refine w_callG ?_
  refine w_cons ?_
  refine w_var rfl ?_
  refine w_cons ?_
  refine w_c ?_
  refine w_nil ?_
  have s35 := s34.pick (E' := [ow a_law_pool_here (td y26)] ++ [fz (.ref p31) (td (⟨[(1 : Int), (5 : Int), (7 : Int), (11 : Int), (17 : Int), (19 : Int)]⟩ : Tp Int))]) [1, 0]
  obtain ⟨⟨x36, y37⟩, h38, hm⟩ := bnd hm
  refine ⟨_, _, _, _, _, _, _, rfl, s35.enter, h38, fun H39 s40 => ?_⟩
  have s41 : S _ _ [ow a_law_pool_here (td y37), fz (.ref p31) (td (⟨[(1 : Int), (5 : Int), (7 : Int), (11 : Int), (17 : Int), (19 : Int)]⟩ : Tp Int))] := s35.leave s40
  obtain ⟨x42, h43, hm⟩ := bnd hm
  refine r_ixTi s41 (k := 1) rfl h43 ?_
  refine w_seq [some (.ref a_law_pool_here), some (.int x_law_many), some (.str ("abcdefghijklmnopqrstuvwxyz0123456789" : Str)), some (.str x9), some (.int x18), some (.int x25), some (.int x42), none, none, none, none] rfl ?_
  refine w_set ?_
  refine w_callG ?_
  refine w_cons ?_
  refine w_var rfl ?_
  refine w_cons ?_
  refine w_c ?_
  refine w_nil ?_
  have s44 := s41.pick (E' := [ow a_law_pool_here (td y37)] ++ [fz (.ref p31) (td (⟨[(1 : Int), (5 : Int), (7 : Int), (11 : Int), (17 : Int), (19 : Int)]⟩ : Tp Int))]) [0, 1]
  obtain ⟨⟨x45, y46⟩, h47, hm⟩ := bnd hm
  refine ⟨_, _, _, _, _, _, _, rfl, s44.enter, h47, fun H48 s49 => ?_⟩
  have s50 : S _ _ [ow a_law_pool_here (td y46), fz (.ref p31) (td (⟨[(1 : Int), (5 : Int), (7 : Int), (11 : Int), (17 : Int), (19 : Int)]⟩ : Tp Int))] := s44.leave s49
  refine w_seq [some (.ref a_law_pool_here), some (.int x_law_many), some (.str ("abcdefghijklmnopqrstuvwxyz0123456789" : Str)), some (.str x9), some (.int x18), some (.int x25), some (.int x42), some (.int x45), none, none, none] rfl ?_
  refine w_set ?_
  refine w_lst ?_
  refine w_nil ?_
  refine r_lstO s50 (.nil) (q := fun p51 H52 s53 => ?_)
  have s54 : S _ _ [ow p51 (td ([] : List Str)), ow a_law_pool_here (td y46), fz (.ref p31) (td (⟨[(1 : Int), (5 : Int), (7 : Int), (11 : Int), (17 : Int), (19 : Int)]⟩ : Tp Int))] := s53
  refine w_seq [some (.ref a_law_pool_here), some (.int x_law_many), some (.str ("abcdefghijklmnopqrstuvwxyz0123456789" : Str)), some (.str x9), some (.int x18), some (.int x25), some (.int x42), some (.int x45), some (.ref p51), none, none] rfl ?_
  refine w_forR ?_
  refine w_cons ?_
  refine w_var rfl ?_
  refine w_nil ?_
  obtain ⟨x56, h55, hm⟩ := bnd hm
  refine r_rng h55 ?_
  obtain ⟨r57, h58, hm⟩ := bnd hm
  refine forB (c := (mk K A.ce Z L H [ow a_law_pool_here (td x_law_pool_here)])) x56 (w := .rng 0 x_law_many) rfl (fun l66 σ63 H64 => ∃ (y60 : List Str) (o61 : Option V) (o62 : Option V), σ63 = [some (.ref a_law_pool_here), some (.int x_law_many), some (.str ("abcdefghijklmnopqrstuvwxyz0123456789" : Str)), some (.str x9), some (.int x18), some (.int x25), some (.int x42), some (.int x45), some (.ref p51), o61, o62] ∧ S (mk K A.ce Z L H [ow a_law_pool_here (td x_law_pool_here)]) H64 [ow p51 (td y60), ow a_law_pool_here (td y46), fz (.ref p31) (td (⟨[(1 : Int), (5 : Int), (7 : Int), (11 : Int), (17 : Int), (19 : Int)]⟩ : Tp Int))] ∧ foldO l66 y60 (m_law_words_L1 x_law_many x9 x18 x25 x42 x45) = some r57) ?_ ?_ ?_ ?_
  ·
    exact ⟨_, _, _, rfl, s54, h58⟩
  ·
    rintro _ _ _ ⟨y60, o61, o62, rfl, s65, h67⟩; exact rng_at h55
  ·
    rintro d68 l66 w69 _ H64 ⟨y60, o61, o62, rfl, s65, h67⟩ g70
    obtain ⟨q71, h72, h73⟩ := fold_cons h67
    have h59 := hm
    replace hm := h72
    obtain rfl : V.int d68 = w69 := gv_sc g70
    refine w_name ?_
    refine w_seq [some (.ref a_law_pool_here), some (.int x_law_many), some (.str ("abcdefghijklmnopqrstuvwxyz0123456789" : Str)), some (.str x9), some (.int x18), some (.int x25), some (.int x42), some (.int x45), some (.ref p51), some (.int d68), o62] rfl ?_
    refine w_set ?_
    refine w_op ?_
    refine w_var rfl ?_
    refine w_op ?_
    refine w_cb ?_
    refine w_cons ?_
    refine w_op ?_
    refine w_var rfl ?_
    refine w_op ?_
    refine w_var rfl ?_
    refine w_var rfl ?_
    obtain ⟨x76, h77, hm⟩ := bnd hm
    refine r_mulI h77 ?_
    refine r_I0 ?_
    refine w_nil ?_
    refine r_intI ?_
    refine w_c ?_
    refine r_I (show (0 : Int) < 26 by decide) ?_
    obtain ⟨x78, h79, hm⟩ := bnd hm
    refine r_ixS h79 ?_
    obtain ⟨x80, h81, hm⟩ := bnd hm
    refine w_cut [some (.ref a_law_pool_here), some (.int x_law_many), some (.str ("abcdefghijklmnopqrstuvwxyz0123456789" : Str)), some (.str x9), some (.int x18), some (.int x25), some (.int x42), some (.int x45), some (.ref p51), some (.int d68), some (.str x78)] rfl (fun σ84 H82 => σ84 = [some (.ref a_law_pool_here), some (.int x_law_many), some (.str ("abcdefghijklmnopqrstuvwxyz0123456789" : Str)), some (.str x9), some (.int x18), some (.int x25), some (.int x42), some (.int x45), some (.ref p51), some (.int d68), some (.str x80)] ∧ S (mk K A.ce Z L H [ow a_law_pool_here (td x_law_pool_here)]) H82 [ow p51 (td y60), ow a_law_pool_here (td y46), fz (.ref p31) (td (⟨[(1 : Int), (5 : Int), (7 : Int), (11 : Int), (17 : Int), (19 : Int)]⟩ : Tp Int))]) ?_ ?_
    ·
      replace hm := h81
      refine w_if ?_
      obtain ⟨b85, h86, hm⟩ := bnd hm
      refine cutT (P := fun v H9 => v = b85 ∧ S (mk K A.ce Z L H [ow a_law_pool_here (td x_law_pool_here)]) H9 [ow p51 (td y60), ow a_law_pool_here (td y46), fz (.ref p31) (td (⟨[(1 : Int), (5 : Int), (7 : Int), (11 : Int), (17 : Int), (19 : Int)]⟩ : Tp Int))]) (fun Q9 k9 => ?_) ?_
      ·
        replace hm := h86
        refine w_and ?_
        refine w_test ?_
        refine w_op ?_
        refine w_var rfl ?_
        refine w_c ?_
        refine r_eqI ?_
        refine w_bl ?_
        refine w_ite (fun h89 => ?_) (fun h89 => ?_)
        ·
          replace hm := ifT h89 hm
          refine w_test ?_
          refine w_op ?_
          refine w_var rfl ?_
          refine w_c ?_
          refine r_I0 ?_
          refine w_bl ?_
          cases som hm
          exact k9 _ _ ⟨rfl, s65⟩
        ·
          replace hm := ifF h89 hm
          cases som hm
          exact k9 _ _ ⟨rfl, s65⟩
      rintro _ H87 ⟨rfl, s88⟩
      refine w_ite (fun h90 => ?_) (fun h90 => ?_)
      ·
        replace hm := ifT h90 hm
        refine w_set ?_
        refine w_op ?_
        refine w_var rfl ?_
        refine w_op ?_
        refine w_cb ?_
        refine w_cons ?_
        refine w_op ?_
        refine w_var rfl ?_
        refine w_op ?_
        refine w_var rfl ?_
        refine w_var rfl ?_
        obtain ⟨x91, h92, hm⟩ := bnd hm
        refine r_mulI h92 ?_
        refine r_I0 ?_
        refine w_nil ?_
        refine r_intI ?_
        refine w_c ?_
        refine r_I (show (0 : Int) < 36 by decide) ?_
        obtain ⟨x93, h94, hm⟩ := bnd hm
        refine r_ixS h94 ?_
        cases som hm
        exact ⟨rfl, s88⟩
      ·
        replace hm := ifF h90 hm
        refine w_next ?_
        cases som hm
        exact ⟨rfl, s88⟩
    rintro _ H82 ⟨rfl, s83⟩
    refine w_if ?_
    refine w_test ?_
    refine w_op ?_
    refine w_var rfl ?_
    refine w_c ?_
    refine r_eqI ?_
    refine w_bl ?_
    refine w_ite (fun h95 => ?_) (fun h95 => ?_)
    ·
      replace hm := ifT h95 hm
      refine w_drop ?_
      refine w_bm ?_
      refine w_var rfl ?_
      refine ⟨s83.tyL (k := 0) rfl, ?_⟩
      refine w_cons ?_
      refine w_op ?_
      refine w_op ?_
      refine w_sl ?_
      refine w_var rfl ?_
      refine w_noPart ?_
      refine w_part ?_
      refine w_var rfl ?_
      refine w_int ?_
      obtain ⟨x96, h97, hm⟩ := bnd hm
      refine r_cutS h97 ?_
      refine w_var rfl ?_
      obtain ⟨x98, h99, hm⟩ := bnd hm
      refine r_addS h99 ?_
      refine w_sl ?_
      refine w_var rfl ?_
      refine w_part ?_
      refine w_var rfl ?_
      refine w_int ?_
      refine w_noPart ?_
      obtain ⟨x100, h101, hm⟩ := bnd hm
      refine r_cutS h101 ?_
      obtain ⟨x102, h103, hm⟩ := bnd hm
      refine r_addS h103 ?_
      refine w_nil ?_
      obtain ⟨y104, h105, hm⟩ := bnd hm
      refine r_appL s83 (k := 0) (x := x102) rfl (.sc _) h105 fun H106 s107 => ?_
      cases som hm
      exact ⟨_, _, _, rfl, s107, h73⟩
    ·
      replace hm := ifF h95 hm
      refine w_if ?_
      refine w_test ?_
      refine w_op ?_
      refine w_var rfl ?_
      refine w_c ?_
      refine r_eqI ?_
      refine w_bl ?_
      refine w_ite (fun h108 => ?_) (fun h108 => ?_)
      ·
        replace hm := ifT h108 hm
        refine w_drop ?_
        refine w_bm ?_
        refine w_var rfl ?_
        refine ⟨s83.tyL (k := 0) rfl, ?_⟩
        refine w_cons ?_
        refine w_op ?_
        refine w_var rfl ?_
        refine w_sl ?_
        refine w_var rfl ?_
        refine w_noPart ?_
        refine w_part ?_
        refine w_op ?_
        refine w_cb ?_
        refine w_cons ?_
        refine w_op ?_
        refine w_var rfl ?_
        refine w_var rfl ?_
        refine r_I0 ?_
        refine w_nil ?_
        refine r_intI ?_
        refine w_op ?_
        refine w_cb ?_
        refine w_cons ?_
        refine w_var rfl ?_
        refine w_nil ?_
        obtain ⟨x109, h110, hm⟩ := bnd hm
        refine r_lenS h110 ?_
        refine w_c ?_
        refine r_I0 ?_
        obtain ⟨x111, h112, hm⟩ := bnd hm
        refine r_modI h112 ?_
        refine w_int ?_
        obtain ⟨x113, h114, hm⟩ := bnd hm
        refine r_cutS h114 ?_
        obtain ⟨x115, h116, hm⟩ := bnd hm
        refine r_addS h116 ?_
        refine w_nil ?_
        obtain ⟨y117, h118, hm⟩ := bnd hm
        refine r_appL s83 (k := 0) (x := x115) rfl (.sc _) h118 fun H119 s120 => ?_
        cases som hm
        exact ⟨_, _, _, rfl, s120, h73⟩
      ·
        replace hm := ifF h108 hm
        refine w_if ?_
        refine w_test ?_
        refine w_op ?_
        refine w_var rfl ?_
        refine w_c ?_
        refine r_I0 ?_
        refine w_bl ?_
        refine w_ite (fun h121 => ?_) (fun h121 => ?_)
        ·
          replace hm := ifT h121 hm
          refine w_drop ?_
          refine w_bm ?_
          refine w_var rfl ?_
          refine ⟨s83.tyL (k := 0) rfl, ?_⟩
          refine w_cons ?_
          refine w_op ?_
          refine w_sl ?_
          refine w_var rfl ?_
          refine w_noPart ?_
          refine w_part ?_
          refine w_c ?_
          refine w_int ?_
          obtain ⟨x122, h123, hm⟩ := bnd hm
          refine r_cutS h123 ?_
          refine w_op ?_
          refine w_c ?_
          refine w_op ?_
          refine w_cb ?_
          refine w_cons ?_
          refine w_op ?_
          refine w_var rfl ?_
          refine w_var rfl ?_
          refine r_I0 ?_
          refine w_nil ?_
          refine r_intI ?_
          refine w_var rfl ?_
          obtain ⟨x124, h125, hm⟩ := bnd hm
          refine r_modI h125 ?_
          refine r_I0 ?_
          obtain ⟨x126, h127, hm⟩ := bnd hm
          refine r_mulS h127 ?_
          refine w_nil ?_
          obtain ⟨y128, h129, hm⟩ := bnd hm
          refine r_appL s83 (k := 0) (x := x126) rfl (.sc _) h129 fun H130 s131 => ?_
          cases som hm
          exact ⟨_, _, _, rfl, s131, h73⟩
        ·
          replace hm := ifF h121 hm
          refine w_drop ?_
          refine w_bm ?_
          refine w_var rfl ?_
          refine ⟨s83.tyL (k := 0) rfl, ?_⟩
          refine w_cons ?_
          refine w_op ?_
          refine w_sl ?_
          refine w_var rfl ?_
          refine w_noPart ?_
          refine w_part ?_
          refine w_c ?_
          refine w_int ?_
          obtain ⟨x132, h133, hm⟩ := bnd hm
          refine r_cutS h133 ?_
          refine w_cb ?_
          refine w_cons ?_
          refine w_op ?_
          refine w_op ?_
          refine w_var rfl ?_
          refine w_c ?_
          refine r_I0 ?_
          refine w_op ?_
          refine w_var rfl ?_
          refine w_var rfl ?_
          obtain ⟨x134, h135, hm⟩ := bnd hm
          refine r_mulI h135 ?_
          refine r_I0 ?_
          refine w_nil ?_
          obtain ⟨x136, h137, hm⟩ := bnd hm
          refine q_strI h137 ?_
          obtain ⟨x138, h139, hm⟩ := bnd hm
          refine r_addS h139 ?_
          refine w_nil ?_
          obtain ⟨y140, h141, hm⟩ := bnd hm
          refine r_appL s83 (k := 0) (x := x138) rfl (.sc _) h141 fun H142 s143 => ?_
          cases som hm
          exact ⟨_, _, _, rfl, s143, h73⟩
  ·
    rintro _ H64 ⟨y60, o61, o62, rfl, s65, h67⟩
    have e9 := som h67; subst e9
    refine w_ret ?_
    refine w_var rfl ?_
    have s144 : S _ _ [fz (.ref p51) (td y60), ow a_law_pool_here (td y46), fz (.ref p31) (td (⟨[(1 : Int), (5 : Int), (7 : Int), (11 : Int), (17 : Int), (19 : Int)]⟩ : Tp Int))] := (s65.pick (E' := [ow p51 (td y60), ow a_law_pool_here (td y46), fz (.ref p31) (td (⟨[(1 : Int), (5 : Int), (7 : Int), (11 : Int), (17 : Int), (19 : Int)]⟩ : Tp Int))]) [0, 1, 2]).freeze rfl
    have s145 : S _ _ [fz (.ref p51) (td y60), ow a_law_pool_here (td y46)] := s144.pick [0, 1]
    cases som hm
    exact kQ _ _ s145
def sp_law_tables (K : PySem.W.Frag) (ce : Str → Addr) : Sp := fun vs H Q _ => ∃ (Z : Addr → Prop) (L : Lk) (a_law_pool_here : Addr) (x_law_pool_here : List Int) (x_law_many : Int) (r : List Str) (y_law_pool_here : List Int), vs = [.ref a_law_pool_here, .int x_law_many] ∧ S (mk K ce Z L H [ow a_law_pool_here (td x_law_pool_here)]) H [ow a_law_pool_here (td x_law_pool_here)] ∧ m_law_tables x_law_pool_here x_law_many = some (r, y_law_pool_here) ∧ ∀ H' w, S (mk K ce Z L H [ow a_law_pool_here (td x_law_pool_here)]) H' (fz w (td r) :: [ow a_law_pool_here (td y_law_pool_here)]) → Q w H'
theorem ok_law_tables {P : Program} {w : World} {K : PySem.W.Frag} {mg : Str → Option Value} {base : Heap} {A : Ad} (T : Txt P K mg A) : FnB P w K mg base 2 A.f__law_tables A.d__law_tables ["_law_pool_here", "_law_many"] (sp_law_tables K A.ce) := by
  have SC := sc_law_tables
  refine Fun.okG0 T.F__law_tables sc_law_tables (fun vs H Q E h => ?_) (fun cdv Ar outer s9 H vs Q E hr h => ?_)
  · obtain ⟨_, _, _, _, _, _, _, rfl, _⟩ := h; rfl
  obtain ⟨Z, L, a_law_pool_here, x_law_pool_here, x_law_many, r, y_law_pool_here, rfl, s0, hm, kQ⟩ := h
  refine ⟨_, (pss_cons (ps_set (i := 2) SC.nd rfl (by first | exact Or.inl rfl | exact Or.inr rfl) pe_str)
    (pss_cons (ps_set (i := 3) SC.nd rfl (by first | exact Or.inl rfl | exact Or.inr rfl) pe_str)
    (pss_cons (ps_for PassesOwn.never rfl (pi_range1 rfl T.n_range (pa_cons (pe_callG ((ok_law_take T).raw0 T.b__law_take) (hr.mono (by decide)) takes0 rfl T.g__law_take T.k__law_take (pa_cons (pv 0) (pa_cons pe_int pa_nil))) pa_nil)) (pg_name (i := 4) SC.nd rfl (by first | exact Or.inl rfl | exact Or.inr rfl)) (pss_one (ps_set (i := 3) SC.nd rfl (by first | exact Or.inl rfl | exact Or.inr rfl) (pe_op op_addT (pv 3) (pe_ix ix_str (pv 2) (pe_callG ((ok_law_take T).raw0 T.b__law_take) (hr.mono (by decide)) takes0 rfl T.g__law_take T.k__law_take (pa_cons (pv 0) (pa_cons pe_int pa_nil))) (fun _ _ => rfl))))))
    (pss_cons (ps_set (i := 5) SC.nd rfl (by first | exact Or.inl rfl | exact Or.inr rfl) (pe_callG ((ok_law_take T).raw0 T.b__law_take) (hr.mono (by decide)) takes0 rfl T.g__law_take T.k__law_take (pa_cons (pv 0) (pa_cons (pe_op op_add (pe_callB call_lenT (by rfl) T.n_len PySem.boot_len (pa_cons (pv 3) pa_nil)) pe_int) pa_nil))))
    (pss_cons (ps_set (i := 6) SC.nd rfl (by first | exact Or.inl rfl | exact Or.inr rfl) (pe_callG ((ok_law_take T).raw0 T.b__law_take) (hr.mono (by decide)) takes0 rfl T.g__law_take T.k__law_take (pa_cons (pv 0) (pa_cons pe_int pa_nil))))
    (pss_cons (ps_set (i := 7) SC.nd rfl (by first | exact Or.inl rfl | exact Or.inr rfl) (pe_and (pe_cmpR op_lt (pv 1) pe_int (nomark _)) (pe_one (pe_cmpR op_eq (pe_callG ((ok_law_take T).raw0 T.b__law_take) (hr.mono (by decide)) takes0 rfl T.g__law_take T.k__law_take (pa_cons (pv 0) (pa_cons pe_int pa_nil))) pe_int (nomark _)))))
    (pss_cons (ps_set (i := 8) SC.nd rfl (by first | exact Or.inl rfl | exact Or.inr rfl) (pe_lst pa_nil))
    (pss_cons (ps_for PassesOwn.never rfl (pi_range1 rfl T.n_range (pa_cons (pv 1) pa_nil)) (pg_name (i := 4) SC.nd rfl (by first | exact Or.inl rfl | exact Or.inr rfl)) (pss_cons (ps_set (i := 9) SC.nd rfl (by first | exact Or.inl rfl | exact Or.inr rfl) (pe_ix ix_str (pv 2) (pe_op op_mod (pe_callTy call_int1' (by rfl) T.n_int (by decide +kernel) (pa_cons (pe_op op_add (pv 6) (pe_op op_mul pe_int (pv 4))) pa_nil)) pe_int) (fun _ _ => rfl)))
    (pss_one (ps_if (pt_val (pv 7)) (pss_one (ps_expr (pe_bm PySem.F.plainAttrs_list PySem.F.slot_list_append PySem.F.type_list_append mt_append (pv 8) (pa_cons (pe_op op_mulT (pe_ix ix_str (pv 2) (pv 6) (fun _ _ => rfl)) (pe_op op_add pe_int (pv 4))) pa_nil)))) (pss_one (ps_if (PW.pt (pw_and (pt_cmpR op_eq (pe_callB call_lenT (by rfl) T.n_len PySem.boot_len (pa_cons (pv 3) pa_nil)) pe_int (nomark _)) (pw_and1 (pt_cmpR op_gt (pv 6) pe_int (nomark _))))) (pss_one (ps_expr (pe_bm PySem.F.plainAttrs_list PySem.F.slot_list_append PySem.F.type_list_append mt_append (pv 8) (pa_cons (pe_op op_mulT (pv 9) (pe_op op_add pe_int (pe_op op_mod (pe_callTy call_int1' (by rfl) T.n_int (by decide +kernel) (pa_cons (pe_op op_add (pv 6) (pv 4)) pa_nil)) pe_int))) pa_nil)))) (pss_one (ps_expr (pe_bm PySem.F.plainAttrs_list PySem.F.slot_list_append PySem.F.type_list_append mt_append (pv 8) (pa_cons (pe_op op_addT (pe_op op_addT (pe_slice sl_str (pv 3) po_none (po_some (pv 5))) (pv 9)) (pe_slice sl_str (pv 3) (po_some (pv 5)) po_none)) pa_nil))))))))))
    (pss_one (ps_ret (pv 8))))))))))), ?_⟩
  refine w_seq [some (.ref a_law_pool_here), some (.int x_law_many), none, none, none, none, none, none, none, none] rfl ?_
  refine w_set ?_
  refine w_c ?_
  refine w_seq [some (.ref a_law_pool_here), some (.int x_law_many), some (.str ("ABCDEFGHIJKLMNOPQRSTUVWXYZ" : Str)), none, none, none, none, none, none, none] rfl ?_
  refine w_set ?_
  refine w_c ?_
  refine w_seq [some (.ref a_law_pool_here), some (.int x_law_many), some (.str ("ABCDEFGHIJKLMNOPQRSTUVWXYZ" : Str)), some (.str ("" : Str)), none, none, none, none, none, none] rfl ?_
  refine w_forR ?_
  refine w_cons ?_
  refine w_callG ?_
  refine w_cons ?_
  refine w_var rfl ?_
  refine w_cons ?_
  refine w_c ?_
  refine w_nil ?_
  have s1 := s0.pick (E' := [ow a_law_pool_here (td x_law_pool_here)] ++ []) [0]
  obtain ⟨⟨x2, y3⟩, h4, hm⟩ := bnd hm
  refine ⟨_, _, _, _, _, _, _, rfl, s1.enter, h4, fun H5 s6 => ?_⟩
  have s7 : S _ _ [ow a_law_pool_here (td y3)] := s1.leave s6
  refine w_nil ?_
  obtain ⟨x9, h8, hm⟩ := bnd hm
  refine r_rng h8 ?_
  obtain ⟨r10, h11, hm⟩ := bnd hm
  refine forB (c := (mk K A.ce Z L H [ow a_law_pool_here (td x_law_pool_here)])) x9 (w := .rng 0 x2) rfl (fun l19 σ16 H17 => ∃ (y13 : List Int) (x14 : Str) (o15 : Option V), σ16 = [some (.ref a_law_pool_here), some (.int x_law_many), some (.str ("ABCDEFGHIJKLMNOPQRSTUVWXYZ" : Str)), some (.str x14), o15, none, none, none, none, none] ∧ S (mk K A.ce Z L H [ow a_law_pool_here (td x_law_pool_here)]) H17 [ow a_law_pool_here (td y13)] ∧ foldO l19 (y13, x14) m_law_tables_L1 = some r10) ?_ ?_ ?_ ?_
  ·
    exact ⟨_, _, _, rfl, s7, h11⟩
  ·
    rintro _ _ _ ⟨y13, x14, o15, rfl, s18, h20⟩; exact rng_at h8
  ·
    rintro d21 l19 w22 _ H17 ⟨y13, x14, o15, rfl, s18, h20⟩ g23
    obtain ⟨q24, h25, h26⟩ := fold_cons h20
    have h12 := hm
    replace hm := h25
    obtain rfl : V.int d21 = w22 := gv_sc g23
    refine w_name ?_
    refine w_set ?_
    refine w_op ?_
    refine w_var rfl ?_
    refine w_op ?_
    refine w_var rfl ?_
    refine w_callG ?_
    refine w_cons ?_
    refine w_var rfl ?_
    refine w_cons ?_
    refine w_c ?_
    refine w_nil ?_
    have s29 := s18.pick (E' := [ow a_law_pool_here (td y13)] ++ []) [0]
    obtain ⟨⟨x30, y31⟩, h32, hm⟩ := bnd hm
    refine ⟨_, _, _, _, _, _, _, rfl, s29.enter, h32, fun H33 s34 => ?_⟩
    have s35 : S _ _ [ow a_law_pool_here (td y31)] := s29.leave s34
    obtain ⟨x36, h37, hm⟩ := bnd hm
    refine r_ixS h37 ?_
    obtain ⟨x38, h39, hm⟩ := bnd hm
    refine r_addS h39 ?_
    cases som hm
    exact ⟨_, _, _, rfl, s35, h26⟩
  ·
    rintro _ H17 ⟨y13, x14, o15, rfl, s18, h20⟩
    have e9 := som h20; subst e9
    refine w_seq [some (.ref a_law_pool_here), some (.int x_law_many), some (.str ("ABCDEFGHIJKLMNOPQRSTUVWXYZ" : Str)), some (.str x14), o15, none, none, none, none, none] rfl ?_
    refine w_set ?_
    refine w_callG ?_
    refine w_cons ?_
    refine w_var rfl ?_
    refine w_cons ?_
    refine w_op ?_
    refine w_cb ?_
    refine w_cons ?_
    refine w_var rfl ?_
    refine w_nil ?_
    obtain ⟨x40, h41, hm⟩ := bnd hm
    refine r_lenS h41 ?_
    refine w_c ?_
    refine r_I0 ?_
    refine w_nil ?_
    have s42 := s18.pick (E' := [ow a_law_pool_here (td y13)] ++ []) [0]
    obtain ⟨⟨x43, y44⟩, h45, hm⟩ := bnd hm
    refine ⟨_, _, _, _, _, _, _, rfl, s42.enter, h45, fun H46 s47 => ?_⟩
    have s48 : S _ _ [ow a_law_pool_here (td y44)] := s42.leave s47
    refine w_seq [some (.ref a_law_pool_here), some (.int x_law_many), some (.str ("ABCDEFGHIJKLMNOPQRSTUVWXYZ" : Str)), some (.str x14), o15, some (.int x43), none, none, none, none] rfl ?_
    refine w_set ?_
    refine w_callG ?_
    refine w_cons ?_
    refine w_var rfl ?_
    refine w_cons ?_
    refine w_c ?_
    refine w_nil ?_
    have s49 := s48.pick (E' := [ow a_law_pool_here (td y44)] ++ []) [0]
    obtain ⟨⟨x50, y51⟩, h52, hm⟩ := bnd hm
    refine ⟨_, _, _, _, _, _, _, rfl, s49.enter, h52, fun H53 s54 => ?_⟩
    have s55 : S _ _ [ow a_law_pool_here (td y51)] := s49.leave s54
    refine w_seq [some (.ref a_law_pool_here), some (.int x_law_many), some (.str ("ABCDEFGHIJKLMNOPQRSTUVWXYZ" : Str)), some (.str x14), o15, some (.int x43), some (.int x50), none, none, none] rfl ?_
    refine w_set ?_
    obtain ⟨⟨b56, y58⟩, h57, hm⟩ := bnd hm
    refine cutE (P := fun v H9 => v = .bl b56 ∧ S (mk K A.ce Z L H [ow a_law_pool_here (td x_law_pool_here)]) H9 [ow a_law_pool_here (td y58)]) (fun Q9 k9 => ?_) ?_
    ·
      replace hm := h57
      refine w_andV ?_
      refine w_op ?_
      refine w_var rfl ?_
      refine w_c ?_
      refine r_I0 ?_
      refine w_bl ?_
      refine w_ite (fun h61 => ?_) (fun h61 => ?_)
      ·
        replace hm := ifT h61 hm
        refine w_op ?_
        refine w_callG ?_
        refine w_cons ?_
        refine w_var rfl ?_
        refine w_cons ?_
        refine w_c ?_
        refine w_nil ?_
        have s62 := s55.pick (E' := [ow a_law_pool_here (td y51)] ++ []) [0]
        obtain ⟨⟨x63, y64⟩, h65, hm⟩ := bnd hm
        refine ⟨_, _, _, _, _, _, _, rfl, s62.enter, h65, fun H66 s67 => ?_⟩
        have s68 : S _ _ [ow a_law_pool_here (td y64)] := s62.leave s67
        refine w_c ?_
        refine r_eqI ?_
        cases som hm
        exact k9 _ _ ⟨rfl, s68⟩
      ·
        replace hm := ifF h61 hm
        cases som hm
        exact k9 _ _ ⟨rfl, s55⟩
    rintro _ H59 ⟨rfl, s60⟩
    refine w_seq [some (.ref a_law_pool_here), some (.int x_law_many), some (.str ("ABCDEFGHIJKLMNOPQRSTUVWXYZ" : Str)), some (.str x14), o15, some (.int x43), some (.int x50), some (.bl b56), none, none] rfl ?_
    refine w_set ?_
    refine w_lst ?_
    refine w_nil ?_
    refine r_lstO s60 (.nil) (q := fun p69 H70 s71 => ?_)
    have s72 : S _ _ [ow p69 (td ([] : List Str)), ow a_law_pool_here (td y58)] := s71
    refine w_seq [some (.ref a_law_pool_here), some (.int x_law_many), some (.str ("ABCDEFGHIJKLMNOPQRSTUVWXYZ" : Str)), some (.str x14), o15, some (.int x43), some (.int x50), some (.bl b56), some (.ref p69), none] rfl ?_
    refine w_forR ?_
    refine w_cons ?_
    refine w_var rfl ?_
    refine w_nil ?_
    obtain ⟨x74, h73, hm⟩ := bnd hm
    refine r_rng h73 ?_
    obtain ⟨r75, h76, hm⟩ := bnd hm
    refine forB (c := (mk K A.ce Z L H [ow a_law_pool_here (td x_law_pool_here)])) x74 (w := .rng 0 x_law_many) rfl (fun l84 σ81 H82 => ∃ (y78 : List Str) (o79 : Option V) (o80 : Option V), σ81 = [some (.ref a_law_pool_here), some (.int x_law_many), some (.str ("ABCDEFGHIJKLMNOPQRSTUVWXYZ" : Str)), some (.str x14), o79, some (.int x43), some (.int x50), some (.bl b56), some (.ref p69), o80] ∧ S (mk K A.ce Z L H [ow a_law_pool_here (td x_law_pool_here)]) H82 [ow p69 (td y78), ow a_law_pool_here (td y58)] ∧ foldO l84 y78 (m_law_tables_L2 x14 x43 x50 b56) = some r75) ?_ ?_ ?_ ?_
    ·
      exact ⟨_, _, _, rfl, s72, h76⟩
    ·
      rintro _ _ _ ⟨y78, o79, o80, rfl, s83, h85⟩; exact rng_at h73
    ·
      rintro d86 l84 w87 _ H82 ⟨y78, o79, o80, rfl, s83, h85⟩ g88
      obtain ⟨q89, h90, h91⟩ := fold_cons h85
      have h77 := hm
      replace hm := h90
      obtain rfl : V.int d86 = w87 := gv_sc g88
      refine w_name ?_
      refine w_seq [some (.ref a_law_pool_here), some (.int x_law_many), some (.str ("ABCDEFGHIJKLMNOPQRSTUVWXYZ" : Str)), some (.str x14), some (.int d86), some (.int x43), some (.int x50), some (.bl b56), some (.ref p69), o80] rfl ?_
      refine w_set ?_
      refine w_op ?_
      refine w_var rfl ?_
      refine w_op ?_
      refine w_cb ?_
      refine w_cons ?_
      refine w_op ?_
      refine w_var rfl ?_
      refine w_op ?_
      refine w_c ?_
      refine w_var rfl ?_
      refine r_I (.inl ⟨by decide, by decide⟩) ?_
      refine r_I0 ?_
      refine w_nil ?_
      refine r_intI ?_
      refine w_c ?_
      refine r_I (show (0 : Int) < 26 by decide) ?_
      obtain ⟨x94, h95, hm⟩ := bnd hm
      refine r_ixS h95 ?_
      refine w_if ?_
      refine w_B ?_
      refine w_var rfl ?_
      refine w_bl ?_
      refine w_ite (fun h96 => ?_) (fun h96 => ?_)
      ·
        replace hm := ifT h96 hm
        refine w_drop ?_
        refine w_bm ?_
        refine w_var rfl ?_
        refine ⟨s83.tyL (k := 0) rfl, ?_⟩
        refine w_cons ?_
        refine w_op ?_
        refine w_op ?_
        refine w_var rfl ?_
        refine w_var rfl ?_
        obtain ⟨x97, h98, hm⟩ := bnd hm
        refine r_ixS h98 ?_
        refine w_op ?_
        refine w_c ?_
        refine w_var rfl ?_
        refine r_I0 ?_
        obtain ⟨x99, h100, hm⟩ := bnd hm
        refine r_mulS h100 ?_
        refine w_nil ?_
        obtain ⟨y101, h102, hm⟩ := bnd hm
        refine r_appL s83 (k := 0) (x := x99) rfl (.sc _) h102 fun H103 s104 => ?_
        cases som hm
        exact ⟨_, _, _, rfl, s104, h91⟩
      ·
        replace hm := ifF h96 hm
        refine w_if ?_
        obtain ⟨b105, h106, hm⟩ := bnd hm
        refine cutT (P := fun v H9 => v = b105 ∧ S (mk K A.ce Z L H [ow a_law_pool_here (td x_law_pool_here)]) H9 [ow p69 (td y78), ow a_law_pool_here (td y58)]) (fun Q9 k9 => ?_) ?_
        ·
          replace hm := h106
          refine w_and ?_
          refine w_test ?_
          refine w_op ?_
          refine w_cb ?_
          refine w_cons ?_
          refine w_var rfl ?_
          refine w_nil ?_
          obtain ⟨x109, h110, hm⟩ := bnd hm
          refine r_lenS h110 ?_
          refine w_c ?_
          refine r_eqI ?_
          refine w_bl ?_
          refine w_ite (fun h111 => ?_) (fun h111 => ?_)
          ·
            replace hm := ifT h111 hm
            refine w_test ?_
            refine w_op ?_
            refine w_var rfl ?_
            refine w_c ?_
            refine r_I0 ?_
            refine w_bl ?_
            cases som hm
            exact k9 _ _ ⟨rfl, s83⟩
          ·
            replace hm := ifF h111 hm
            cases som hm
            exact k9 _ _ ⟨rfl, s83⟩
        rintro _ H107 ⟨rfl, s108⟩
        refine w_ite (fun h112 => ?_) (fun h112 => ?_)
        ·
          replace hm := ifT h112 hm
          refine w_drop ?_
          refine w_bm ?_
          refine w_var rfl ?_
          refine ⟨s108.tyL (k := 0) rfl, ?_⟩
          refine w_cons ?_
          refine w_op ?_
          refine w_var rfl ?_
          refine w_op ?_
          refine w_c ?_
          refine w_op ?_
          refine w_cb ?_
          refine w_cons ?_
          refine w_op ?_
          refine w_var rfl ?_
          refine w_var rfl ?_
          refine r_I0 ?_
          refine w_nil ?_
          refine r_intI ?_
          refine w_c ?_
          refine r_I (show (0 : Int) < 3 by decide) ?_
          refine r_I0 ?_
          obtain ⟨x113, h114, hm⟩ := bnd hm
          refine r_mulS h114 ?_
          refine w_nil ?_
          obtain ⟨y115, h116, hm⟩ := bnd hm
          refine r_appL s108 (k := 0) (x := x113) rfl (.sc _) h116 fun H117 s118 => ?_
          cases som hm
          exact ⟨_, _, _, rfl, s118, h91⟩
        ·
          replace hm := ifF h112 hm
          refine w_drop ?_
          refine w_bm ?_
          refine w_var rfl ?_
          refine ⟨s108.tyL (k := 0) rfl, ?_⟩
          refine w_cons ?_
          refine w_op ?_
          refine w_op ?_
          refine w_sl ?_
          refine w_var rfl ?_
          refine w_noPart ?_
          refine w_part ?_
          refine w_var rfl ?_
          refine w_int ?_
          obtain ⟨x119, h120, hm⟩ := bnd hm
          refine r_cutS h120 ?_
          refine w_var rfl ?_
          obtain ⟨x121, h122, hm⟩ := bnd hm
          refine r_addS h122 ?_
          refine w_sl ?_
          refine w_var rfl ?_
          refine w_part ?_
          refine w_var rfl ?_
          refine w_int ?_
          refine w_noPart ?_
          obtain ⟨x123, h124, hm⟩ := bnd hm
          refine r_cutS h124 ?_
          obtain ⟨x125, h126, hm⟩ := bnd hm
          refine r_addS h126 ?_
          refine w_nil ?_
          obtain ⟨y127, h128, hm⟩ := bnd hm
          refine r_appL s108 (k := 0) (x := x125) rfl (.sc _) h128 fun H129 s130 => ?_
          cases som hm
          exact ⟨_, _, _, rfl, s130, h91⟩
    ·
      rintro _ H82 ⟨y78, o79, o80, rfl, s83, h85⟩
      have e9 := som h85; subst e9
      refine w_ret ?_
      refine w_var rfl ?_
      have s131 : S _ _ [fz (.ref p69) (td y78), ow a_law_pool_here (td y58)] := (s83.pick (E' := [ow p69 (td y78), ow a_law_pool_here (td y58)]) [0, 1]).freeze rfl
      cases som hm
      exact kQ _ _ s131
def sp_law_ties (K : PySem.W.Frag) (ce : Str → Addr) : Sp := fun vs H Q _ => ∃ (Z : Addr → Prop) (L : Lk) (a_law_pool_here : Addr) (x_law_pool_here : List Int) (v_law_names : V) (x_law_names : List Str) (b_law_names : Bool) (v_law_tables_here : V) (x_law_tables_here : List Str) (b_law_tables_here : Bool) (x_law_many : Int) (r : List (T3 Str Str Str)) (y_law_pool_here : List Int), vs = [.ref a_law_pool_here, v_law_names, v_law_tables_here, .int x_law_many] ∧ S (mk K ce Z L H [ow a_law_pool_here (td x_law_pool_here), en v_law_names (td x_law_names) b_law_names, en v_law_tables_here (td x_law_tables_here) b_law_tables_here]) H [ow a_law_pool_here (td x_law_pool_here), en v_law_names (td x_law_names) b_law_names, en v_law_tables_here (td x_law_tables_here) b_law_tables_here] ∧ m_law_ties x_law_pool_here x_law_names x_law_tables_here x_law_many = some (r, y_law_pool_here) ∧ ∀ H' w, S (mk K ce Z L H [ow a_law_pool_here (td x_law_pool_here), en v_law_names (td x_law_names) b_law_names, en v_law_tables_here (td x_law_tables_here) b_law_tables_here]) H' (fz w (td r) :: [ow a_law_pool_here (td y_law_pool_here), en v_law_names (td x_law_names) b_law_names, en v_law_tables_here (td x_law_tables_here) b_law_tables_here]) → Q w H'
theorem ok_law_ties {P : Program} {w : World} {K : PySem.W.Frag} {mg : Str → Option Value} {base : Heap} {A : Ad} (T : Txt P K mg A) : FnB P w K mg base 2 A.f__law_ties A.d__law_ties ["_law_pool_here", "_law_names", "_law_tables_here", "_law_many"] (sp_law_ties K A.ce) := by
  have SC := sc_law_ties
  refine Fun.okG0 T.F__law_ties sc_law_ties (fun vs H Q E h => ?_) (fun cdv Ar outer s9 H vs Q E hr h => ?_)
  · obtain ⟨_, _, _, _, _, _, _, _, _, _, _, _, _, rfl, _⟩ := h; rfl
  obtain ⟨Z, L, a_law_pool_here, x_law_pool_here, v_law_names, x_law_names, b_law_names, v_law_tables_here, x_law_tables_here, b_law_tables_here, x_law_many, r, y_law_pool_here, rfl, s0, hm, kQ⟩ := h
  refine ⟨_, (pss_cons (ps_set (i := 4) SC.nd rfl (by first | exact Or.inl rfl | exact Or.inr rfl) (pe_lst pa_nil))
    (pss_cons (ps_set (i := 5) SC.nd rfl (by first | exact Or.inl rfl | exact Or.inr rfl) (pe_op op_mod (pe_callTy call_int1' (by rfl) T.n_int (by decide +kernel) (pa_cons (pe_op op_add pe_int (pe_callG ((ok_law_take T).raw0 T.b__law_take) (hr.mono (by decide)) takes0 rfl T.g__law_take T.k__law_take (pa_cons (pv 0) (pa_cons pe_int pa_nil)))) pa_nil)) pe_int))
    (pss_cons (ps_for PassesOwn.never rfl (pi_range1 rfl T.n_range (pa_cons (pv 3) pa_nil)) (pg_name (i := 6) SC.nd rfl (by first | exact Or.inl rfl | exact Or.inr rfl)) (pss_cons (ps_set (i := 7) SC.nd rfl (by first | exact Or.inl rfl | exact Or.inr rfl) (pe_ix ix_list (pv 1) (pe_callG ((ok_law_take T).raw0 T.b__law_take) (hr.mono (by decide)) takes0 rfl T.g__law_take T.k__law_take (pa_cons (pv 0) (pa_cons (pe_callB call_lenQ (by rfl) T.n_len PySem.boot_len (pa_cons (pv 1) pa_nil)) pa_nil))) (fun _ _ => rfl)))
    (pss_cons (ps_set (i := 8) SC.nd rfl (by first | exact Or.inl rfl | exact Or.inr rfl) (pe_ix ix_list (pv 1) (pe_callG ((ok_law_take T).raw0 T.b__law_take) (hr.mono (by decide)) takes0 rfl T.g__law_take T.k__law_take (pa_cons (pv 0) (pa_cons (pe_callB call_lenQ (by rfl) T.n_len PySem.boot_len (pa_cons (pv 1) pa_nil)) pa_nil))) (fun _ _ => rfl)))
    (Evl.pss_cut (ps_if (PW.pt (pw_or (pt_cmpR op_eq (pv 5) pe_int (nomark _)) (pw_or1 (pt_cmpR op_eq (pv 5) pe_int (nomark _))))) (pss_cons (ps_set (i := 7) SC.nd rfl (by first | exact Or.inl rfl | exact Or.inr rfl) (pe_ix ix_list (pv 1) (pe_op op_mod (pe_callTy call_int1' (by rfl) T.n_int (by decide +kernel) (pa_cons (pv 6) pa_nil)) (pe_callB call_lenQ (by rfl) T.n_len PySem.boot_len (pa_cons (pv 1) pa_nil))) (fun _ _ => rfl)))
    (pss_one (ps_set (i := 8) SC.nd rfl (by first | exact Or.inl rfl | exact Or.inr rfl) (pe_ix ix_list (pv 1) (pe_op op_mod (pe_callTy call_int1' (by rfl) T.n_int (by decide +kernel) (pa_cons (pe_op op_add (pv 6) pe_int) pa_nil)) (pe_callB call_lenQ (by rfl) T.n_len PySem.boot_len (pa_cons (pv 1) pa_nil))) (fun _ _ => rfl))))) pss_nil)
    (Evl.pss_cut (ps_if (PW.pt (pw_and (pt_cmpR op_eq (pv 5) pe_int (nomark _)) (pw_and1 (pt_cmpR op_gt (pe_callB call_lenQ (by rfl) T.n_len PySem.boot_len (pa_cons (pv 1) pa_nil)) pe_int (nomark _))))) (pss_cons (ps_set (i := 9) SC.nd rfl (by first | exact Or.inl rfl | exact Or.inr rfl) (pe_op op_add pe_int (pe_op op_mod (pe_callTy call_int1' (by rfl) T.n_int (by decide +kernel) (pa_cons (pv 6) pa_nil)) (pe_op op_sub (pe_callB call_lenQ (by rfl) T.n_len PySem.boot_len (pa_cons (pv 1) pa_nil)) pe_int))))
    (pss_cons (ps_set (i := 7) SC.nd rfl (by first | exact Or.inl rfl | exact Or.inr rfl) (pe_ix ix_list (pv 1) (pv 9) (fun _ _ => rfl)))
    (pss_one (ps_set (i := 8) SC.nd rfl (by first | exact Or.inl rfl | exact Or.inr rfl) (pe_ix ix_list (pv 1) (pe_callG ((ok_law_take T).raw0 T.b__law_take) (hr.mono (by decide)) takes0 rfl T.g__law_take T.k__law_take (pa_cons (pv 0) (pa_cons (pv 9) pa_nil))) (fun _ _ => rfl)))))) pss_nil)
    (pss_cons (ps_set (i := 10) SC.nd rfl (by first | exact Or.inl rfl | exact Or.inr rfl) (pe_ix ix_list (pv 2) (pe_callG ((ok_law_take T).raw0 T.b__law_take) (hr.mono (by decide)) takes0 rfl T.g__law_take T.k__law_take (pa_cons (pv 0) (pa_cons (pe_callB call_lenQ (by rfl) T.n_len PySem.boot_len (pa_cons (pv 2) pa_nil)) pa_nil))) (fun _ _ => rfl)))
    (pss_one (ps_if (PW.pt (pw_or (pt_cmpR op_eq (pv 5) pe_int (nomark _)) (pw_or1 (pt_cmpR op_eq (pe_callG ((ok_law_take T).raw0 T.b__law_take) (hr.mono (by decide)) takes0 rfl T.g__law_take T.k__law_take (pa_cons (pv 0) (pa_cons pe_int pa_nil))) pe_int (nomark _))))) (pss_one (ps_expr (pe_bm PySem.F.plainAttrs_list PySem.F.slot_list_append PySem.F.type_list_append mt_append (pv 4) (pa_cons (pe_tup (pa_cons (pv 10) (pa_cons (pv 7) (pa_cons (pv 8) pa_nil)))) pa_nil)))) (pss_one (ps_expr (pe_bm PySem.F.plainAttrs_list PySem.F.slot_list_append PySem.F.type_list_append mt_append (pv 4) (pa_cons (pe_tup (pa_cons (pv 10) (pa_cons (pv 8) (pa_cons (pv 7) pa_nil)))) pa_nil))))))))))))
    (pss_one (ps_ret (pv 4)))))), ?_⟩
  refine w_seq [some (.ref a_law_pool_here), some (v_law_names), some (v_law_tables_here), some (.int x_law_many), none, none, none, none, none, none, none] rfl ?_
  refine w_set ?_
  refine w_lst ?_
  refine w_nil ?_
  refine r_lstO s0 (.nil) (q := fun p1 H2 s3 => ?_)
  have s4 : S _ _ [ow p1 (td ([] : List (T3 Str Str Str))), ow a_law_pool_here (td x_law_pool_here), en v_law_names (td x_law_names) b_law_names, en v_law_tables_here (td x_law_tables_here) b_law_tables_here] := s3
  refine w_seq [some (.ref a_law_pool_here), some (v_law_names), some (v_law_tables_here), some (.int x_law_many), some (.ref p1), none, none, none, none, none, none] rfl ?_
  refine w_set ?_
  refine w_op ?_
  refine w_cb ?_
  refine w_cons ?_
  refine w_op ?_
  refine w_c ?_
  refine w_callG ?_
  refine w_cons ?_
  refine w_var rfl ?_
  refine w_cons ?_
  refine w_c ?_
  refine w_nil ?_
  have s5 := s4.pick (E' := [ow a_law_pool_here (td x_law_pool_here)] ++ [ow p1 (td ([] : List (T3 Str Str Str))), en v_law_names (td x_law_names) b_law_names, en v_law_tables_here (td x_law_tables_here) b_law_tables_here]) [1, 0, 2, 3]
  obtain ⟨⟨x6, y7⟩, h8, hm⟩ := bnd hm
  refine ⟨_, _, _, _, _, _, _, rfl, s5.enter, h8, fun H9 s10 => ?_⟩
  have s11 : S _ _ [ow a_law_pool_here (td y7), ow p1 (td ([] : List (T3 Str Str Str))), en v_law_names (td x_law_names) b_law_names, en v_law_tables_here (td x_law_tables_here) b_law_tables_here] := s5.leave s10
  refine r_I0 ?_
  refine w_nil ?_
  refine r_intI ?_
  refine w_c ?_
  refine r_I (show (0 : Int) < 4 by decide) ?_
  refine w_seq [some (.ref a_law_pool_here), some (v_law_names), some (v_law_tables_here), some (.int x_law_many), some (.ref p1), some (.int (((1 : Int) + x6) % (4 : Int))), none, none, none, none, none] rfl ?_
  refine w_forR ?_
  refine w_cons ?_
  refine w_var rfl ?_
  refine w_nil ?_
  obtain ⟨x13, h12, hm⟩ := bnd hm
  refine r_rng h12 ?_
  obtain ⟨r14, h15, hm⟩ := bnd hm
  refine forB (c := (mk K A.ce Z L H [ow a_law_pool_here (td x_law_pool_here), en v_law_names (td x_law_names) b_law_names, en v_law_tables_here (td x_law_tables_here) b_law_tables_here])) x13 (w := .rng 0 x_law_many) rfl (fun l27 σ24 H25 => ∃ (y17 : List Int) (y18 : List (T3 Str Str Str)) (o19 : Option V) (o20 : Option V) (o21 : Option V) (o22 : Option V) (o23 : Option V), σ24 = [some (.ref a_law_pool_here), some (v_law_names), some (v_law_tables_here), some (.int x_law_many), some (.ref p1), some (.int (((1 : Int) + x6) % (4 : Int))), o19, o20, o21, o23, o22] ∧ S (mk K A.ce Z L H [ow a_law_pool_here (td x_law_pool_here), en v_law_names (td x_law_names) b_law_names, en v_law_tables_here (td x_law_tables_here) b_law_tables_here]) H25 [ow a_law_pool_here (td y17), ow p1 (td y18), en v_law_names (td x_law_names) b_law_names, en v_law_tables_here (td x_law_tables_here) b_law_tables_here] ∧ foldO l27 (y17, y18) (m_law_ties_L1 x_law_names x_law_tables_here x6) = some r14) ?_ ?_ ?_ ?_
  ·
    exact ⟨_, _, _, _, _, _, _, rfl, s11, h15⟩
  ·
    rintro _ _ _ ⟨y17, y18, o19, o20, o21, o22, o23, rfl, s26, h28⟩; exact rng_at h12
  ·
    rintro d29 l27 w30 _ H25 ⟨y17, y18, o19, o20, o21, o22, o23, rfl, s26, h28⟩ g31
    obtain ⟨q32, h33, h34⟩ := fold_cons h28
    have h16 := hm
    replace hm := h33
    obtain rfl : V.int d29 = w30 := gv_sc g31
    refine w_name ?_
    refine w_seq [some (.ref a_law_pool_here), some (v_law_names), some (v_law_tables_here), some (.int x_law_many), some (.ref p1), some (.int (((1 : Int) + x6) % (4 : Int))), some (.int d29), o20, o21, o23, o22] rfl ?_
    refine w_set ?_
    refine w_op ?_
    refine w_var rfl ?_
    refine w_callG ?_
    refine w_cons ?_
    refine w_var rfl ?_
    refine w_cons ?_
    refine w_cb ?_
    refine w_cons ?_
    refine w_var rfl ?_
    refine w_nil ?_
    refine r_lenQ s26 (k := 2) rfl ?_
    refine w_nil ?_
    have s37 := s26.pick (E' := [ow a_law_pool_here (td y17)] ++ [ow p1 (td y18), en v_law_names (td x_law_names) b_law_names, en v_law_tables_here (td x_law_tables_here) b_law_tables_here]) [0, 1, 2, 3]
    obtain ⟨⟨x38, y39⟩, h40, hm⟩ := bnd hm
    refine ⟨_, _, _, _, _, _, _, rfl, s37.enter, h40, fun H41 s42 => ?_⟩
    have s43 : S _ _ [ow a_law_pool_here (td y39), ow p1 (td y18), en v_law_names (td x_law_names) b_law_names, en v_law_tables_here (td x_law_tables_here) b_law_tables_here] := s37.leave s42
    obtain ⟨x44, h45, hm⟩ := bnd hm
    refine r_ixLs s43 (k := 2) rfl h45 ?_
    refine w_seq [some (.ref a_law_pool_here), some (v_law_names), some (v_law_tables_here), some (.int x_law_many), some (.ref p1), some (.int (((1 : Int) + x6) % (4 : Int))), some (.int d29), some (.str x44), o21, o23, o22] rfl ?_
    refine w_set ?_
    refine w_op ?_
    refine w_var rfl ?_
    refine w_callG ?_
    refine w_cons ?_
    refine w_var rfl ?_
    refine w_cons ?_
    refine w_cb ?_
    refine w_cons ?_
    refine w_var rfl ?_
    refine w_nil ?_
    refine r_lenQ s43 (k := 2) rfl ?_
    refine w_nil ?_
    have s46 := s43.pick (E' := [ow a_law_pool_here (td y39)] ++ [ow p1 (td y18), en v_law_names (td x_law_names) b_law_names, en v_law_tables_here (td x_law_tables_here) b_law_tables_here]) [0, 1, 2, 3]
    obtain ⟨⟨x47, y48⟩, h49, hm⟩ := bnd hm
    refine ⟨_, _, _, _, _, _, _, rfl, s46.enter, h49, fun H50 s51 => ?_⟩
    have s52 : S _ _ [ow a_law_pool_here (td y48), ow p1 (td y18), en v_law_names (td x_law_names) b_law_names, en v_law_tables_here (td x_law_tables_here) b_law_tables_here] := s46.leave s51
    obtain ⟨x53, h54, hm⟩ := bnd hm
    refine r_ixLs s52 (k := 2) rfl h54 ?_
    obtain ⟨⟨x55, x56⟩, h57, hm⟩ := bnd hm
    refine w_cut [some (.ref a_law_pool_here), some (v_law_names), some (v_law_tables_here), some (.int x_law_many), some (.ref p1), some (.int (((1 : Int) + x6) % (4 : Int))), some (.int d29), some (.str x44), some (.str x53), o23, o22] rfl (fun σ60 H58 => σ60 = [some (.ref a_law_pool_here), some (v_law_names), some (v_law_tables_here), some (.int x_law_many), some (.ref p1), some (.int (((1 : Int) + x6) % (4 : Int))), some (.int d29), some (.str x55), some (.str x56), o23, o22] ∧ S (mk K A.ce Z L H [ow a_law_pool_here (td x_law_pool_here), en v_law_names (td x_law_names) b_law_names, en v_law_tables_here (td x_law_tables_here) b_law_tables_here]) H58 [ow a_law_pool_here (td y48), ow p1 (td y18), en v_law_names (td x_law_names) b_law_names, en v_law_tables_here (td x_law_tables_here) b_law_tables_here]) ?_ ?_
    ·
      replace hm := h57
      refine w_if ?_
      obtain ⟨b61, h62, hm⟩ := bnd hm
      refine cutT (P := fun v H9 => v = b61 ∧ S (mk K A.ce Z L H [ow a_law_pool_here (td x_law_pool_here), en v_law_names (td x_law_names) b_law_names, en v_law_tables_here (td x_law_tables_here) b_law_tables_here]) H9 [ow a_law_pool_here (td y48), ow p1 (td y18), en v_law_names (td x_law_names) b_law_names, en v_law_tables_here (td x_law_tables_here) b_law_tables_here]) (fun Q9 k9 => ?_) ?_
      ·
        replace hm := h62
        refine w_or ?_
        refine w_test ?_
        refine w_op ?_
        refine w_var rfl ?_
        refine w_c ?_
        refine r_eqI ?_
        refine w_bl ?_
        refine w_ite (fun h65 => ?_) (fun h65 => ?_)
        ·
          replace hm := ifT h65 hm
          cases som hm
          exact k9 _ _ ⟨rfl, s52⟩
        ·
          replace hm := ifF h65 hm
          refine w_test ?_
          refine w_op ?_
          refine w_var rfl ?_
          refine w_c ?_
          refine r_eqI ?_
          refine w_bl ?_
          cases som hm
          exact k9 _ _ ⟨rfl, s52⟩
      rintro _ H63 ⟨rfl, s64⟩
      refine w_ite (fun h66 => ?_) (fun h66 => ?_)
      ·
        replace hm := ifT h66 hm
        refine w_seq [some (.ref a_law_pool_here), some (v_law_names), some (v_law_tables_here), some (.int x_law_many), some (.ref p1), some (.int (((1 : Int) + x6) % (4 : Int))), some (.int d29), some (.str x44), some (.str x53), o23, o22] rfl ?_
        refine w_set ?_
        refine w_op ?_
        refine w_var rfl ?_
        refine w_op ?_
        refine w_cb ?_
        refine w_cons ?_
        refine w_var rfl ?_
        refine w_nil ?_
        refine r_intI ?_
        refine w_cb ?_
        refine w_cons ?_
        refine w_var rfl ?_
        refine w_nil ?_
        refine r_lenQ s64 (k := 2) rfl ?_
        obtain ⟨x67, h68, hm⟩ := bnd hm
        refine r_modI h68 ?_
        obtain ⟨x69, h70, hm⟩ := bnd hm
        refine r_ixLs s64 (k := 2) rfl h70 ?_
        refine w_set ?_
        refine w_op ?_
        refine w_var rfl ?_
        refine w_op ?_
        refine w_cb ?_
        refine w_cons ?_
        refine w_op ?_
        refine w_var rfl ?_
        refine w_c ?_
        refine r_I0 ?_
        refine w_nil ?_
        refine r_intI ?_
        refine w_cb ?_
        refine w_cons ?_
        refine w_var rfl ?_
        refine w_nil ?_
        refine r_lenQ s64 (k := 2) rfl ?_
        obtain ⟨x71, h72, hm⟩ := bnd hm
        refine r_modI h72 ?_
        obtain ⟨x73, h74, hm⟩ := bnd hm
        refine r_ixLs s64 (k := 2) rfl h74 ?_
        cases som hm
        exact ⟨rfl, s64⟩
      ·
        replace hm := ifF h66 hm
        refine w_next ?_
        cases som hm
        exact ⟨rfl, s64⟩
    rintro _ H58 ⟨rfl, s59⟩
    obtain ⟨⟨y75, x76, x77⟩, h79, hm⟩ := bnd hm
    refine w_cut [some (.ref a_law_pool_here), some (v_law_names), some (v_law_tables_here), some (.int x_law_many), some (.ref p1), some (.int (((1 : Int) + x6) % (4 : Int))), some (.int d29), some (.str x55), some (.str x56), o23, o22] rfl (fun σ82 H80 => ∃ (o78 : Option V), σ82 = [some (.ref a_law_pool_here), some (v_law_names), some (v_law_tables_here), some (.int x_law_many), some (.ref p1), some (.int (((1 : Int) + x6) % (4 : Int))), some (.int d29), some (.str x76), some (.str x77), o78, o22] ∧ S (mk K A.ce Z L H [ow a_law_pool_here (td x_law_pool_here), en v_law_names (td x_law_names) b_law_names, en v_law_tables_here (td x_law_tables_here) b_law_tables_here]) H80 [ow a_law_pool_here (td y75), ow p1 (td y18), en v_law_names (td x_law_names) b_law_names, en v_law_tables_here (td x_law_tables_here) b_law_tables_here]) ?_ ?_
    ·
      replace hm := h79
      refine w_if ?_
      obtain ⟨b83, h84, hm⟩ := bnd hm
      refine cutT (P := fun v H9 => v = b83 ∧ S (mk K A.ce Z L H [ow a_law_pool_here (td x_law_pool_here), en v_law_names (td x_law_names) b_law_names, en v_law_tables_here (td x_law_tables_here) b_law_tables_here]) H9 [ow a_law_pool_here (td y48), ow p1 (td y18), en v_law_names (td x_law_names) b_law_names, en v_law_tables_here (td x_law_tables_here) b_law_tables_here]) (fun Q9 k9 => ?_) ?_
      ·
        replace hm := h84
        refine w_and ?_
        refine w_test ?_
        refine w_op ?_
        refine w_var rfl ?_
        refine w_c ?_
        refine r_eqI ?_
        refine w_bl ?_
        refine w_ite (fun h87 => ?_) (fun h87 => ?_)
        ·
          replace hm := ifT h87 hm
          refine w_test ?_
          refine w_op ?_
          refine w_cb ?_
          refine w_cons ?_
          refine w_var rfl ?_
          refine w_nil ?_
          refine r_lenQ s59 (k := 2) rfl ?_
          refine w_c ?_
          refine r_I0 ?_
          refine w_bl ?_
          cases som hm
          exact k9 _ _ ⟨rfl, s59⟩
        ·
          replace hm := ifF h87 hm
          cases som hm
          exact k9 _ _ ⟨rfl, s59⟩
      rintro _ H85 ⟨rfl, s86⟩
      refine w_ite (fun h88 => ?_) (fun h88 => ?_)
      ·
        replace hm := ifT h88 hm
        refine w_seq [some (.ref a_law_pool_here), some (v_law_names), some (v_law_tables_here), some (.int x_law_many), some (.ref p1), some (.int (((1 : Int) + x6) % (4 : Int))), some (.int d29), some (.str x55), some (.str x56), o23, o22] rfl ?_
        refine w_set ?_
        refine w_op ?_
        refine w_c ?_
        refine w_op ?_
        refine w_cb ?_
        refine w_cons ?_
        refine w_var rfl ?_
        refine w_nil ?_
        refine r_intI ?_
        refine w_op ?_
        refine w_cb ?_
        refine w_cons ?_
        refine w_var rfl ?_
        refine w_nil ?_
        refine r_lenQ s86 (k := 2) rfl ?_
        refine w_c ?_
        refine r_I0 ?_
        obtain ⟨x89, h90, hm⟩ := bnd hm
        refine r_modI h90 ?_
        refine r_I0 ?_
        refine w_seq [some (.ref a_law_pool_here), some (v_law_names), some (v_law_tables_here), some (.int x_law_many), some (.ref p1), some (.int (((1 : Int) + x6) % (4 : Int))), some (.int d29), some (.str x55), some (.str x56), some (.int ((1 : Int) + x89)), o22] rfl ?_
        refine w_set ?_
        refine w_op ?_
        refine w_var rfl ?_
        refine w_var rfl ?_
        obtain ⟨x91, h92, hm⟩ := bnd hm
        refine r_ixLs s86 (k := 2) rfl h92 ?_
        refine w_set ?_
        refine w_op ?_
        refine w_var rfl ?_
        refine w_callG ?_
        refine w_cons ?_
        refine w_var rfl ?_
        refine w_cons ?_
        refine w_var rfl ?_
        refine w_nil ?_
        have s93 := s86.pick (E' := [ow a_law_pool_here (td y48)] ++ [ow p1 (td y18), en v_law_names (td x_law_names) b_law_names, en v_law_tables_here (td x_law_tables_here) b_law_tables_here]) [0, 1, 2, 3]
        obtain ⟨⟨x94, y95⟩, h96, hm⟩ := bnd hm
        refine ⟨_, _, _, _, _, _, _, rfl, s93.enter, h96, fun H97 s98 => ?_⟩
        have s99 : S _ _ [ow a_law_pool_here (td y95), ow p1 (td y18), en v_law_names (td x_law_names) b_law_names, en v_law_tables_here (td x_law_tables_here) b_law_tables_here] := s93.leave s98
        obtain ⟨x100, h101, hm⟩ := bnd hm
        refine r_ixLs s99 (k := 2) rfl h101 ?_
        cases som hm
        exact ⟨_, rfl, s99⟩
      ·
        replace hm := ifF h88 hm
        refine w_next ?_
        cases som hm
        exact ⟨_, rfl, s86⟩
    rintro _ H80 ⟨o78, rfl, s81⟩
    refine w_seq [some (.ref a_law_pool_here), some (v_law_names), some (v_law_tables_here), some (.int x_law_many), some (.ref p1), some (.int (((1 : Int) + x6) % (4 : Int))), some (.int d29), some (.str x76), some (.str x77), o78, o22] rfl ?_
    refine w_set ?_
    refine w_op ?_
    refine w_var rfl ?_
    refine w_callG ?_
    refine w_cons ?_
    refine w_var rfl ?_
    refine w_cons ?_
    refine w_cb ?_
    refine w_cons ?_
    refine w_var rfl ?_
    refine w_nil ?_
    refine r_lenQ s81 (k := 3) rfl ?_
    refine w_nil ?_
    have s102 := s81.pick (E' := [ow a_law_pool_here (td y75)] ++ [ow p1 (td y18), en v_law_names (td x_law_names) b_law_names, en v_law_tables_here (td x_law_tables_here) b_law_tables_here]) [0, 1, 2, 3]
    obtain ⟨⟨x103, y104⟩, h105, hm⟩ := bnd hm
    refine ⟨_, _, _, _, _, _, _, rfl, s102.enter, h105, fun H106 s107 => ?_⟩
    have s108 : S _ _ [ow a_law_pool_here (td y104), ow p1 (td y18), en v_law_names (td x_law_names) b_law_names, en v_law_tables_here (td x_law_tables_here) b_law_tables_here] := s102.leave s107
    obtain ⟨x109, h110, hm⟩ := bnd hm
    refine r_ixLs s108 (k := 3) rfl h110 ?_
    refine w_if ?_
    obtain ⟨⟨b111, y113⟩, h112, hm⟩ := bnd hm
    refine cutT (P := fun v H9 => v = b111 ∧ S (mk K A.ce Z L H [ow a_law_pool_here (td x_law_pool_here), en v_law_names (td x_law_names) b_law_names, en v_law_tables_here (td x_law_tables_here) b_law_tables_here]) H9 [ow a_law_pool_here (td y113), ow p1 (td y18), en v_law_names (td x_law_names) b_law_names, en v_law_tables_here (td x_law_tables_here) b_law_tables_here]) (fun Q9 k9 => ?_) ?_
    ·
      replace hm := h112
      refine w_or ?_
      refine w_test ?_
      refine w_op ?_
      refine w_var rfl ?_
      refine w_c ?_
      refine r_eqI ?_
      refine w_bl ?_
      refine w_ite (fun h116 => ?_) (fun h116 => ?_)
      ·
        replace hm := ifT h116 hm
        cases som hm
        exact k9 _ _ ⟨rfl, s108⟩
      ·
        replace hm := ifF h116 hm
        refine w_test ?_
        refine w_op ?_
        refine w_callG ?_
        refine w_cons ?_
        refine w_var rfl ?_
        refine w_cons ?_
        refine w_c ?_
        refine w_nil ?_
        have s117 := s108.pick (E' := [ow a_law_pool_here (td y104)] ++ [ow p1 (td y18), en v_law_names (td x_law_names) b_law_names, en v_law_tables_here (td x_law_tables_here) b_law_tables_here]) [0, 1, 2, 3]
        obtain ⟨⟨x118, y119⟩, h120, hm⟩ := bnd hm
        refine ⟨_, _, _, _, _, _, _, rfl, s117.enter, h120, fun H121 s122 => ?_⟩
        have s123 : S _ _ [ow a_law_pool_here (td y119), ow p1 (td y18), en v_law_names (td x_law_names) b_law_names, en v_law_tables_here (td x_law_tables_here) b_law_tables_here] := s117.leave s122
        refine w_c ?_
        refine r_eqI ?_
        refine w_bl ?_
        cases som hm
        exact k9 _ _ ⟨rfl, s123⟩
    rintro _ H114 ⟨rfl, s115⟩
    refine w_ite (fun h124 => ?_) (fun h124 => ?_)
    ·
      replace hm := ifT h124 hm
      refine w_drop ?_
      refine w_bm ?_
      refine w_var rfl ?_
      refine ⟨s115.tyL (k := 1) rfl, ?_⟩
      refine w_cons ?_
      refine w_tup ?_
      refine w_cons ?_
      refine w_var rfl ?_
      refine w_cons ?_
      refine w_var rfl ?_
      refine w_cons ?_
      refine w_var rfl ?_
      refine w_nil ?_
      refine r_tup s115 (.cons (.sc _) (.cons (.sc _) (.cons (.sc _) .nil))) (q := fun p125 H126 s127 => ?_)
      have s128 : S _ _ [fz (.ref p125) (td (⟨x109, x76, x77⟩ : T3 Str Str Str)), ow a_law_pool_here (td y113), ow p1 (td y18), en v_law_names (td x_law_names) b_law_names, en v_law_tables_here (td x_law_tables_here) b_law_tables_here] := s127
      refine w_nil ?_
      obtain ⟨y129, h130, hm⟩ := bnd hm
      refine r_appL s128 (k := 2) (x := (⟨x109, x76, x77⟩ : T3 Str Str Str)) rfl (s128.fz (k := 0) rfl) h130 fun H131 s132 => ?_
      have s133 : S _ _ [ow a_law_pool_here (td y113), ow p1 (td y129), en v_law_names (td x_law_names) b_law_names, en v_law_tables_here (td x_law_tables_here) b_law_tables_here] := s132.pick [1, 2, 3, 4]
      cases som hm
      exact ⟨_, _, _, _, _, _, _, rfl, s133, h34⟩
    ·
      replace hm := ifF h124 hm
      refine w_drop ?_
      refine w_bm ?_
      refine w_var rfl ?_
      refine ⟨s115.tyL (k := 1) rfl, ?_⟩
      refine w_cons ?_
      refine w_tup ?_
      refine w_cons ?_
      refine w_var rfl ?_
      refine w_cons ?_
      refine w_var rfl ?_
      refine w_cons ?_
      refine w_var rfl ?_
      refine w_nil ?_
      refine r_tup s115 (.cons (.sc _) (.cons (.sc _) (.cons (.sc _) .nil))) (q := fun p134 H135 s136 => ?_)
      have s137 : S _ _ [fz (.ref p134) (td (⟨x109, x77, x76⟩ : T3 Str Str Str)), ow a_law_pool_here (td y113), ow p1 (td y18), en v_law_names (td x_law_names) b_law_names, en v_law_tables_here (td x_law_tables_here) b_law_tables_here] := s136
      refine w_nil ?_
      obtain ⟨y138, h139, hm⟩ := bnd hm
      refine r_appL s137 (k := 2) (x := (⟨x109, x77, x76⟩ : T3 Str Str Str)) rfl (s137.fz (k := 0) rfl) h139 fun H140 s141 => ?_
      have s142 : S _ _ [ow a_law_pool_here (td y113), ow p1 (td y138), en v_law_names (td x_law_names) b_law_names, en v_law_tables_here (td x_law_tables_here) b_law_tables_here] := s141.pick [1, 2, 3, 4]
      cases som hm
      exact ⟨_, _, _, _, _, _, _, rfl, s142, h34⟩
  ·
    rintro _ H25 ⟨y17, y18, o19, o20, o21, o22, o23, rfl, s26, h28⟩
    have e9 := som h28; subst e9
    refine w_ret ?_
    refine w_var rfl ?_
    have s143 : S _ _ [fz (.ref p1) (td y18), ow a_law_pool_here (td y17), en v_law_names (td x_law_names) b_law_names, en v_law_tables_here (td x_law_tables_here) b_law_tables_here] := (s26.pick (E' := [ow p1 (td y18), ow a_law_pool_here (td y17), en v_law_names (td x_law_names) b_law_names, en v_law_tables_here (td x_law_tables_here) b_law_tables_here]) [1, 0, 2, 3]).freeze rfl
    cases som hm
    exact kQ _ _ s143
def sp_law_met (K : PySem.W.Frag) (ce : Str → Addr) : Sp := fun vs H Q _ => ∃ (Z : Addr → Prop) (L : Lk) (v_law_ties_here : V) (x_law_ties_here : List (T3 Str Str Str)) (b_law_ties_here : Bool) (r : List Str), vs = [v_law_ties_here] ∧ S (mk K ce Z L H [en v_law_ties_here (td x_law_ties_here) b_law_ties_here]) H [en v_law_ties_here (td x_law_ties_here) b_law_ties_here] ∧ m_law_met x_law_ties_here = some r ∧ ∀ H' w, S (mk K ce Z L H [en v_law_ties_here (td x_law_ties_here) b_law_ties_here]) H' (fz w (td r) :: [en v_law_ties_here (td x_law_ties_here) b_law_ties_here]) → Q w H'
theorem ok_law_met {P : Program} {w : World} {K : PySem.W.Frag} {mg : Str → Option Value} {base : Heap} {A : Ad} (T : Txt P K mg A) : FnB P w K mg base 1 A.f__law_met A.d__law_met ["_law_ties_here"] (sp_law_met K A.ce) := by
  have SC := sc_law_met
  refine Fun.okG0 T.F__law_met sc_law_met (fun vs H Q E h => ?_) (fun cdv Ar outer s9 H vs Q E hr h => ?_)
  · obtain ⟨_, _, _, _, _, _, rfl, _⟩ := h; rfl
  obtain ⟨Z, L, v_law_ties_here, x_law_ties_here, b_law_ties_here, r, rfl, s0, hm, kQ⟩ := h
  refine ⟨_, (pss_cons (ps_set (i := 1) SC.nd rfl (by first | exact Or.inl rfl | exact Or.inr rfl) (pe_lst pa_nil))
    (pss_cons (ps_for PassesOwn.never rfl (pi_list (pv 0)) (pg_name (i := 2) SC.nd rfl (by first | exact Or.inl rfl | exact Or.inr rfl)) (pss_one (ps_for PassesOwn.never rfl (pi_tup (pe_tup (pa_cons (pe_ix ix_tup (pv 2) pe_int (fun _ _ => rfl)) (pa_cons (pe_ix ix_tup (pv 2) pe_int (fun _ _ => rfl)) pa_nil)))) (pg_name (i := 3) SC.nd rfl (by first | exact Or.inl rfl | exact Or.inr rfl)) (pss_one (ps_if (pt_cmpR (op_notInA (α := Str) hr (by decide)) (pv 3) (pv 1) (by rfl)) (pss_one (ps_expr (pe_bm PySem.F.plainAttrs_list PySem.F.slot_list_append PySem.F.type_list_append mt_append (pv 1) (pa_cons (pv 3) pa_nil)))) pss_nil)))))
    (pss_one (ps_ret (pv 1))))), ?_⟩
  refine w_seq [some (v_law_ties_here), none, none, none] rfl ?_
  refine w_set ?_
  refine w_lst ?_
  refine w_nil ?_
  refine r_lstO s0 (.nil) (q := fun p1 H2 s3 => ?_)
  have s4 : S _ _ [ow p1 (td ([] : List Str)), en v_law_ties_here (td x_law_ties_here) b_law_ties_here] := s3
  refine w_seq [some (v_law_ties_here), some (.ref p1), none, none] rfl ?_
  refine w_forL ?_
  refine w_var rfl ?_
  refine l_lst s4 (k := 1) rfl fun J hJ => ?_
  obtain ⟨r5, h6, hm⟩ := bnd hm
  refine forB (c := (mk K A.ce Z L H [en v_law_ties_here (td x_law_ties_here) b_law_ties_here])) x_law_ties_here (w := .lst v_law_ties_here) hJ (fun l14 σ11 H12 => ∃ (y8 : List Str) (o9 : Option V) (o10 : Option V), σ11 = [some (v_law_ties_here), some (.ref p1), o9, o10] ∧ S (mk K A.ce Z L H [en v_law_ties_here (td x_law_ties_here) b_law_ties_here]) H12 [ow p1 (td y8), en v_law_ties_here (td x_law_ties_here) b_law_ties_here] ∧ foldO l14 y8 m_law_met_L1 = some r5) ?_ ?_ ?_ ?_
  ·
    exact ⟨_, _, _, rfl, s4, h6⟩
  ·
    rintro _ _ _ ⟨y8, o9, o10, rfl, s13, h15⟩; exact ⟨_, 1, _, s13, rfl⟩
  ·
    rintro d16 l14 w17 _ H12 ⟨y8, o9, o10, rfl, s13, h15⟩ g18
    obtain ⟨q19, h20, h21⟩ := fold_cons h15
    have h7 := hm
    replace hm := h20
    have s24 := s13.add (g18 _ 1 _ s13 rfl)
    refine w_name ?_
    refine w_forT ?_
    refine w_tup ?_
    refine w_cons ?_
    refine w_op ?_
    refine w_var rfl ?_
    refine w_c ?_
    refine r_ixTdv s24 (k := 0) rfl rfl ?_
    refine w_cons ?_
    refine w_op ?_
    refine w_var rfl ?_
    refine w_c ?_
    refine r_ixTdv s24 (k := 0) rfl rfl ?_
    refine w_nil ?_
    refine r_tup s24 (.cons (.sc _) (.cons (.sc _) .nil)) (q := fun p25 H26 s27 => ?_)
    have s28 : S _ _ [fz (.ref p25) (td (d16.b, d16.c)), fz w17 (td d16), ow p1 (td y8), en v_law_ties_here (td x_law_ties_here) b_law_ties_here] := s27
    refine l_tup s28 (k := 0) (ds := List.map td [d16.b, d16.c]) rfl fun J hJ => ?_
    obtain ⟨r29, h30, hm⟩ := bnd hm
    refine forB (c := (mk K A.ce Z L H [en v_law_ties_here (td x_law_ties_here) b_law_ties_here])) ([d16.b, d16.c]) (w := .tup (.ref p25)) hJ (fun l37 σ34 H35 => ∃ (y32 : List Str) (o33 : Option V), σ34 = [some (v_law_ties_here), some (.ref p1), some (w17), o33] ∧ S (mk K A.ce Z L H [en v_law_ties_here (td x_law_ties_here) b_law_ties_here]) H35 [fz (.ref p25) (td (d16.b, d16.c)), fz w17 (td d16), ow p1 (td y32), en v_law_ties_here (td x_law_ties_here) b_law_ties_here] ∧ foldO l37 y32 m_law_met_L2 = some r29) ?_ ?_ ?_ ?_
    ·
      exact ⟨_, _, rfl, s28, h30⟩
    ·
      rintro _ _ _ ⟨y32, o33, rfl, s36, h38⟩; exact ⟨_, 0, _, s36, rfl⟩
    ·
      rintro d39 l37 w40 _ H35 ⟨y32, o33, rfl, s36, h38⟩ g41
      obtain ⟨q42, h43, h44⟩ := fold_cons h38
      have h31 := hm
      replace hm := h43
      obtain rfl : w40 = V.str d39 := (g41 _ 0 _ s36 rfl).ofSc
      refine w_name ?_
      refine w_if ?_
      refine w_test ?_
      refine w_op ?_
      refine w_var rfl ?_
      refine w_var rfl ?_
      refine r_notInS' s36 (j := 2) rfl ?_
      refine w_bl ?_
      refine w_ite (fun h47 => ?_) (fun h47 => ?_)
      ·
        replace hm := ifT h47 hm
        refine w_drop ?_
        refine w_bm ?_
        refine w_var rfl ?_
        refine ⟨s36.tyL (k := 2) rfl, ?_⟩
        refine w_cons ?_
        refine w_var rfl ?_
        refine w_nil ?_
        obtain ⟨y48, h49, hm⟩ := bnd hm
        refine r_appL s36 (k := 2) (x := d39) rfl (.sc _) h49 fun H50 s51 => ?_
        cases som hm
        exact ⟨_, _, rfl, s51, h44⟩
      ·
        replace hm := ifF h47 hm
        refine w_next ?_
        cases som hm
        exact ⟨_, _, rfl, s36, h44⟩
    ·
      rintro _ H35 ⟨y32, o33, rfl, s36, h38⟩
      have e9 := som h38; subst e9
      have s52 : S _ _ [ow p1 (td y32), en v_law_ties_here (td x_law_ties_here) b_law_ties_here] := s36.pick [2, 3]
      cases som hm
      exact ⟨_, _, _, rfl, s52, h21⟩
  ·
    rintro _ H12 ⟨y8, o9, o10, rfl, s13, h15⟩
    have e9 := som h15; subst e9
    refine w_ret ?_
    refine w_var rfl ?_
    have s53 : S _ _ [fz (.ref p1) (td y8), en v_law_ties_here (td x_law_ties_here) b_law_ties_here] := (s13.pick (E' := [ow p1 (td y8), en v_law_ties_here (td x_law_ties_here) b_law_ties_here]) [0, 1]).freeze rfl
    cases som hm
    exact kQ _ _ s53
def sp_law_head (K : PySem.W.Frag) (ce : Str → Addr) : Sp := fun vs H Q _ => ∃ (Z : Addr → Prop) (L : Lk) (a_law_pool_here : Addr) (x_law_pool_here : List Int) (v_law_ties_here : V) (x_law_ties_here : List (T3 Str Str Str)) (b_law_ties_here : Bool) (r : List Str) (y_law_pool_here : List Int), vs = [.ref a_law_pool_here, v_law_ties_here] ∧ S (mk K ce Z L H [ow a_law_pool_here (td x_law_pool_here), en v_law_ties_here (td x_law_ties_here) b_law_ties_here]) H [ow a_law_pool_here (td x_law_pool_here), en v_law_ties_here (td x_law_ties_here) b_law_ties_here] ∧ m_law_head x_law_pool_here x_law_ties_here = some (r, y_law_pool_here) ∧ ∀ H' w, S (mk K ce Z L H [ow a_law_pool_here (td x_law_pool_here), en v_law_ties_here (td x_law_ties_here) b_law_ties_here]) H' (fz w (td r) :: [ow a_law_pool_here (td y_law_pool_here), en v_law_ties_here (td x_law_ties_here) b_law_ties_here]) → Q w H'
theorem ok_law_head {P : Program} {w : World} {K : PySem.W.Frag} {mg : Str → Option Value} {base : Heap} {A : Ad} (T : Txt P K mg A) : FnB P w K mg base 2 A.f__law_head A.d__law_head ["_law_pool_here", "_law_ties_here"] (sp_law_head K A.ce) := by
  have SC := sc_law_head
  refine Fun.okG0 T.F__law_head sc_law_head (fun vs H Q E h => ?_) (fun cdv Ar outer s9 H vs Q E hr h => ?_)
  · obtain ⟨_, _, _, _, _, _, _, _, _, rfl, _⟩ := h; rfl
  obtain ⟨Z, L, a_law_pool_here, x_law_pool_here, v_law_ties_here, x_law_ties_here, b_law_ties_here, r, y_law_pool_here, rfl, s0, hm, kQ⟩ := h
  refine ⟨_, (pss_cons (ps_set (i := 2) SC.nd rfl (by first | exact Or.inl rfl | exact Or.inr rfl) (pe_callG ((ok_law_met T).raw0 T.b__law_met) (hr.mono (by decide)) takes0 rfl T.g__law_met T.k__law_met (pa_cons (pv 1) pa_nil)))
    (pss_cons (ps_set (i := 3) SC.nd rfl (by first | exact Or.inl rfl | exact Or.inr rfl) (pe_lst pa_nil))
    (Evl.pss_cut (ps_if (PW.pt (pw_and (pt_cmpR (op_neA (α := List Str) hr (by decide)) (pv 2) (pe_lst pa_nil) (nomark _)) (pw_and1 (pt_cmpR op_eq (pe_callG ((ok_law_take T).raw0 T.b__law_take) (hr.mono (by decide)) takes0 rfl T.g__law_take T.k__law_take (pa_cons (pv 0) (pa_cons pe_int pa_nil))) pe_int (nomark _))))) (pss_one (ps_for PassesOwn.never rfl (pi_range1 rfl T.n_range (pa_cons (pe_callG ((ok_law_take T).raw0 T.b__law_take) (hr.mono (by decide)) takes0 rfl T.g__law_take T.k__law_take (pa_cons (pv 0) (pa_cons pe_int pa_nil))) pa_nil)) (pg_name (i := 4) SC.nd rfl (by first | exact Or.inl rfl | exact Or.inr rfl)) (pss_one (ps_expr (pe_bm PySem.F.plainAttrs_list PySem.F.slot_list_append PySem.F.type_list_append mt_append (pv 3) (pa_cons (pe_ix ix_list (pv 2) (pe_callG ((ok_law_take T).raw0 T.b__law_take) (hr.mono (by decide)) takes0 rfl T.g__law_take T.k__law_take (pa_cons (pv 0) (pa_cons (pe_callB call_lenQ (by rfl) T.n_len PySem.boot_len (pa_cons (pv 2) pa_nil)) pa_nil))) (fun _ _ => rfl)) pa_nil)))))) pss_nil)
    (pss_one (ps_ret (pv 3)))))), ?_⟩
  refine w_seq [some (.ref a_law_pool_here), some (v_law_ties_here), none, none, none] rfl ?_
  refine w_set ?_
  refine w_callG ?_
  refine w_cons ?_
  refine w_var rfl ?_
  refine w_nil ?_
  have s1 := s0.pick (E' := [en v_law_ties_here (td x_law_ties_here) b_law_ties_here] ++ [ow a_law_pool_here (td x_law_pool_here)]) [1, 0]
  obtain ⟨x2, h3, hm⟩ := bnd hm
  refine ⟨_, _, _, _, _, _, rfl, s1.enter, h3, fun H4 v7 s5 => ?_⟩
  have s6 : S _ _ [fz v7 (td x2), en v_law_ties_here (td x_law_ties_here) b_law_ties_here, ow a_law_pool_here (td x_law_pool_here)] := s1.leave s5
  refine w_seq [some (.ref a_law_pool_here), some (v_law_ties_here), some (v7), none, none] rfl ?_
  refine w_set ?_
  refine w_lst ?_
  refine w_nil ?_
  refine r_lstO s6 (.nil) (q := fun p8 H9 s10 => ?_)
  have s11 : S _ _ [ow p8 (td ([] : List Str)), fz v7 (td x2), en v_law_ties_here (td x_law_ties_here) b_law_ties_here, ow a_law_pool_here (td x_law_pool_here)] := s10
  obtain ⟨⟨y12, y13⟩, h15, hm⟩ := bnd hm
  refine w_cut [some (.ref a_law_pool_here), some (v_law_ties_here), some (v7), some (.ref p8), none] rfl (fun σ18 H16 => ∃ (o14 : Option V), σ18 = [some (.ref a_law_pool_here), some (v_law_ties_here), some (v7), some (.ref p8), o14] ∧ S (mk K A.ce Z L H [ow a_law_pool_here (td x_law_pool_here), en v_law_ties_here (td x_law_ties_here) b_law_ties_here]) H16 [ow p8 (td y13), fz v7 (td x2), en v_law_ties_here (td x_law_ties_here) b_law_ties_here, ow a_law_pool_here (td y12)]) ?_ ?_
  ·
    replace hm := h15
    refine w_if ?_
    obtain ⟨⟨b19, y21⟩, h20, hm⟩ := bnd hm
    refine cutT (P := fun v H9 => v = b19 ∧ S (mk K A.ce Z L H [ow a_law_pool_here (td x_law_pool_here), en v_law_ties_here (td x_law_ties_here) b_law_ties_here]) H9 [ow p8 (td ([] : List Str)), fz v7 (td x2), en v_law_ties_here (td x_law_ties_here) b_law_ties_here, ow a_law_pool_here (td y21)]) (fun Q9 k9 => ?_) ?_
    ·
      replace hm := h20
      refine w_and ?_
      refine w_test ?_
      refine w_op ?_
      refine w_var rfl ?_
      refine w_lst ?_
      refine w_nil ?_
      refine r_lst s11 (.nil) (q := fun p24 H25 s26 => ?_)
      have s27 : S _ _ [fz (.ref p24) (td ([] : List Str)), ow p8 (td ([] : List Str)), fz v7 (td x2), en v_law_ties_here (td x_law_ties_here) b_law_ties_here, ow a_law_pool_here (td x_law_pool_here)] := s26
      refine r_neA s27 (i := 2) (j := 0) rfl rfl ?_
      refine w_bl ?_
      refine w_ite (fun h28 => ?_) (fun h28 => ?_)
      ·
        replace hm := ifT h28 hm
        refine w_test ?_
        refine w_op ?_
        refine w_callG ?_
        refine w_cons ?_
        refine w_var rfl ?_
        refine w_cons ?_
        refine w_c ?_
        refine w_nil ?_
        have s29 := s27.pick (E' := [ow a_law_pool_here (td x_law_pool_here)] ++ [fz (.ref p24) (td ([] : List Str)), ow p8 (td ([] : List Str)), fz v7 (td x2), en v_law_ties_here (td x_law_ties_here) b_law_ties_here]) [4, 0, 1, 2, 3]
        obtain ⟨⟨x30, y31⟩, h32, hm⟩ := bnd hm
        refine ⟨_, _, _, _, _, _, _, rfl, s29.enter, h32, fun H33 s34 => ?_⟩
        have s35 : S _ _ [ow a_law_pool_here (td y31), fz (.ref p24) (td ([] : List Str)), ow p8 (td ([] : List Str)), fz v7 (td x2), en v_law_ties_here (td x_law_ties_here) b_law_ties_here] := s29.leave s34
        refine w_c ?_
        refine r_eqI ?_
        refine w_bl ?_
        have s36 : S _ _ [ow p8 (td ([] : List Str)), fz v7 (td x2), en v_law_ties_here (td x_law_ties_here) b_law_ties_here, ow a_law_pool_here (td y31)] := s35.pick [2, 3, 4, 0]
        cases som hm
        exact k9 _ _ ⟨rfl, s36⟩
      ·
        replace hm := ifF h28 hm
        have s37 : S _ _ [ow p8 (td ([] : List Str)), fz v7 (td x2), en v_law_ties_here (td x_law_ties_here) b_law_ties_here, ow a_law_pool_here (td x_law_pool_here)] := s27.pick [1, 2, 3, 4]
        cases som hm
        exact k9 _ _ ⟨rfl, s37⟩
    rintro _ H22 ⟨rfl, s23⟩
    refine w_ite (fun h38 => ?_) (fun h38 => ?_)
    ·
      replace hm := ifT h38 hm
      refine w_forR ?_
      refine w_cons ?_
      refine w_callG ?_
      refine w_cons ?_
      refine w_var rfl ?_
      refine w_cons ?_
      refine w_c ?_
      refine w_nil ?_
      have s39 := s23.pick (E' := [ow a_law_pool_here (td y21)] ++ [ow p8 (td ([] : List Str)), fz v7 (td x2), en v_law_ties_here (td x_law_ties_here) b_law_ties_here]) [3, 0, 1, 2]
      obtain ⟨⟨x40, y41⟩, h42, hm⟩ := bnd hm
      refine ⟨_, _, _, _, _, _, _, rfl, s39.enter, h42, fun H43 s44 => ?_⟩
      have s45 : S _ _ [ow a_law_pool_here (td y41), ow p8 (td ([] : List Str)), fz v7 (td x2), en v_law_ties_here (td x_law_ties_here) b_law_ties_here] := s39.leave s44
      refine w_nil ?_
      obtain ⟨x47, h46, hm⟩ := bnd hm
      refine r_rng h46 ?_
      obtain ⟨r48, h49, hm⟩ := bnd hm
      refine forB (c := (mk K A.ce Z L H [ow a_law_pool_here (td x_law_pool_here), en v_law_ties_here (td x_law_ties_here) b_law_ties_here])) x47 (w := .rng 0 x40) rfl (fun l57 σ54 H55 => ∃ (y51 : List Int) (y52 : List Str) (o53 : Option V), σ54 = [some (.ref a_law_pool_here), some (v_law_ties_here), some (v7), some (.ref p8), o53] ∧ S (mk K A.ce Z L H [ow a_law_pool_here (td x_law_pool_here), en v_law_ties_here (td x_law_ties_here) b_law_ties_here]) H55 [ow a_law_pool_here (td y51), ow p8 (td y52), fz v7 (td x2), en v_law_ties_here (td x_law_ties_here) b_law_ties_here] ∧ foldO l57 (y51, y52) (m_law_head_L1 x2) = some r48) ?_ ?_ ?_ ?_
      ·
        exact ⟨_, _, _, rfl, s45, h49⟩
      ·
        rintro _ _ _ ⟨y51, y52, o53, rfl, s56, h58⟩; exact rng_at h46
      ·
        rintro d59 l57 w60 _ H55 ⟨y51, y52, o53, rfl, s56, h58⟩ g61
        obtain ⟨q62, h63, h64⟩ := fold_cons h58
        have h50 := hm
        replace hm := h63
        obtain rfl : V.int d59 = w60 := gv_sc g61
        refine w_name ?_
        refine w_drop ?_
        refine w_bm ?_
        refine w_var rfl ?_
        refine ⟨s56.tyL (k := 1) rfl, ?_⟩
        refine w_cons ?_
        refine w_op ?_
        refine w_var rfl ?_
        refine w_callG ?_
        refine w_cons ?_
        refine w_var rfl ?_
        refine w_cons ?_
        refine w_cb ?_
        refine w_cons ?_
        refine w_var rfl ?_
        refine w_nil ?_
        refine r_lenQ s56 (k := 2) rfl ?_
        refine w_nil ?_
        have s67 := s56.pick (E' := [ow a_law_pool_here (td y51)] ++ [ow p8 (td y52), fz v7 (td x2), en v_law_ties_here (td x_law_ties_here) b_law_ties_here]) [0, 1, 2, 3]
        obtain ⟨⟨x68, y69⟩, h70, hm⟩ := bnd hm
        refine ⟨_, _, _, _, _, _, _, rfl, s67.enter, h70, fun H71 s72 => ?_⟩
        have s73 : S _ _ [ow a_law_pool_here (td y69), ow p8 (td y52), fz v7 (td x2), en v_law_ties_here (td x_law_ties_here) b_law_ties_here] := s67.leave s72
        obtain ⟨x74, h75, hm⟩ := bnd hm
        refine r_ixLs s73 (k := 2) rfl h75 ?_
        refine w_nil ?_
        obtain ⟨y76, h77, hm⟩ := bnd hm
        refine r_appL s73 (k := 1) (x := x74) rfl (.sc _) h77 fun H78 s79 => ?_
        cases som hm
        exact ⟨_, _, _, rfl, s79, h64⟩
      ·
        rintro _ H55 ⟨y51, y52, o53, rfl, s56, h58⟩
        have e9 := som h58; subst e9
        have s80 : S _ _ [ow p8 (td y52), fz v7 (td x2), en v_law_ties_here (td x_law_ties_here) b_law_ties_here, ow a_law_pool_here (td y51)] := s56.pick [1, 2, 3, 0]
        cases som hm
        exact ⟨_, rfl, s80⟩
    ·
      replace hm := ifF h38 hm
      refine w_next ?_
      cases som hm
      exact ⟨_, rfl, s23⟩
  rintro _ H16 ⟨o14, rfl, s17⟩
  refine w_ret ?_
  refine w_var rfl ?_
  have s81 : S _ _ [fz (.ref p8) (td y13), fz v7 (td x2), en v_law_ties_here (td x_law_ties_here) b_law_ties_here, ow a_law_pool_here (td y12)] := (s17.pick (E' := [ow p8 (td y13), fz v7 (td x2), en v_law_ties_here (td x_law_ties_here) b_law_ties_here, ow a_law_pool_here (td y12)]) [0, 1, 2, 3]).freeze rfl
  have s82 : S _ _ [fz (.ref p8) (td y13), ow a_law_pool_here (td y12), en v_law_ties_here (td x_law_ties_here) b_law_ties_here] := s81.pick [0, 3, 2]
  cases som hm
  exact kQ _ _ s82
def sp_law_question (K : PySem.W.Frag) (ce : Str → Addr) : Sp := fun vs H Q _ => ∃ (Z : Addr → Prop) (L : Lk) (a_law_pool_here : Addr) (x_law_pool_here : List Int) (x_law_most : Int) (r : L2' (List (T3 Str Str Str)) (List Str)) (y_law_pool_here : List Int), vs = [.ref a_law_pool_here, .int x_law_most] ∧ S (mk K ce Z L H [ow a_law_pool_here (td x_law_pool_here)]) H [ow a_law_pool_here (td x_law_pool_here)] ∧ m_law_question x_law_pool_here x_law_most = some (r, y_law_pool_here) ∧ ∀ H' w, S (mk K ce Z L H [ow a_law_pool_here (td x_law_pool_here)]) H' (fz w (td r) :: [ow a_law_pool_here (td y_law_pool_here)]) → Q w H'
theorem ok_law_question {P : Program} {w : World} {K : PySem.W.Frag} {mg : Str → Option Value} {base : Heap} {A : Ad} (T : Txt P K mg A) : FnB P w K mg base 4 A.f__law_question A.d__law_question ["_law_pool_here", "_law_most"] (sp_law_question K A.ce) := by
  have SC := sc_law_question
  refine Fun.okG0 T.F__law_question sc_law_question (fun vs H Q E h => ?_) (fun cdv Ar outer s9 H vs Q E hr h => ?_)
  · obtain ⟨_, _, _, _, _, _, _, rfl, _⟩ := h; rfl
  obtain ⟨Z, L, a_law_pool_here, x_law_pool_here, x_law_most, r, y_law_pool_here, rfl, s0, hm, kQ⟩ := h
  refine ⟨_, (pss_cons (ps_set (i := 2) SC.nd rfl (by first | exact Or.inl rfl | exact Or.inr rfl) (pe_callG ((ok_law_words T).raw0 T.b__law_words) (hr.mono (by decide)) takes0 rfl T.g__law_words T.k__law_words (pa_cons (pv 0) (pa_cons (pe_op op_add pe_int (pe_op op_mod (pe_callTy call_int1' (by rfl) T.n_int (by decide +kernel) (pa_cons (pe_op op_add pe_int (pe_callG ((ok_law_take T).raw0 T.b__law_take) (hr.mono (by decide)) takes0 rfl T.g__law_take T.k__law_take (pa_cons (pv 0) (pa_cons (pv 1) pa_nil)))) pa_nil)) (pv 1))) pa_nil))))
    (pss_cons (ps_set (i := 3) SC.nd rfl (by first | exact Or.inl rfl | exact Or.inr rfl) (pe_callG ((ok_law_tables T).raw0 T.b__law_tables) (hr.mono (by decide)) takes0 rfl T.g__law_tables T.k__law_tables (pa_cons (pv 0) (pa_cons (pe_op op_add pe_int (pe_callG ((ok_law_take T).raw0 T.b__law_take) (hr.mono (by decide)) takes0 rfl T.g__law_take T.k__law_take (pa_cons (pv 0) (pa_cons pe_int pa_nil)))) pa_nil))))
    (pss_cons (ps_set (i := 4) SC.nd rfl (by first | exact Or.inl rfl | exact Or.inr rfl) (pe_op op_mod (pe_callTy call_int1' (by rfl) T.n_int (by decide +kernel) (pa_cons (pe_op op_add pe_int (pe_callG ((ok_law_take T).raw0 T.b__law_take) (hr.mono (by decide)) takes0 rfl T.g__law_take T.k__law_take (pa_cons (pv 0) (pa_cons pe_int pa_nil)))) pa_nil)) pe_int))
    (Evl.pss_cut (ps_if (pt_cmpR op_eq (pe_callG ((ok_law_take T).raw0 T.b__law_take) (hr.mono (by decide)) takes0 rfl T.g__law_take T.k__law_take (pa_cons (pv 0) (pa_cons pe_int pa_nil))) pe_int (nomark _)) (pss_one (ps_set (i := 4) SC.nd rfl (by first | exact Or.inl rfl | exact Or.inr rfl) (pe_callG ((ok_law_take T).raw0 T.b__law_take) (hr.mono (by decide)) takes0 rfl T.g__law_take T.k__law_take (pa_cons (pv 0) (pa_cons pe_int pa_nil))))) pss_nil)
    (pss_cons (ps_set (i := 5) SC.nd rfl (by first | exact Or.inl rfl | exact Or.inr rfl) (pe_callG ((ok_law_ties T).raw0 T.b__law_ties) (hr.mono (by decide)) takes0 rfl T.g__law_ties T.k__law_ties (pa_cons (pv 0) (pa_cons (pv 2) (pa_cons (pv 3) (pa_cons (pv 4) pa_nil))))))
    (pss_one (ps_ret (pe_lst (pa_cons (pv 5) (pa_cons (pe_callG ((ok_law_head T).raw0 T.b__law_head) (hr.mono (by decide)) takes0 rfl T.g__law_head T.k__law_head (pa_cons (pv 0) (pa_cons (pv 5) pa_nil))) pa_nil)))))))))), ?_⟩
  refine w_seq [some (.ref a_law_pool_here), some (.int x_law_most), none, none, none, none] rfl ?_
  refine w_set ?_
  refine w_callG ?_
  refine w_cons ?_
  refine w_var rfl ?_
  refine w_cons ?_
  refine w_op ?_
  refine w_c ?_
  refine w_op ?_
  refine w_cb ?_
  refine w_cons ?_
  refine w_op ?_
  refine w_c ?_
  refine w_callG ?_
  refine w_cons ?_
  refine w_var rfl ?_
  refine w_cons ?_
  refine w_var rfl ?_
  refine w_nil ?_
  have s1 := s0.pick (E' := [ow a_law_pool_here (td x_law_pool_here)] ++ []) [0]
  obtain ⟨⟨x2, y3⟩, h4, hm⟩ := bnd hm
  refine ⟨_, _, _, _, _, _, _, rfl, s1.enter, h4, fun H5 s6 => ?_⟩
  have s7 : S _ _ [ow a_law_pool_here (td y3)] := s1.leave s6
  refine r_I0 ?_
  refine w_nil ?_
  refine r_intI ?_
  refine w_var rfl ?_
  obtain ⟨x8, h9, hm⟩ := bnd hm
  refine r_modI h9 ?_
  refine r_I0 ?_
  refine w_nil ?_
  have s10 := s7.pick (E' := [ow a_law_pool_here (td y3)] ++ []) [0]
  obtain ⟨⟨x11, y12⟩, h13, hm⟩ := bnd hm
  refine ⟨_, _, _, _, _, _, _, rfl, s10.enter, h13, fun H14 v17 s15 => ?_⟩
  have s16 : S _ _ [fz v17 (td x11), ow a_law_pool_here (td y12)] := s10.leave s15
  refine w_seq [some (.ref a_law_pool_here), some (.int x_law_most), some (v17), none, none, none] rfl ?_
  refine w_set ?_
  refine w_callG ?_
  refine w_cons ?_
  refine w_var rfl ?_
  refine w_cons ?_
  refine w_op ?_
  refine w_c ?_
  refine w_callG ?_
  refine w_cons ?_
  refine w_var rfl ?_
  refine w_cons ?_
  refine w_c ?_
  refine w_nil ?_
  have s18 := s16.pick (E' := [ow a_law_pool_here (td y12)] ++ [fz v17 (td x11)]) [1, 0]
  obtain ⟨⟨x19, y20⟩, h21, hm⟩ := bnd hm
  refine ⟨_, _, _, _, _, _, _, rfl, s18.enter, h21, fun H22 s23 => ?_⟩
  have s24 : S _ _ [ow a_law_pool_here (td y20), fz v17 (td x11)] := s18.leave s23
  refine r_I0 ?_
  refine w_nil ?_
  have s25 := s24.pick (E' := [ow a_law_pool_here (td y20)] ++ [fz v17 (td x11)]) [0, 1]
  obtain ⟨⟨x26, y27⟩, h28, hm⟩ := bnd hm
  refine ⟨_, _, _, _, _, _, _, rfl, s25.enter, h28, fun H29 v32 s30 => ?_⟩
  have s31 : S _ _ [fz v32 (td x26), ow a_law_pool_here (td y27), fz v17 (td x11)] := s25.leave s30
  refine w_seq [some (.ref a_law_pool_here), some (.int x_law_most), some (v17), some (v32), none, none] rfl ?_
  refine w_set ?_
  refine w_op ?_
  refine w_cb ?_
  refine w_cons ?_
  refine w_op ?_
  refine w_c ?_
  refine w_callG ?_
  refine w_cons ?_
  refine w_var rfl ?_
  refine w_cons ?_
  refine w_c ?_
  refine w_nil ?_
  have s33 := s31.pick (E' := [ow a_law_pool_here (td y27)] ++ [fz v32 (td x26), fz v17 (td x11)]) [1, 0, 2]
  obtain ⟨⟨x34, y35⟩, h36, hm⟩ := bnd hm
  refine ⟨_, _, _, _, _, _, _, rfl, s33.enter, h36, fun H37 s38 => ?_⟩
  have s39 : S _ _ [ow a_law_pool_here (td y35), fz v32 (td x26), fz v17 (td x11)] := s33.leave s38
  refine r_I0 ?_
  refine w_nil ?_
  refine r_intI ?_
  refine w_c ?_
  refine r_I (show (0 : Int) < 8 by decide) ?_
  obtain ⟨⟨y40, x41⟩, h42, hm⟩ := bnd hm
  refine w_cut [some (.ref a_law_pool_here), some (.int x_law_most), some (v17), some (v32), some (.int (((3 : Int) + x34) % (8 : Int))), none] rfl (fun σ45 H43 => σ45 = [some (.ref a_law_pool_here), some (.int x_law_most), some (v17), some (v32), some (.int x41), none] ∧ S (mk K A.ce Z L H [ow a_law_pool_here (td x_law_pool_here)]) H43 [ow a_law_pool_here (td y40), fz v32 (td x26), fz v17 (td x11)]) ?_ ?_
  ·
    replace hm := h42
    refine w_if ?_
    refine w_test ?_
    refine w_op ?_
    refine w_callG ?_
    refine w_cons ?_
    refine w_var rfl ?_
    refine w_cons ?_
    refine w_c ?_
    refine w_nil ?_
    have s46 := s39.pick (E' := [ow a_law_pool_here (td y35)] ++ [fz v32 (td x26), fz v17 (td x11)]) [0, 1, 2]
    obtain ⟨⟨x47, y48⟩, h49, hm⟩ := bnd hm
    refine ⟨_, _, _, _, _, _, _, rfl, s46.enter, h49, fun H50 s51 => ?_⟩
    have s52 : S _ _ [ow a_law_pool_here (td y48), fz v32 (td x26), fz v17 (td x11)] := s46.leave s51
    refine w_c ?_
    refine r_eqI ?_
    refine w_bl ?_
    refine w_ite (fun h53 => ?_) (fun h53 => ?_)
    ·
      replace hm := ifT h53 hm
      refine w_set ?_
      refine w_callG ?_
      refine w_cons ?_
      refine w_var rfl ?_
      refine w_cons ?_
      refine w_c ?_
      refine w_nil ?_
      have s54 := s52.pick (E' := [ow a_law_pool_here (td y48)] ++ [fz v32 (td x26), fz v17 (td x11)]) [0, 1, 2]
      obtain ⟨⟨x55, y56⟩, h57, hm⟩ := bnd hm
      refine ⟨_, _, _, _, _, _, _, rfl, s54.enter, h57, fun H58 s59 => ?_⟩
      have s60 : S _ _ [ow a_law_pool_here (td y56), fz v32 (td x26), fz v17 (td x11)] := s54.leave s59
      cases som hm
      exact ⟨rfl, s60⟩
    ·
      replace hm := ifF h53 hm
      refine w_next ?_
      cases som hm
      exact ⟨rfl, s52⟩
  rintro _ H43 ⟨rfl, s44⟩
  refine w_seq [some (.ref a_law_pool_here), some (.int x_law_most), some (v17), some (v32), some (.int x41), none] rfl ?_
  refine w_set ?_
  refine w_callG ?_
  refine w_cons ?_
  refine w_var rfl ?_
  refine w_cons ?_
  refine w_var rfl ?_
  refine w_cons ?_
  refine w_var rfl ?_
  refine w_cons ?_
  refine w_var rfl ?_
  refine w_nil ?_
  have s61 := s44.pick (E' := [ow a_law_pool_here (td y40), fz v17 (td x11), fz v32 (td x26)] ++ []) [0, 2, 1]
  obtain ⟨⟨x62, y63⟩, h64, hm⟩ := bnd hm
  refine ⟨_, _, _, _, _, _, _, _, _, _, _, _, _, rfl, s61.enter, h64, fun H65 v68 s66 => ?_⟩
  have s67 : S _ _ [fz v68 (td x62), ow a_law_pool_here (td y63), fz v17 (td x11), fz v32 (td x26)] := s61.leave s66
  refine w_ret ?_
  refine w_lst ?_
  refine w_cons ?_
  refine w_var rfl ?_
  refine w_cons ?_
  refine w_callG ?_
  refine w_cons ?_
  refine w_var rfl ?_
  refine w_cons ?_
  refine w_var rfl ?_
  refine w_nil ?_
  have s69 := s67.pick (E' := [ow a_law_pool_here (td y63), fz v68 (td x62)] ++ [fz v17 (td x11), fz v32 (td x26)]) [1, 0, 2, 3]
  obtain ⟨⟨x70, y71⟩, h72, hm⟩ := bnd hm
  refine ⟨_, _, _, _, _, _, _, _, _, rfl, s69.enter, h72, fun H73 v76 s74 => ?_⟩
  have s75 : S _ _ [fz v76 (td x70), ow a_law_pool_here (td y71), fz v68 (td x62), fz v17 (td x11), fz v32 (td x26)] := s69.leave s74
  refine w_nil ?_
  refine r_lst s75 (.cons (s75.fz (k := 2) rfl) (.cons (s75.fz (k := 0) rfl) .nil)) (q := fun p77 H78 s79 => ?_)
  have s80 : S _ _ [fz (.ref p77) (td (⟨x62, x70⟩ : L2' (List (T3 Str Str Str)) (List Str))), fz v76 (td x70), ow a_law_pool_here (td y71), fz v68 (td x62), fz v17 (td x11), fz v32 (td x26)] := s79
  have s81 : S _ _ [fz (.ref p77) (td (⟨x62, x70⟩ : L2' (List (T3 Str Str Str)) (List Str))), ow a_law_pool_here (td y71)] := s80.pick [0, 2]
  cases som hm
  exact kQ _ _ s81
def sp_law_rank_T (K : PySem.W.Frag) (ce : Str → Addr) : Sp := fun vs H Q _ => ∃ (Z : Addr → Prop) (L : Lk) (v_law_things : V) (x_law_things : List (T3 Str Str Str)) (b_law_things : Bool) (r : List (T3 Str Str Str)), vs = [v_law_things] ∧ S (mk K ce Z L H [en v_law_things (td x_law_things) b_law_things]) H [en v_law_things (td x_law_things) b_law_things] ∧ m_law_rank_T x_law_things = some r ∧ ∀ H' w, S (mk K ce Z L H [en v_law_things (td x_law_things) b_law_things]) H' (fz w (td r) :: [en v_law_things (td x_law_things) b_law_things]) → Q w H'
theorem ok_law_rank_T {P : Program} {w : World} {K : PySem.W.Frag} {mg : Str → Option Value} {base : Heap} {A : Ad} (T : Txt P K mg A) : FnB P w K mg base 1 A.f__law_rank A.d__law_rank ["_law_things"] (sp_law_rank_T K A.ce) := by
  have SC := sc_law_rank_T
  refine Fun.okG0 T.F__law_rank sc_law_rank_T (fun vs H Q E h => ?_) (fun cdv Ar outer s9 H vs Q E hr h => ?_)
  · obtain ⟨_, _, _, _, _, _, rfl, _⟩ := h; rfl
  obtain ⟨Z, L, v_law_things, x_law_things, b_law_things, r, rfl, s0, hm, kQ⟩ := h
  refine ⟨_, (pss_cons (ps_set (i := 1) SC.nd rfl (by first | exact Or.inl rfl | exact Or.inr rfl) (pe_lst pa_nil))
    (pss_cons (ps_for PassesOwn.never rfl (pi_list (pv 0)) (pg_name (i := 2) SC.nd rfl (by first | exact Or.inl rfl | exact Or.inr rfl)) (pss_one (ps_if (pt_cmpR (op_notInA (α := T3 Str Str Str) hr (by decide)) (pv 2) (pv 1) (by rfl)) (pss_one (ps_expr (pe_bm PySem.F.plainAttrs_list PySem.F.slot_list_append PySem.F.type_list_append mt_append (pv 1) (pa_cons (pv 2) pa_nil)))) pss_nil)))
    (pss_one (ps_ret (pe_callBK (cr_sortKey hr) (by rfl) T.n_sorted (by decide +kernel) (pa_cons (pv 1) pa_nil) (pk_cons (pe_bltn (v := .ty "str") (u := .type "str") (by rfl) T.n_str (by decide +kernel) rfl) pk_nil)))))), ?_⟩
  refine w_seq [some (v_law_things), none, none] rfl ?_
  refine w_set ?_
  refine w_lst ?_
  refine w_nil ?_
  refine r_lstO s0 (.nil) (q := fun p1 H2 s3 => ?_)
  have s4 : S _ _ [ow p1 (td ([] : List (T3 Str Str Str))), en v_law_things (td x_law_things) b_law_things] := s3
  refine w_seq [some (v_law_things), some (.ref p1), none] rfl ?_
  refine w_forL ?_
  refine w_var rfl ?_
  refine l_lst s4 (k := 1) rfl fun J hJ => ?_
  obtain ⟨r5, h6, hm⟩ := bnd hm
  refine forB (c := (mk K A.ce Z L H [en v_law_things (td x_law_things) b_law_things])) x_law_things (w := .lst v_law_things) hJ (fun l13 σ10 H11 => ∃ (y8 : List (T3 Str Str Str)) (o9 : Option V), σ10 = [some (v_law_things), some (.ref p1), o9] ∧ S (mk K A.ce Z L H [en v_law_things (td x_law_things) b_law_things]) H11 [ow p1 (td y8), en v_law_things (td x_law_things) b_law_things] ∧ foldO l13 y8 m_law_rank_T_L1 = some r5) ?_ ?_ ?_ ?_
  ·
    exact ⟨_, _, rfl, s4, h6⟩
  ·
    rintro _ _ _ ⟨y8, o9, rfl, s12, h14⟩; exact ⟨_, 1, _, s12, rfl⟩
  ·
    rintro d15 l13 w16 _ H11 ⟨y8, o9, rfl, s12, h14⟩ g17
    obtain ⟨q18, h19, h20⟩ := fold_cons h14
    have h7 := hm
    replace hm := h19
    have s23 := s12.add (g17 _ 1 _ s12 rfl)
    refine w_name ?_
    refine w_if ?_
    refine w_test ?_
    refine w_op ?_
    refine w_var rfl ?_
    refine w_var rfl ?_
    refine r_notInA s23 (i := 0) (j := 1) rfl rfl ?_
    refine w_bl ?_
    refine w_ite (fun h24 => ?_) (fun h24 => ?_)
    ·
      replace hm := ifT h24 hm
      refine w_drop ?_
      refine w_bm ?_
      refine w_var rfl ?_
      refine ⟨s23.tyL (k := 1) rfl, ?_⟩
      refine w_cons ?_
      refine w_var rfl ?_
      refine w_nil ?_
      obtain ⟨y25, h26, hm⟩ := bnd hm
      refine r_appL s23 (k := 1) (x := d15) rfl (s23.fz (k := 0) rfl) h26 fun H27 s28 => ?_
      have s29 : S _ _ [ow p1 (td y25), en v_law_things (td x_law_things) b_law_things] := s28.pick [1, 2]
      cases som hm
      exact ⟨_, _, rfl, s29, h20⟩
    ·
      replace hm := ifF h24 hm
      refine w_next ?_
      have s30 : S _ _ [ow p1 (td y8), en v_law_things (td x_law_things) b_law_things] := s23.pick [1, 2]
      cases som hm
      exact ⟨_, _, rfl, s30, h20⟩
  ·
    rintro _ H11 ⟨y8, o9, rfl, s12, h14⟩
    have e9 := som h14; subst e9
    refine w_ret ?_
    refine w_ckw ?_
    refine w_cons ?_
    refine w_var rfl ?_
    refine w_nil ?_
    refine w_kw ?_
    refine w_cons ?_
    refine w_c ?_
    refine w_nil ?_
    obtain ⟨y31, h32, hm⟩ := bnd hm
    refine r_sortL false s12 (i := 0) rfl h32 fun p33 H34 s35 => ?_
    have s36 : S _ _ [fz (.ref p33) (td y31), ow p1 (td y8), en v_law_things (td x_law_things) b_law_things] := s35
    have s37 : S _ _ [fz (.ref p33) (td y31), en v_law_things (td x_law_things) b_law_things] := s36.pick [0, 2]
    cases som hm
    exact kQ _ _ s37
def sp_law_text (K : PySem.W.Frag) (ce : Str → Addr) : Sp := fun vs H Q _ => ∃ (Z : Addr → Prop) (L : Lk) (v_law_ties_here : V) (x_law_ties_here : List (T3 Str Str Str)) (b_law_ties_here : Bool) (v_law_head_here : V) (x_law_head_here : List Str) (b_law_head_here : Bool) (r : Str), vs = [v_law_ties_here, v_law_head_here] ∧ S (mk K ce Z L H [en v_law_ties_here (td x_law_ties_here) b_law_ties_here, en v_law_head_here (td x_law_head_here) b_law_head_here]) H [en v_law_ties_here (td x_law_ties_here) b_law_ties_here, en v_law_head_here (td x_law_head_here) b_law_head_here] ∧ m_law_text x_law_ties_here x_law_head_here = some r ∧ ∀ H', S (mk K ce Z L H [en v_law_ties_here (td x_law_ties_here) b_law_ties_here, en v_law_head_here (td x_law_head_here) b_law_head_here]) H' [en v_law_ties_here (td x_law_ties_here) b_law_ties_here, en v_law_head_here (td x_law_head_here) b_law_head_here] → Q (.str r) H'
theorem ok_law_text {P : Program} {w : World} {K : PySem.W.Frag} {mg : Str → Option Value} {base : Heap} {A : Ad} (T : Txt P K mg A) : FnB P w K mg base 1 A.f__law_text A.d__law_text ["_law_ties_here", "_law_head_here"] (sp_law_text K A.ce) := by
  have SC := sc_law_text
  refine Fun.okG0 T.F__law_text sc_law_text (fun vs H Q E h => ?_) (fun cdv Ar outer s9 H vs Q E hr h => ?_)
  · obtain ⟨_, _, _, _, _, _, _, _, _, rfl, _⟩ := h; rfl
  obtain ⟨Z, L, v_law_ties_here, x_law_ties_here, b_law_ties_here, v_law_head_here, x_law_head_here, b_law_head_here, r, rfl, s0, hm, kQ⟩ := h
  refine ⟨_, (pss_cons (ps_set (i := 2) SC.nd rfl (by first | exact Or.inl rfl | exact Or.inr rfl) (pe_op op_addT (pe_op op_addT pe_str (pe_bm PySem.F.plainAttrs_str PySem.F.slot_str_join PySem.F.type_str_join mt_join' pe_str (pa_cons (pv 1) pa_nil))) pe_str))
    (pss_cons (ps_setLc (i := 3) (own := [("_law_tie", 4)]) (g := gName 4) rfl SC.nd rfl rfl (sw_true rfl rfl rfl (by decide +kernel)) (pi_list (pv 0)) (blkOk_by (own := [("_law_tie", 4)]) (N := N_law_text) (sc := defScope s_law_text) (by decide +kernel)) (fun _ _ _ _ _ => (pg_name (i := 4) SC.nd rfl (by first | exact Or.inl rfl | exact Or.inr rfl))) (fun _ _ _ _ _ => pts_nil) (fun _ _ _ _ _ => (pe_op op_addT (pe_op op_addT (pe_op op_addT (pe_op op_addT (pe_op op_addT (pe_ix (show IxR _ (rIxT K) from ix_tup) (pv 4) pe_int (fun _ _ => rfl)) pe_str) (pe_ix (show IxR _ (rIxT K) from ix_tup) (pv 4) pe_int (fun _ _ => rfl))) pe_str) (pe_ix (show IxR _ (rIxT K) from ix_tup) (pv 4) pe_int (fun _ _ => rfl))) pe_str)))
    (pss_cons (ps_if (pt_cmpR (op_eqA (α := List Str) hr (by decide)) (pv 3) (pe_lst pa_nil) (nomark _)) (pss_one (ps_ret (pv 2))) pss_nil)
    (pss_one (ps_ret (pe_op op_addT (pe_op op_addT (pv 2) pe_str) (pe_bm PySem.F.plainAttrs_str PySem.F.slot_str_join PySem.F.type_str_join mt_join' pe_str (pa_cons (pv 3) pa_nil)))))))), ?_⟩
  refine w_seq [some (v_law_ties_here), some (v_law_head_here), none, none, none] rfl ?_
  refine w_set ?_
  refine w_op ?_
  refine w_op ?_
  refine w_c ?_
  refine w_bm ?_
  refine w_c ?_
  refine ⟨rfl, ?_⟩
  refine w_cons ?_
  refine w_var rfl ?_
  refine w_nil ?_
  obtain ⟨x1, h2, hm⟩ := bnd hm
  refine r_joinL s0 (k := 1) rfl h2 ?_
  obtain ⟨x3, h4, hm⟩ := bnd hm
  refine r_addS h4 ?_
  refine w_c ?_
  obtain ⟨x5, h6, hm⟩ := bnd hm
  refine r_addS h6 ?_
  refine w_seq [some (v_law_ties_here), some (v_law_head_here), some (.str x5), none, none] rfl ?_
  refine w_set ?_
  refine w_lcL ?_
  refine w_var rfl ?_
  refine l_lst s0 (k := 0) rfl fun J hJ => ?_
  obtain ⟨y7, h8, hm⟩ := bnd hm
  refine lcB (xs := x_law_ties_here) (ys := y7) (f := m_law_text_C1) (w := .lst v_law_ties_here) hJ s0 (s0.small (k := 0) rfl) h8 (fun _ hh => ⟨_, 1, _, hh.choose_spec.choose_spec, rfl⟩) (fun d17 o16 D9 acc10 w11 H12 h13 s14 g15 R0 R1 k0 k1 => ?_) ?_
  ·
    replace hm := h13
    have s18 := s14.add (g15 _ 1 _ s14 rfl)
    refine w_name ?_
    refine ⟨rfl, ?_⟩
    refine w_yes ?_
    refine w_tt ?_
    refine w_op ?_
    refine w_op ?_
    refine w_op ?_
    refine w_op ?_
    refine w_op ?_
    refine w_op ?_
    refine w_var rfl ?_
    refine w_c ?_
    refine r_ixTdv s18 (k := 0) rfl rfl ?_
    refine w_c ?_
    obtain ⟨x19, h20, hm⟩ := bnd hm
    refine r_addS h20 ?_
    refine w_op ?_
    refine w_var rfl ?_
    refine w_c ?_
    refine r_ixTdv s18 (k := 0) rfl rfl ?_
    obtain ⟨x21, h22, hm⟩ := bnd hm
    refine r_addS h22 ?_
    refine w_c ?_
    obtain ⟨x23, h24, hm⟩ := bnd hm
    refine r_addS h24 ?_
    refine w_op ?_
    refine w_var rfl ?_
    refine w_c ?_
    refine r_ixTdv s18 (k := 0) rfl rfl ?_
    obtain ⟨x25, h26, hm⟩ := bnd hm
    refine r_addS h26 ?_
    refine w_c ?_
    obtain ⟨x27, h28, hm⟩ := bnd hm
    refine r_addS h28 ?_
    have s29 : S _ _ [ow D9 (td acc10), en v_law_ties_here (td x_law_ties_here) b_law_ties_here, en v_law_head_here (td x_law_head_here) b_law_head_here] := s18.pick [1, 2, 3]
    cases som hm
    exact k1 _ rfl _ _ (s29.add (.sc _))
  intro p30 H31 s32
  have s33 : S _ _ [fz (.ref p30) (td y7), en v_law_ties_here (td x_law_ties_here) b_law_ties_here, en v_law_head_here (td x_law_head_here) b_law_head_here] := (s32.pick (E' := [ow p30 (td y7), en v_law_ties_here (td x_law_ties_here) b_law_ties_here, en v_law_head_here (td x_law_head_here) b_law_head_here]) [0, 1, 2]).freeze rfl
  refine w_seq [some (v_law_ties_here), some (v_law_head_here), some (.str x5), some (.ref p30), none] rfl ?_
  refine w_if ?_
  refine w_test ?_
  refine w_op ?_
  refine w_var rfl ?_
  refine w_lst ?_
  refine w_nil ?_
  refine r_lst s33 (.nil) (q := fun p34 H35 s36 => ?_)
  have s37 : S _ _ [fz (.ref p34) (td ([] : List Str)), fz (.ref p30) (td y7), en v_law_ties_here (td x_law_ties_here) b_law_ties_here, en v_law_head_here (td x_law_head_here) b_law_head_here] := s36
  refine r_eqA s37 (i := 1) (j := 0) rfl rfl ?_
  refine w_bl ?_
  refine w_ite (fun h38 => ?_) (fun h38 => ?_)
  ·
    replace hm := ifT h38 hm
    refine w_ret ?_
    refine w_var rfl ?_
    have s39 : S _ _ [en v_law_ties_here (td x_law_ties_here) b_law_ties_here, en v_law_head_here (td x_law_head_here) b_law_head_here] := s37.pick [2, 3]
    cases som hm
    exact kQ _ s39
  ·
    replace hm := ifF h38 hm
    refine w_next ?_
    refine w_ret ?_
    refine w_op ?_
    refine w_op ?_
    refine w_var rfl ?_
    refine w_c ?_
    obtain ⟨x40, h41, hm⟩ := bnd hm
    refine r_addS h41 ?_
    refine w_bm ?_
    refine w_c ?_
    refine ⟨rfl, ?_⟩
    refine w_cons ?_
    refine w_var rfl ?_
    refine w_nil ?_
    obtain ⟨x42, h43, hm⟩ := bnd hm
    refine r_joinL s37 (k := 1) rfl h43 ?_
    obtain ⟨x44, h45, hm⟩ := bnd hm
    refine r_addS h45 ?_
    have s46 : S _ _ [en v_law_ties_here (td x_law_ties_here) b_law_ties_here, en v_law_head_here (td x_law_head_here) b_law_head_here] := s37.pick [2, 3]
    cases som hm
    exact kQ _ s46
def sp_is_table (K : PySem.W.Frag) (ce : Str → Addr) : Sp := fun vs H Q _ => ∃ (Z : Addr → Prop) (L : Lk) (x_text : Str) (r : Bool), vs = [.str x_text] ∧ S (mk K ce Z L H []) H [] ∧ m_is_table x_text = some r ∧ ∀ H', S (mk K ce Z L H []) H' [] → Q (.bl r) H'
theorem ok_is_table {P : Program} {w : World} {K : PySem.W.Frag} {mg : Str → Option Value} {base : Heap} {A : Ad} (T : Txt P K mg A) : FnB P w K mg base 1 A.f_is_table A.d_is_table ["text"] (sp_is_table K A.ce) := by
  have SC := sc_is_table
  refine Fun.okG0 T.F_is_table sc_is_table (fun vs H Q E h => ?_) (fun cdv Ar outer s9 H vs Q E hr h => ?_)
  · obtain ⟨_, _, _, _, rfl, _⟩ := h; rfl
  obtain ⟨Z, L, x_text, r, rfl, s0, hm, kQ⟩ := h
  refine ⟨_, (pss_one (ps_ret (pe_and (pe_chain op_le op_le pe_int (pe_callB call_lenT (by rfl) T.n_len PySem.boot_len (pa_cons (pv 0) pa_nil)) pe_int) (pe_one (pe_callB (cr_all rfl) (by rfl) T.n_all (by decide +kernel) (pa_cons (pe_lc (own := [("sign", 1)]) (g := gName 1) rfl SC.nd (pi_str (pv 0)) (blkOk_by (own := [("sign", 1)]) (N := N_is_table) (sc := defScope s_is_table) (by decide +kernel)) (fun _ _ _ _ _ => (pg_name (i := 1) SC.nd rfl (by first | exact Or.inl rfl | exact Or.inr rfl))) (fun _ _ _ _ _ => pts_nil) (fun _ _ _ _ _ => (pe_cmpR op_inS (pv 1) (pe_glob (v := .str c_CAPITALS) rfl T.g_CAPITALS.choose_spec ⟨_, rfl⟩) (by rfl)))) pa_nil)))))), ?_⟩
  refine w_ret ?_
  obtain ⟨b1, h2, hm⟩ := bnd hm
  refine cutE (P := fun v H9 => v = .bl b1 ∧ S (mk K A.ce Z L H []) H9 []) (fun Q9 k9 => ?_) ?_
  ·
    replace hm := h2
    refine w_andV ?_
    obtain ⟨b5, h6, hm⟩ := bnd hm
    refine cutE (P := fun v H9 => v = .bl b5 ∧ H = H9) (fun Q9 k9 => ?_) ?_
    ·
      replace hm := h6
      refine w_chain ?_
      refine w_c ?_
      refine w_cb ?_
      refine w_cons ?_
      refine w_var rfl ?_
      refine w_nil ?_
      obtain ⟨x7, h8, hm⟩ := bnd hm
      refine r_lenS h8 ?_
      refine r_I0 ?_
      refine w_bl ?_
      refine w_ite (fun h9 => ?_) (fun h9 => ?_)
      ·
        replace hm := ifT h9 hm
        refine w_c ?_
        refine r_I0 ?_
        cases som hm
        exact k9 _ _ ⟨rfl, rfl⟩
      ·
        replace hm := ifF h9 hm
        cases som hm
        exact k9 _ _ ⟨rfl, rfl⟩
    rintro _ _ ⟨rfl, rfl⟩
    refine w_bl ?_
    refine w_ite (fun h10 => ?_) (fun h10 => ?_)
    ·
      replace hm := ifT h10 hm
      refine w_cb ?_
      refine w_cons ?_
      refine w_lcS ?_
      refine w_var rfl ?_
      refine l_str ?_
      obtain ⟨x12, h11, hm⟩ := bnd hm
      obtain ⟨y13, h14, hm⟩ := bnd hm
      refine lcB (xs := x12) (ys := y13) (f := m_is_table_C1) (w := .str x_text) rfl s0 (str_small h11) h14 (fun _ _ => str_at h11) (fun d23 o22 D15 acc16 w17 H18 h19 s20 g21 R0 R1 k0 k1 => ?_) ?_
      ·
        replace hm := h19
        obtain rfl : V.str d23 = w17 := gv_sc g21
        refine w_name ?_
        refine ⟨rfl, ?_⟩
        refine w_yes ?_
        refine w_tt ?_
        refine w_op ?_
        refine w_var rfl ?_
        refine w_c ?_
        obtain ⟨x24, h25, hm⟩ := bnd hm
        refine r_inS h25 ?_
        cases som hm
        exact k1 _ rfl _ _ (s20.add (.sc _))
      intro p26 H27 s28
      refine w_nil ?_
      refine r_all s28 (k := 0) rfl ?_
      have s29 : S _ _ [] := s28.pick []
      cases som hm
      exact k9 _ _ ⟨rfl, s29⟩
    ·
      replace hm := ifF h10 hm
      cases som hm
      exact k9 _ _ ⟨rfl, s0⟩
  rintro _ H3 ⟨rfl, s4⟩
  cases som hm
  exact kQ _ s4
def sp_is_name (K : PySem.W.Frag) (ce : Str → Addr) : Sp := fun vs H Q _ => ∃ (Z : Addr → Prop) (L : Lk) (x_text : Str) (r : Bool), vs = [.str x_text] ∧ S (mk K ce Z L H []) H [] ∧ m_is_name x_text = some r ∧ ∀ H', S (mk K ce Z L H []) H' [] → Q (.bl r) H'
theorem ok_is_name {P : Program} {w : World} {K : PySem.W.Frag} {mg : Str → Option Value} {base : Heap} {A : Ad} (T : Txt P K mg A) : FnB P w K mg base 1 A.f_is_name A.d_is_name ["text"] (sp_is_name K A.ce) := by
  have SC := sc_is_name
  refine Fun.okG0 T.F_is_name sc_is_name (fun vs H Q E h => ?_) (fun cdv Ar outer s9 H vs Q E hr h => ?_)
  · obtain ⟨_, _, _, _, rfl, _⟩ := h; rfl
  obtain ⟨Z, L, x_text, r, rfl, s0, hm, kQ⟩ := h
  refine ⟨_, (pss_one (ps_ret (pe_and (pe_chain op_le op_le pe_int (pe_callB call_lenT (by rfl) T.n_len PySem.boot_len (pa_cons (pv 0) pa_nil)) pe_int) (pe_and (pe_cmpR op_inS (pe_ix ix_str (pv 0) pe_int (fun _ _ => rfl)) (pe_glob (v := .str c_LETTERS) rfl T.g_LETTERS.choose_spec ⟨_, rfl⟩) (by rfl)) (pe_one (pe_callB (cr_all rfl) (by rfl) T.n_all (by decide +kernel) (pa_cons (pe_lc (own := [("sign", 1)]) (g := gName 1) rfl SC.nd (pi_str (pv 0)) (blkOk_by (own := [("sign", 1)]) (N := N_is_name) (sc := defScope s_is_name) (by decide +kernel)) (fun _ _ _ _ _ => (pg_name (i := 1) SC.nd rfl (by first | exact Or.inl rfl | exact Or.inr rfl))) (fun _ _ _ _ _ => pts_nil) (fun _ _ _ _ _ => (pe_cmpR op_inS (pv 1) (pe_glob (v := .str c_SIGNS) rfl T.g_SIGNS.choose_spec ⟨_, rfl⟩) (by rfl)))) pa_nil))))))), ?_⟩
  refine w_ret ?_
  obtain ⟨b1, h2, hm⟩ := bnd hm
  refine cutE (P := fun v H9 => v = .bl b1 ∧ S (mk K A.ce Z L H []) H9 []) (fun Q9 k9 => ?_) ?_
  ·
    replace hm := h2
    refine w_andV ?_
    obtain ⟨b5, h6, hm⟩ := bnd hm
    refine cutE (P := fun v H9 => v = .bl b5 ∧ H = H9) (fun Q9 k9 => ?_) ?_
    ·
      replace hm := h6
      refine w_chain ?_
      refine w_c ?_
      refine w_cb ?_
      refine w_cons ?_
      refine w_var rfl ?_
      refine w_nil ?_
      obtain ⟨x7, h8, hm⟩ := bnd hm
      refine r_lenS h8 ?_
      refine r_I0 ?_
      refine w_bl ?_
      refine w_ite (fun h9 => ?_) (fun h9 => ?_)
      ·
        replace hm := ifT h9 hm
        refine w_c ?_
        refine r_I0 ?_
        cases som hm
        exact k9 _ _ ⟨rfl, rfl⟩
      ·
        replace hm := ifF h9 hm
        cases som hm
        exact k9 _ _ ⟨rfl, rfl⟩
    rintro _ _ ⟨rfl, rfl⟩
    refine w_bl ?_
    refine w_ite (fun h10 => ?_) (fun h10 => ?_)
    ·
      replace hm := ifT h10 hm
      obtain ⟨b11, h12, hm⟩ := bnd hm
      refine cutE (P := fun v H9 => v = .bl b11 ∧ S (mk K A.ce Z L H []) H9 []) (fun Q9 k9 => ?_) ?_
      ·
        replace hm := h12
        refine w_andV ?_
        refine w_op ?_
        refine w_op ?_
        refine w_var rfl ?_
        refine w_c ?_
        obtain ⟨x15, h16, hm⟩ := bnd hm
        refine r_ixS h16 ?_
        refine w_c ?_
        obtain ⟨x17, h18, hm⟩ := bnd hm
        refine r_inS h18 ?_
        refine w_bl ?_
        refine w_ite (fun h19 => ?_) (fun h19 => ?_)
        ·
          replace hm := ifT h19 hm
          refine w_cb ?_
          refine w_cons ?_
          refine w_lcS ?_
          refine w_var rfl ?_
          refine l_str ?_
          obtain ⟨x21, h20, hm⟩ := bnd hm
          obtain ⟨y22, h23, hm⟩ := bnd hm
          refine lcB (xs := x21) (ys := y22) (f := m_is_name_C1) (w := .str x_text) rfl s0 (str_small h20) h23 (fun _ _ => str_at h20) (fun d32 o31 D24 acc25 w26 H27 h28 s29 g30 R0 R1 k0 k1 => ?_) ?_
          ·
            replace hm := h28
            obtain rfl : V.str d32 = w26 := gv_sc g30
            refine w_name ?_
            refine ⟨rfl, ?_⟩
            refine w_yes ?_
            refine w_tt ?_
            refine w_op ?_
            refine w_var rfl ?_
            refine w_c ?_
            obtain ⟨x33, h34, hm⟩ := bnd hm
            refine r_inS h34 ?_
            cases som hm
            exact k1 _ rfl _ _ (s29.add (.sc _))
          intro p35 H36 s37
          refine w_nil ?_
          refine r_all s37 (k := 0) rfl ?_
          have s38 : S _ _ [] := s37.pick []
          cases som hm
          exact k9 _ _ ⟨rfl, s38⟩
        ·
          replace hm := ifF h19 hm
          cases som hm
          exact k9 _ _ ⟨rfl, s0⟩
      rintro _ H13 ⟨rfl, s14⟩
      cases som hm
      exact k9 _ _ ⟨rfl, s14⟩
    ·
      replace hm := ifF h10 hm
      cases som hm
      exact k9 _ _ ⟨rfl, s0⟩
  rintro _ H3 ⟨rfl, s4⟩
  cases som hm
  exact kQ _ s4
def sp_check_words (K : PySem.W.Frag) (ce : Str → Addr) : Sp := fun vs H Q _ => ∃ (Z : Addr → Prop) (L : Lk) (v_ties : V) (x_ties : List (T3 Str Str Str)) (b_ties : Bool) (v_head : V) (x_head : List Str) (b_head : Bool), vs = [v_ties, v_head] ∧ S (mk K ce Z L H [en v_ties (td x_ties) b_ties, en v_head (td x_head) b_head]) H [en v_ties (td x_ties) b_ties, en v_head (td x_head) b_head] ∧ m_check_words x_ties x_head = some () ∧ ∀ H', S (mk K ce Z L H [en v_ties (td x_ties) b_ties, en v_head (td x_head) b_head]) H' [en v_ties (td x_ties) b_ties, en v_head (td x_head) b_head] → Q .non H'
theorem ok_check_words {P : Program} {w : World} {K : PySem.W.Frag} {mg : Str → Option Value} {base : Heap} {A : Ad} (T : Txt P K mg A) : FnB P w K mg base 2 A.f__check_words A.d__check_words ["ties", "head"] (sp_check_words K A.ce) := by
  have SC := sc_check_words
  refine Fun.okG0 T.F__check_words sc_check_words (fun vs H Q E h => ?_) (fun cdv Ar outer s9 H vs Q E hr h => ?_)
  · obtain ⟨_, _, _, _, _, _, _, _, rfl, _⟩ := h; rfl
  obtain ⟨Z, L, v_ties, x_ties, b_ties, v_head, x_head, b_head, rfl, s0, hm, kQ⟩ := h
  refine ⟨_, (pss_cons (ps_for PassesOwn.never rfl (pi_list (pv 0)) (pg_tup rfl (pgs_cons (pg_name (i := 2) SC.nd rfl (by first | exact Or.inl rfl | exact Or.inr rfl)) (pgs_cons (pg_name (i := 3) SC.nd rfl (by first | exact Or.inl rfl | exact Or.inr rfl)) (pgs_cons (pg_name (i := 4) SC.nd rfl (by first | exact Or.inl rfl | exact Or.inr rfl)) pgs_nil)))) (pss_cons (ps_if (pt_not (pt_val (pe_callG ((ok_is_table T).raw0 T.b_is_table) (hr.mono (by decide)) takes0 rfl T.g_is_table T.k_is_table (pa_cons (pv 2) pa_nil)))) (pss_one ps_never) pss_nil)
    (pss_cons (ps_if (pt_not (pt_val (pe_callG ((ok_is_name T).raw0 T.b_is_name) (hr.mono (by decide)) takes0 rfl T.g_is_name T.k_is_name (pa_cons (pv 3) pa_nil)))) (pss_one ps_never) pss_nil)
    (pss_one (ps_if (pt_not (pt_val (pe_callG ((ok_is_name T).raw0 T.b_is_name) (hr.mono (by decide)) takes0 rfl T.g_is_name T.k_is_name (pa_cons (pv 4) pa_nil)))) (pss_one ps_never) pss_nil)))))
    (pss_one (ps_for PassesOwn.never rfl (pi_list (pv 1)) (pg_name (i := 5) SC.nd rfl (by first | exact Or.inl rfl | exact Or.inr rfl)) (pss_one (ps_if (pt_not (pt_val (pe_callG ((ok_is_name T).raw0 T.b_is_name) (hr.mono (by decide)) takes0 rfl T.g_is_name T.k_is_name (pa_cons (pv 5) pa_nil)))) (pss_one ps_never) pss_nil))))), ?_⟩
  refine w_seq [some (v_ties), some (v_head), none, none, none, none] rfl ?_
  refine w_forL ?_
  refine w_var rfl ?_
  refine l_lst s0 (k := 0) rfl fun J hJ => ?_
  obtain ⟨r1, h2, hm⟩ := bnd hm
  refine forB (c := (mk K A.ce Z L H [en v_ties (td x_ties) b_ties, en v_head (td x_head) b_head])) x_ties (w := .lst v_ties) hJ (fun l10 σ7 H8 => ∃ (o4 : Option V) (o5 : Option V) (o6 : Option V), σ7 = [some (v_ties), some (v_head), o4, o5, o6, none] ∧ S (mk K A.ce Z L H [en v_ties (td x_ties) b_ties, en v_head (td x_head) b_head]) H8 [en v_ties (td x_ties) b_ties, en v_head (td x_head) b_head] ∧ foldO l10 () m_check_words_L1 = some r1) ?_ ?_ ?_ ?_
  ·
    exact ⟨_, _, _, rfl, s0, h2⟩
  ·
    rintro _ _ _ ⟨o4, o5, o6, rfl, s9, h11⟩; exact ⟨_, 0, _, s9, rfl⟩
  ·
    rintro d12 l10 w13 _ H8 ⟨o4, o5, o6, rfl, s9, h11⟩ g14
    obtain ⟨q15, h16, h17⟩ := fold_cons h11
    have h3 := hm
    replace hm := h16
    have s20 := s9.add (g14 _ 0 _ s9 rfl)
    refine g_tup3 s20 (k := 0) rfl fun v21 v22 v23 s24 => ?_
    obtain rfl : v21 = .str d12.a := (s24.fz (k := 0) rfl).ofSc
    obtain rfl : v22 = .str d12.b := (s24.fz (k := 1) rfl).ofSc
    obtain rfl : v23 = .str d12.c := (s24.fz (k := 2) rfl).ofSc
    have s25 : S _ _ [fz w13 (td d12), en v_ties (td x_ties) b_ties, en v_head (td x_head) b_head] := s24.pick [3, 4, 5]
    refine w_gcons ?_
    refine w_name ?_
    refine w_gcons ?_
    refine w_name ?_
    refine w_gcons ?_
    refine w_name ?_
    refine w_gnil ?_
    refine w_seq [some (v_ties), some (v_head), some (.str d12.a), some (.str d12.b), some (.str d12.c), none] rfl ?_
    refine w_if ?_
    refine w_not ?_
    refine w_B ?_
    refine w_callG ?_
    refine w_cons ?_
    refine w_var rfl ?_
    refine w_nil ?_
    have s26 := s25.pick (E' := [] ++ [fz w13 (td d12), en v_ties (td x_ties) b_ties, en v_head (td x_head) b_head]) [0, 1, 2]
    obtain ⟨x27, h28, hm⟩ := bnd hm
    refine ⟨_, _, _, _, rfl, s26.enter, h28, fun H29 s30 => ?_⟩
    have s31 : S _ _ [fz w13 (td d12), en v_ties (td x_ties) b_ties, en v_head (td x_head) b_head] := s26.leave s30
    refine w_bl ?_
    refine w_ite (fun h32 => ?_) (fun h32 => ?_)
    ·
      replace hm := ifT h32 hm
      cases hm
    ·
      replace hm := ifF h32 hm
      refine w_next ?_
      refine w_seq [some (v_ties), some (v_head), some (.str d12.a), some (.str d12.b), some (.str d12.c), none] rfl ?_
      refine w_if ?_
      refine w_not ?_
      refine w_B ?_
      refine w_callG ?_
      refine w_cons ?_
      refine w_var rfl ?_
      refine w_nil ?_
      have s33 := s31.pick (E' := [] ++ [fz w13 (td d12), en v_ties (td x_ties) b_ties, en v_head (td x_head) b_head]) [0, 1, 2]
      obtain ⟨x34, h35, hm⟩ := bnd hm
      refine ⟨_, _, _, _, rfl, s33.enter, h35, fun H36 s37 => ?_⟩
      have s38 : S _ _ [fz w13 (td d12), en v_ties (td x_ties) b_ties, en v_head (td x_head) b_head] := s33.leave s37
      refine w_bl ?_
      refine w_ite (fun h39 => ?_) (fun h39 => ?_)
      ·
        replace hm := ifT h39 hm
        cases hm
      ·
        replace hm := ifF h39 hm
        refine w_next ?_
        refine w_if ?_
        refine w_not ?_
        refine w_B ?_
        refine w_callG ?_
        refine w_cons ?_
        refine w_var rfl ?_
        refine w_nil ?_
        have s40 := s38.pick (E' := [] ++ [fz w13 (td d12), en v_ties (td x_ties) b_ties, en v_head (td x_head) b_head]) [0, 1, 2]
        obtain ⟨x41, h42, hm⟩ := bnd hm
        refine ⟨_, _, _, _, rfl, s40.enter, h42, fun H43 s44 => ?_⟩
        have s45 : S _ _ [fz w13 (td d12), en v_ties (td x_ties) b_ties, en v_head (td x_head) b_head] := s40.leave s44
        refine w_bl ?_
        refine w_ite (fun h46 => ?_) (fun h46 => ?_)
        ·
          replace hm := ifT h46 hm
          cases hm
        ·
          replace hm := ifF h46 hm
          refine w_next ?_
          have s47 : S _ _ [en v_ties (td x_ties) b_ties, en v_head (td x_head) b_head] := s45.pick [1, 2]
          cases som hm
          exact ⟨_, _, _, rfl, s47, h17⟩
  ·
    rintro _ H8 ⟨o4, o5, o6, rfl, s9, h11⟩
    have e9 := som h11; subst e9
    refine w_forL ?_
    refine w_var rfl ?_
    refine l_lst s9 (k := 1) rfl fun J hJ => ?_
    obtain ⟨r48, h49, hm⟩ := bnd hm
    refine forB (c := (mk K A.ce Z L H [en v_ties (td x_ties) b_ties, en v_head (td x_head) b_head])) x_head (w := .lst v_head) hJ (fun l55 σ52 H53 => ∃ (o51 : Option V), σ52 = [some (v_ties), some (v_head), o4, o5, o6, o51] ∧ S (mk K A.ce Z L H [en v_ties (td x_ties) b_ties, en v_head (td x_head) b_head]) H53 [en v_ties (td x_ties) b_ties, en v_head (td x_head) b_head] ∧ foldO l55 () m_check_words_L2 = some r48) ?_ ?_ ?_ ?_
    ·
      exact ⟨_, rfl, s9, h49⟩
    ·
      rintro _ _ _ ⟨o51, rfl, s54, h56⟩; exact ⟨_, 1, _, s54, rfl⟩
    ·
      rintro d57 l55 w58 _ H53 ⟨o51, rfl, s54, h56⟩ g59
      obtain ⟨q60, h61, h62⟩ := fold_cons h56
      have h50 := hm
      replace hm := h61
      obtain rfl : w58 = V.str d57 := (g59 _ 1 _ s54 rfl).ofSc
      refine w_name ?_
      refine w_if ?_
      refine w_not ?_
      refine w_B ?_
      refine w_callG ?_
      refine w_cons ?_
      refine w_var rfl ?_
      refine w_nil ?_
      have s65 := s54.pick (E' := [] ++ [en v_ties (td x_ties) b_ties, en v_head (td x_head) b_head]) [0, 1]
      obtain ⟨x66, h67, hm⟩ := bnd hm
      refine ⟨_, _, _, _, rfl, s65.enter, h67, fun H68 s69 => ?_⟩
      have s70 : S _ _ [en v_ties (td x_ties) b_ties, en v_head (td x_head) b_head] := s65.leave s69
      refine w_bl ?_
      refine w_ite (fun h71 => ?_) (fun h71 => ?_)
      ·
        replace hm := ifT h71 hm
        cases hm
      ·
        replace hm := ifF h71 hm
        refine w_next ?_
        cases som hm
        exact ⟨_, rfl, s70, h62⟩
    ·
      rintro _ H53 ⟨o51, rfl, s54, h56⟩
      have e9 := som h56; subst e9
      cases som hm
      exact kQ _ s54
def sp_ascending_T (K : PySem.W.Frag) (ce : Str → Addr) : Sp := fun vs H Q _ => ∃ (Z : Addr → Prop) (L : Lk) (v_things : V) (x_things : List (T3 Str Str Str)) (b_things : Bool) (r : List (T3 Str Str Str)), vs = [v_things] ∧ S (mk K ce Z L H [en v_things (td x_things) b_things]) H [en v_things (td x_things) b_things] ∧ m_ascending_T x_things = some r ∧ ∀ H' w, S (mk K ce Z L H [en v_things (td x_things) b_things]) H' (ow w (td r) :: [en v_things (td x_things) b_things]) → Q (.ref w) H'
theorem ok_ascending_T {P : Program} {w : World} {K : PySem.W.Frag} {mg : Str → Option Value} {base : Heap} {A : Ad} (T : Txt P K mg A) : FnB P w K mg base 1 A.f_ascending A.d_ascending ["things"] (sp_ascending_T K A.ce) := by
  have SC := sc_ascending_T
  refine Fun.okG0 T.F_ascending sc_ascending_T (fun vs H Q E h => ?_) (fun cdv Ar outer s9 H vs Q E hr h => ?_)
  · obtain ⟨_, _, _, _, _, _, rfl, _⟩ := h; rfl
  obtain ⟨Z, L, v_things, x_things, b_things, r, rfl, s0, hm, kQ⟩ := h
  refine ⟨_, (pss_cons (ps_set (i := 1) SC.nd rfl (by first | exact Or.inl rfl | exact Or.inr rfl) pe_dnewT)
    (pss_cons (ps_for PassesOwn.never rfl (pi_list (pv 0)) (pg_name (i := 2) SC.nd rfl (by first | exact Or.inl rfl | exact Or.inr rfl)) (pss_one (ps_dput (hu_of hr.r) (pv 1) (pv 2) pe_bl rfl)))
    (pss_one (ps_ret (pe_callBK (cr_sortKey hr) (by rfl) T.n_sorted (by decide +kernel) (pa_cons (pv 1) pa_nil) (pk_cons (pe_bltn (v := .ty "str") (u := .type "str") (by rfl) T.n_str (by decide +kernel) rfl) pk_nil)))))), ?_⟩
  refine w_seq [some (v_things), none, none] rfl ?_
  refine w_set ?_
  refine r_dnewT (κ := T3 Str Str Str) (ν := Bool) s0 fun p1 H2 s3 => ?_
  refine w_seq [some (v_things), some (.ref p1), none] rfl ?_
  refine w_forL ?_
  refine w_var rfl ?_
  refine l_lst s3 (k := 1) rfl fun J hJ => ?_
  obtain ⟨r4, h5, hm⟩ := bnd hm
  refine forB (c := (mk K A.ce Z L H [en v_things (td x_things) b_things])) x_things (w := .lst v_things) hJ (fun l12 σ9 H10 => ∃ (y7 : Dt (T3 Str Str Str) Bool) (o8 : Option V), σ9 = [some (v_things), some (.ref p1), o8] ∧ S (mk K A.ce Z L H [en v_things (td x_things) b_things]) H10 [ow p1 (td y7), en v_things (td x_things) b_things] ∧ foldO l12 y7 m_ascending_T_L1 = some r4) ?_ ?_ ?_ ?_
  ·
    exact ⟨_, _, rfl, s3, h5⟩
  ·
    rintro _ _ _ ⟨y7, o8, rfl, s11, h13⟩; exact ⟨_, 1, _, s11, rfl⟩
  ·
    rintro d14 l12 w15 _ H10 ⟨y7, o8, rfl, s11, h13⟩ g16
    obtain ⟨q17, h18, h19⟩ := fold_cons h13
    have h6 := hm
    replace hm := h18
    have s22 := s11.add (g16 _ 1 _ s11 rfl)
    refine w_name ?_
    refine w_asgD ?_
    refine w_c ?_
    refine w_dv ?_
    refine w_var rfl ?_
    refine w_var rfl ?_
    obtain ⟨y23, h24, hm⟩ := bnd hm
    refine q_dputT (kk := d14) (x := true) s22 (i := 1) (j := 0) rfl rfl (List.cons_ne_nil _ _) (.sc _) h24 fun H25 s26 => ?_
    have s27 : S _ _ [ow p1 (td (Dt.mk y23)), en v_things (td x_things) b_things] := s26.pick [1, 2]
    cases som hm
    exact ⟨_, _, rfl, s27, h19⟩
  ·
    rintro _ H10 ⟨y7, o8, rfl, s11, h13⟩
    have e9 := som h13; subst e9
    refine w_ret ?_
    refine w_ckw ?_
    refine w_cons ?_
    refine w_var rfl ?_
    refine w_nil ?_
    refine w_kw ?_
    refine w_cons ?_
    refine w_c ?_
    refine w_nil ?_
    obtain ⟨y28, h29, hm⟩ := bnd hm
    refine r_sortT (l := y7.l) (fun _ => Nat.le_of_ble_eq_true rfl) true s11 (i := 0) rfl h29 fun p30 H31 s32 => ?_
    have s33 : S _ _ [ow p30 (td y28), ow p1 (td y7), en v_things (td x_things) b_things] := s32
    have s34 : S _ _ [ow p30 (td y28), en v_things (td x_things) b_things] := s33.pick [0, 2]
    cases som hm
    exact kQ _ _ s34
def sp_ascending_S (K : PySem.W.Frag) (ce : Str → Addr) : Sp := fun vs H Q _ => ∃ (Z : Addr → Prop) (L : Lk) (v_things : V) (x_things : List Str) (b_things : Bool) (r : List Str), vs = [v_things] ∧ S (mk K ce Z L H [en v_things (td x_things) b_things]) H [en v_things (td x_things) b_things] ∧ m_ascending_S x_things = some r ∧ ∀ H' w, S (mk K ce Z L H [en v_things (td x_things) b_things]) H' (ow w (td r) :: [en v_things (td x_things) b_things]) → Q (.ref w) H'
theorem ok_ascending_S {P : Program} {w : World} {K : PySem.W.Frag} {mg : Str → Option Value} {base : Heap} {A : Ad} (T : Txt P K mg A) : FnB P w K mg base 1 A.f_ascending A.d_ascending ["things"] (sp_ascending_S K A.ce) := by
  have SC := sc_ascending_S
  refine Fun.okG0 T.F_ascending sc_ascending_S (fun vs H Q E h => ?_) (fun cdv Ar outer s9 H vs Q E hr h => ?_)
  · obtain ⟨_, _, _, _, _, _, rfl, _⟩ := h; rfl
  obtain ⟨Z, L, v_things, x_things, b_things, r, rfl, s0, hm, kQ⟩ := h
  refine ⟨_, (pss_cons (ps_set (i := 1) SC.nd rfl (by first | exact Or.inl rfl | exact Or.inr rfl) pe_dnewK)
    (pss_cons (ps_for PassesOwn.never rfl (pi_list (pv 0)) (pg_name (i := 2) SC.nd rfl (by first | exact Or.inl rfl | exact Or.inr rfl)) (pss_one (ps_dput (hu_of hr.r) (pv 1) (pv 2) pe_bl rfl)))
    (pss_one (ps_ret (pe_callBK (cr_sortKey hr) (by rfl) T.n_sorted (by decide +kernel) (pa_cons (pv 1) pa_nil) (pk_cons (pe_bltn (v := .ty "str") (u := .type "str") (by rfl) T.n_str (by decide +kernel) rfl) pk_nil)))))), ?_⟩
  refine w_seq [some (v_things), none, none] rfl ?_
  refine w_set ?_
  refine r_dnewK (κ := Str) (ν := Bool) s0 fun p1 H2 s3 => ?_
  refine w_seq [some (v_things), some (.ref p1), none] rfl ?_
  refine w_forL ?_
  refine w_var rfl ?_
  refine l_lst s3 (k := 1) rfl fun J hJ => ?_
  obtain ⟨r4, h5, hm⟩ := bnd hm
  refine forB (c := (mk K A.ce Z L H [en v_things (td x_things) b_things])) x_things (w := .lst v_things) hJ (fun l12 σ9 H10 => ∃ (y7 : Dk Str Bool) (o8 : Option V), σ9 = [some (v_things), some (.ref p1), o8] ∧ S (mk K A.ce Z L H [en v_things (td x_things) b_things]) H10 [ow p1 (td y7), en v_things (td x_things) b_things] ∧ foldO l12 y7 m_ascending_S_L1 = some r4) ?_ ?_ ?_ ?_
  ·
    exact ⟨_, _, rfl, s3, h5⟩
  ·
    rintro _ _ _ ⟨y7, o8, rfl, s11, h13⟩; exact ⟨_, 1, _, s11, rfl⟩
  ·
    rintro d14 l12 w15 _ H10 ⟨y7, o8, rfl, s11, h13⟩ g16
    obtain ⟨q17, h18, h19⟩ := fold_cons h13
    have h6 := hm
    replace hm := h18
    obtain rfl : w15 = V.str d14 := (g16 _ 1 _ s11 rfl).ofSc
    refine w_name ?_
    refine w_asgD ?_
    refine w_c ?_
    refine w_dv ?_
    refine w_var rfl ?_
    refine w_var rfl ?_
    obtain ⟨y22, h23, hm⟩ := bnd hm
    refine q_dputK (kk := d14) (x := true) s11 (i := 0) rfl (.sc _) h23 fun H24 s25 => ?_
    cases som hm
    exact ⟨_, _, rfl, s25, h19⟩
  ·
    rintro _ H10 ⟨y7, o8, rfl, s11, h13⟩
    have e9 := som h13; subst e9
    refine w_ret ?_
    refine w_ckw ?_
    refine w_cons ?_
    refine w_var rfl ?_
    refine w_nil ?_
    refine w_kw ?_
    refine w_cons ?_
    refine w_c ?_
    refine w_nil ?_
    obtain ⟨y26, h27, hm⟩ := bnd hm
    refine r_sortK (l := y7.l) true s11 (i := 0) rfl h27 fun p28 H29 s30 => ?_
    have s31 : S _ _ [ow p28 (td y26), ow p1 (td y7), en v_things (td x_things) b_things] := s30
    have s32 : S _ _ [ow p28 (td y26), en v_things (td x_things) b_things] := s31.pick [0, 2]
    cases som hm
    exact kQ _ _ s32
def sp_names_of (K : PySem.W.Frag) (ce : Str → Addr) : Sp := fun vs H Q _ => ∃ (Z : Addr → Prop) (L : Lk) (v_ties : V) (x_ties : List (T3 Str Str Str)) (b_ties : Bool) (r : List Str), vs = [v_ties] ∧ S (mk K ce Z L H [en v_ties (td x_ties) b_ties]) H [en v_ties (td x_ties) b_ties] ∧ m_names_of x_ties = some r ∧ ∀ H' w, S (mk K ce Z L H [en v_ties (td x_ties) b_ties]) H' (ow w (td r) :: [en v_ties (td x_ties) b_ties]) → Q (.ref w) H'
theorem ok_names_of {P : Program} {w : World} {K : PySem.W.Frag} {mg : Str → Option Value} {base : Heap} {A : Ad} (T : Txt P K mg A) : FnB P w K mg base 2 A.f__names_of A.d__names_of ["ties"] (sp_names_of K A.ce) := by
  have SC := sc_names_of
  refine Fun.okG0 T.F__names_of sc_names_of (fun vs H Q E h => ?_) (fun cdv Ar outer s9 H vs Q E hr h => ?_)
  · obtain ⟨_, _, _, _, _, _, rfl, _⟩ := h; rfl
  obtain ⟨Z, L, v_ties, x_ties, b_ties, r, rfl, s0, hm, kQ⟩ := h
  refine ⟨_, (pss_one (ps_ret (pe_callG ((ok_ascending_S T).raw0 T.b_ascending) (hr.mono (by decide)) takes0 rfl T.g_ascending T.k_ascending (pa_cons (pe_op op_cat (pe_lc (own := [("_", 1), ("left", 2), ("right", 3)]) (g := gTup _ 3 (gCons (gName 1) (gCons (gName 2) (gCons (gName 3) gNil)))) rfl SC.nd (pi_list (pv 0)) (blkOk_by (own := [("_", 1), ("left", 2), ("right", 3)]) (N := N_names_of) (sc := defScope s_names_of) (by decide +kernel)) (fun _ _ _ _ _ => (pg_tup rfl (pgs_cons (pg_name (i := 1) SC.nd rfl (by first | exact Or.inl rfl | exact Or.inr rfl)) (pgs_cons (pg_name (i := 2) SC.nd rfl (by first | exact Or.inl rfl | exact Or.inr rfl)) (pgs_cons (pg_name (i := 3) SC.nd rfl (by first | exact Or.inl rfl | exact Or.inr rfl)) pgs_nil))))) (fun _ _ _ _ _ => pts_nil) (fun _ _ _ _ _ => (pv 2))) (pe_lc (own := [("_", 1), ("left", 2), ("right", 3)]) (g := gTup _ 3 (gCons (gName 1) (gCons (gName 2) (gCons (gName 3) gNil)))) rfl SC.nd (pi_list (pv 0)) (blkOk_by (own := [("_", 1), ("left", 2), ("right", 3)]) (N := N_names_of) (sc := defScope s_names_of) (by decide +kernel)) (fun _ _ _ _ _ => (pg_tup rfl (pgs_cons (pg_name (i := 1) SC.nd rfl (by first | exact Or.inl rfl | exact Or.inr rfl)) (pgs_cons (pg_name (i := 2) SC.nd rfl (by first | exact Or.inl rfl | exact Or.inr rfl)) (pgs_cons (pg_name (i := 3) SC.nd rfl (by first | exact Or.inl rfl | exact Or.inr rfl)) pgs_nil))))) (fun _ _ _ _ _ => pts_nil) (fun _ _ _ _ _ => (pv 3)))) pa_nil)))), ?_⟩
  refine w_ret ?_
  refine w_callG ?_
  refine w_cons ?_
  refine w_op ?_
  refine w_lcL ?_
  refine w_var rfl ?_
  refine l_lst s0 (k := 0) rfl fun J hJ => ?_
  obtain ⟨y1, h2, hm⟩ := bnd hm
  refine lcB (xs := x_ties) (ys := y1) (f := m_names_of_C1) (w := .lst v_ties) hJ s0 (s0.small (k := 0) rfl) h2 (fun _ hh => ⟨_, 1, _, hh.choose_spec.choose_spec, rfl⟩) (fun d11 o10 D3 acc4 w5 H6 h7 s8 g9 R0 R1 k0 k1 => ?_) ?_
  ·
    replace hm := h7
    have s12 := s8.add (g9 _ 1 _ s8 rfl)
    refine g_tup3 s12 (k := 0) rfl fun v13 v14 v15 s16 => ?_
    obtain rfl : v13 = .str d11.a := (s16.fz (k := 0) rfl).ofSc
    obtain rfl : v14 = .str d11.b := (s16.fz (k := 1) rfl).ofSc
    obtain rfl : v15 = .str d11.c := (s16.fz (k := 2) rfl).ofSc
    have s17 : S _ _ [fz w5 (td d11), ow D3 (td acc4), en v_ties (td x_ties) b_ties] := s16.pick [3, 4, 5]
    refine w_gcons ?_
    refine w_name ?_
    refine w_gcons ?_
    refine w_name ?_
    refine w_gcons ?_
    refine w_name ?_
    refine w_gnil ?_
    refine ⟨rfl, ?_⟩
    refine w_yes ?_
    refine w_tt ?_
    refine w_var rfl ?_
    have s18 : S _ _ [ow D3 (td acc4), en v_ties (td x_ties) b_ties] := s17.pick [1, 2]
    cases som hm
    exact k1 _ rfl _ _ (s18.add (.sc _))
  intro p19 H20 s21
  refine w_lcL ?_
  refine w_var rfl ?_
  refine l_lst s21 (k := 1) rfl fun J hJ => ?_
  obtain ⟨y22, h23, hm⟩ := bnd hm
  refine lcB (xs := x_ties) (ys := y22) (f := m_names_of_C2) (w := .lst v_ties) hJ s21 (s21.small (k := 1) rfl) h23 (fun _ hh => ⟨_, 2, _, hh.choose_spec.choose_spec, rfl⟩) (fun d32 o31 D24 acc25 w26 H27 h28 s29 g30 R0 R1 k0 k1 => ?_) ?_
  ·
    replace hm := h28
    have s33 := s29.add (g30 _ 2 _ s29 rfl)
    refine g_tup3 s33 (k := 0) rfl fun v34 v35 v36 s37 => ?_
    obtain rfl : v34 = .str d32.a := (s37.fz (k := 0) rfl).ofSc
    obtain rfl : v35 = .str d32.b := (s37.fz (k := 1) rfl).ofSc
    obtain rfl : v36 = .str d32.c := (s37.fz (k := 2) rfl).ofSc
    have s38 : S _ _ [fz w26 (td d32), ow D24 (td acc25), ow p19 (td y1), en v_ties (td x_ties) b_ties] := s37.pick [3, 4, 5, 6]
    refine w_gcons ?_
    refine w_name ?_
    refine w_gcons ?_
    refine w_name ?_
    refine w_gcons ?_
    refine w_name ?_
    refine w_gnil ?_
    refine ⟨rfl, ?_⟩
    refine w_yes ?_
    refine w_tt ?_
    refine w_var rfl ?_
    have s39 : S _ _ [ow D24 (td acc25), ow p19 (td y1), en v_ties (td x_ties) b_ties] := s38.pick [1, 2, 3]
    cases som hm
    exact k1 _ rfl _ _ (s39.add (.sc _))
  intro p40 H41 s42
  obtain ⟨y43, h44, hm⟩ := bnd hm
  refine r_catL false s42 (i := 1) (j := 0) rfl rfl h44 fun p45 H46 s47 => ?_
  have s48 : S _ _ [fz (.ref p45) (td y43), ow p40 (td y22), ow p19 (td y1), en v_ties (td x_ties) b_ties] := s47
  refine w_nil ?_
  have s49 := s48.pick (E' := [fz (.ref p45) (td y43)] ++ [ow p40 (td y22), ow p19 (td y1), en v_ties (td x_ties) b_ties]) [0, 1, 2, 3]
  obtain ⟨x50, h51, hm⟩ := bnd hm
  refine ⟨_, _, _, _, _, _, rfl, s49.enter, h51, fun H52 p55 s53 => ?_⟩
  have s54 : S _ _ [ow p55 (td x50), fz (.ref p45) (td y43), ow p40 (td y22), ow p19 (td y1), en v_ties (td x_ties) b_ties] := s49.leave s53
  have s56 : S _ _ [ow p55 (td x50), en v_ties (td x_ties) b_ties] := s54.pick [0, 4]
  cases som hm
  exact kQ _ _ s56
def sp_check_head (K : PySem.W.Frag) (ce : Str → Addr) : Sp := fun vs H Q _ => ∃ (Z : Addr → Prop) (L : Lk) (v_head : V) (x_head : List Str) (b_head : Bool) (v_names : V) (x_names : List Str) (b_names : Bool) (x_most : Int), vs = [v_head, v_names, .int x_most] ∧ S (mk K ce Z L H [en v_head (td x_head) b_head, en v_names (td x_names) b_names]) H [en v_head (td x_head) b_head, en v_names (td x_names) b_names] ∧ m_check_head x_head x_names x_most = some () ∧ ∀ H', S (mk K ce Z L H [en v_head (td x_head) b_head, en v_names (td x_names) b_names]) H' [en v_head (td x_head) b_head, en v_names (td x_names) b_names] → Q .non H'
theorem ok_check_head {P : Program} {w : World} {K : PySem.W.Frag} {mg : Str → Option Value} {base : Heap} {A : Ad} (T : Txt P K mg A) : FnB P w K mg base 1 A.f__check_head A.d__check_head ["head", "names", "most"] (sp_check_head K A.ce) := by
  have SC := sc_check_head
  refine Fun.okG0 T.F__check_head sc_check_head (fun vs H Q E h => ?_) (fun cdv Ar outer s9 H vs Q E hr h => ?_)
  · obtain ⟨_, _, _, _, _, _, _, _, _, rfl, _⟩ := h; rfl
  obtain ⟨Z, L, v_head, x_head, b_head, v_names, x_names, b_names, x_most, rfl, s0, hm, kQ⟩ := h
  refine ⟨_, (pss_cons (ps_if (pt_cmpR op_gt (pe_callB call_lenQ (by rfl) T.n_len PySem.boot_len (pa_cons (pv 0) pa_nil)) (pv 2) (nomark _)) (pss_one ps_never) pss_nil)
    (pss_one (ps_for PassesOwn.never rfl (pi_list (pv 0)) (pg_name (i := 3) SC.nd rfl (by first | exact Or.inl rfl | exact Or.inr rfl)) (pss_one (ps_if (pt_cmpR (op_notInA (α := Str) hr (by decide)) (pv 3) (pv 1) (by rfl)) (pss_one ps_never) pss_nil))))), ?_⟩
  refine w_seq [some (v_head), some (v_names), some (.int x_most), none] rfl ?_
  refine w_if ?_
  refine w_test ?_
  refine w_op ?_
  refine w_cb ?_
  refine w_cons ?_
  refine w_var rfl ?_
  refine w_nil ?_
  refine r_lenQ s0 (k := 0) rfl ?_
  refine w_var rfl ?_
  refine r_I0 ?_
  refine w_bl ?_
  refine w_ite (fun h1 => ?_) (fun h1 => ?_)
  ·
    replace hm := ifT h1 hm
    cases hm
  ·
    replace hm := ifF h1 hm
    refine w_next ?_
    refine w_forL ?_
    refine w_var rfl ?_
    refine l_lst s0 (k := 0) rfl fun J hJ => ?_
    obtain ⟨r2, h3, hm⟩ := bnd hm
    refine forB (c := (mk K A.ce Z L H [en v_head (td x_head) b_head, en v_names (td x_names) b_names])) x_head (w := .lst v_head) hJ (fun l9 σ6 H7 => ∃ (o5 : Option V), σ6 = [some (v_head), some (v_names), some (.int x_most), o5] ∧ S (mk K A.ce Z L H [en v_head (td x_head) b_head, en v_names (td x_names) b_names]) H7 [en v_head (td x_head) b_head, en v_names (td x_names) b_names] ∧ foldO l9 () (m_check_head_L1 x_names) = some r2) ?_ ?_ ?_ ?_
    ·
      exact ⟨_, rfl, s0, h3⟩
    ·
      rintro _ _ _ ⟨o5, rfl, s8, h10⟩; exact ⟨_, 0, _, s8, rfl⟩
    ·
      rintro d11 l9 w12 _ H7 ⟨o5, rfl, s8, h10⟩ g13
      obtain ⟨q14, h15, h16⟩ := fold_cons h10
      have h4 := hm
      replace hm := h15
      obtain rfl : w12 = V.str d11 := (g13 _ 0 _ s8 rfl).ofSc
      refine w_name ?_
      refine w_if ?_
      refine w_test ?_
      refine w_op ?_
      refine w_var rfl ?_
      refine w_var rfl ?_
      refine r_notInS' s8 (j := 1) rfl ?_
      refine w_bl ?_
      refine w_ite (fun h19 => ?_) (fun h19 => ?_)
      ·
        replace hm := ifT h19 hm
        cases hm
      ·
        replace hm := ifF h19 hm
        refine w_next ?_
        cases som hm
        exact ⟨_, rfl, s8, h16⟩
    ·
      rintro _ H7 ⟨o5, rfl, s8, h10⟩
      have e9 := som h10; subst e9
      cases som hm
      exact kQ _ s8
def sp_Question___init__ (K : PySem.W.Frag) (ce : Str → Addr) : Sp := fun vs H Q _ => ∃ (Z : Addr → Prop) (L : Lk) (a_self : Addr) (v_ties : V) (x_ties : List (T3 Str Str Str)) (b_ties : Bool) (v_head : V) (x_head : List Str) (b_head : Bool) (y_self : O_Question), vs = [.ref a_self, v_ties, v_head] ∧ S (mk K ce Z L H [ow a_self (.obj "Question" []), en v_ties (td x_ties) b_ties, en v_head (td x_head) b_head]) H [ow a_self (.obj "Question" []), en v_ties (td x_ties) b_ties, en v_head (td x_head) b_head] ∧ m_Question___init__ x_ties x_head = some y_self ∧ ∀ H', S (mk K ce Z L H [ow a_self (.obj "Question" []), en v_ties (td x_ties) b_ties, en v_head (td x_head) b_head]) H' [ow a_self (td y_self), en v_ties (td x_ties) b_ties, en v_head (td x_head) b_head] → Q .non H'
theorem ok_Question___init__ {P : Program} {w : World} {K : PySem.W.Frag} {mg : Str → Option Value} {base : Heap} {A : Ad} (T : Txt P K mg A) : FnB P w K mg base 3 A.f_Question___init__ A.d_Question___init__ ["self", "ties", "head"] (sp_Question___init__ K A.ce) := by
  have SC := sc_Question___init__
  refine FB.FunD.okG0 T.F_Question___init__ sc_Question___init__ (fun vs H Q E h => ?_) (fun cdv Ar outer s9 H vs Q E hr h => ?_)
  · obtain ⟨_, _, _, _, _, _, _, _, _, _, rfl, _⟩ := h; rfl
  obtain ⟨Z, L, a_self, v_ties, x_ties, b_ties, v_head, x_head, b_head, y_self, rfl, s0, hm, kQ⟩ := h
  refine ⟨_, (pss_cons (ps_expr (pe_callG ((ok_check_words T).raw0 T.b__check_words) (hr.mono (by decide)) takes0 rfl T.g__check_words T.k__check_words (pa_cons (pv 1) (pa_cons (pv 2) pa_nil))))
    (pss_cons (ps_set (i := 3) SC.nd rfl (by first | exact Or.inl rfl | exact Or.inr rfl) (pe_callG ((ok_ascending_T T).raw0 T.b_ascending) (hr.mono (by decide)) takes0 rfl T.g_ascending T.k_ascending (pa_cons (pe_lc (own := [("table", 5), ("left", 6), ("right", 7)]) (g := gTup _ 3 (gCons (gName 5) (gCons (gName 6) (gCons (gName 7) gNil)))) rfl SC.nd (pi_list (pv 1)) (blkOk_by (own := [("table", 5), ("left", 6), ("right", 7)]) (N := N_Question___init__) (sc := defScope s_Question___init__) (by decide +kernel)) (fun _ _ _ _ _ => (pg_tup rfl (pgs_cons (pg_name (i := 5) SC.nd rfl (by first | exact Or.inl rfl | exact Or.inr rfl)) (pgs_cons (pg_name (i := 6) SC.nd rfl (by first | exact Or.inl rfl | exact Or.inr rfl)) (pgs_cons (pg_name (i := 7) SC.nd rfl (by first | exact Or.inl rfl | exact Or.inr rfl)) pgs_nil))))) (fun _ _ _ _ _ => pts_nil) (fun _ _ _ _ _ => (pe_tup (pa_cons (pv 5) (pa_cons (pv 6) (pa_cons (pv 7) pa_nil)))))) pa_nil)))
    (pss_cons (ps_set (i := 4) SC.nd rfl (by first | exact Or.inl rfl | exact Or.inr rfl) (pe_callG ((ok_names_of T).raw0 T.b__names_of) (hr.mono (by decide)) takes0 rfl T.g__names_of T.k__names_of (pa_cons (pv 3) pa_nil)))
    (pss_cons (ps_if (pt_cmpR op_gt (pe_callB call_lenQ (by rfl) T.n_len PySem.boot_len (pa_cons (pv 3) pa_nil)) (pe_con (pv 0) rfl) (nomark _)) (pss_one ps_never) pss_nil)
    (pss_cons (ps_if (pt_cmpR op_gt (pe_callB call_lenQ (by rfl) T.n_len PySem.boot_len (pa_cons (pv 4) pa_nil)) (pe_con (pv 0) rfl) (nomark _)) (pss_one ps_never) pss_nil)
    (pss_cons (ps_expr (pe_callG ((ok_check_head T).raw0 T.b__check_head) (hr.mono (by decide)) takes0 rfl T.g__check_head T.k__check_head (pa_cons (pv 2) (pa_cons (pv 4) (pa_cons (pe_con (pv 0) rfl) pa_nil)))))
    (pss_cons (ps_fld (pv 0) (pv 3) rfl)
    (pss_one (ps_fld (pv 0) (pe_callTy call_tupOf (by rfl) T.n_tuple (by decide +kernel) (pa_cons (pv 2) pa_nil)) rfl))))))))), ?_⟩
  refine w_seq [some (.ref a_self), some (v_ties), some (v_head), none, none, none, none, none] rfl ?_
  refine w_drop ?_
  refine w_callG ?_
  refine w_cons ?_
  refine w_var rfl ?_
  refine w_cons ?_
  refine w_var rfl ?_
  refine w_nil ?_
  have s1 := s0.pick (E' := [en v_ties (td x_ties) b_ties, en v_head (td x_head) b_head] ++ [ow a_self (.obj "Question" [])]) [1, 2, 0]
  obtain ⟨_, h2, hm⟩ := bnd hm
  refine ⟨_, _, _, _, _, _, _, _, rfl, s1.enter, h2, fun H3 s4 => ?_⟩
  have s5 : S _ _ [en v_ties (td x_ties) b_ties, en v_head (td x_head) b_head, ow a_self (.obj "Question" [])] := s1.leave s4
  refine w_seq [some (.ref a_self), some (v_ties), some (v_head), none, none, none, none, none] rfl ?_
  refine w_set ?_
  refine w_callG ?_
  refine w_cons ?_
  refine w_lcL ?_
  refine w_var rfl ?_
  refine l_lst s5 (k := 0) rfl fun J hJ => ?_
  obtain ⟨y6, h7, hm⟩ := bnd hm
  refine lcB (xs := x_ties) (ys := y6) (f := m_Question___init___C1) (w := .lst v_ties) hJ s5 (s5.small (k := 0) rfl) h7 (fun _ hh => ⟨_, 1, _, hh.choose_spec.choose_spec, rfl⟩) (fun d16 o15 D8 acc9 w10 H11 h12 s13 g14 R0 R1 k0 k1 => ?_) ?_
  ·
    replace hm := h12
    have s17 := s13.add (g14 _ 1 _ s13 rfl)
    refine g_tup3 s17 (k := 0) rfl fun v18 v19 v20 s21 => ?_
    obtain rfl : v18 = .str d16.a := (s21.fz (k := 0) rfl).ofSc
    obtain rfl : v19 = .str d16.b := (s21.fz (k := 1) rfl).ofSc
    obtain rfl : v20 = .str d16.c := (s21.fz (k := 2) rfl).ofSc
    have s22 : S _ _ [fz w10 (td d16), ow D8 (td acc9), en v_ties (td x_ties) b_ties, en v_head (td x_head) b_head, ow a_self (.obj "Question" [])] := s21.pick [3, 4, 5, 6, 7]
    refine w_gcons ?_
    refine w_name ?_
    refine w_gcons ?_
    refine w_name ?_
    refine w_gcons ?_
    refine w_name ?_
    refine w_gnil ?_
    refine ⟨rfl, ?_⟩
    refine w_yes ?_
    refine w_tt ?_
    refine w_tup ?_
    refine w_cons ?_
    refine w_var rfl ?_
    refine w_cons ?_
    refine w_var rfl ?_
    refine w_cons ?_
    refine w_var rfl ?_
    refine w_nil ?_
    refine r_tup s22 (.cons (.sc _) (.cons (.sc _) (.cons (.sc _) .nil))) (q := fun p23 H24 s25 => ?_)
    have s26 : S _ _ [fz (.ref p23) (td (⟨d16.a, d16.b, d16.c⟩ : T3 Str Str Str)), fz w10 (td d16), ow D8 (td acc9), en v_ties (td x_ties) b_ties, en v_head (td x_head) b_head, ow a_self (.obj "Question" [])] := s25
    have s27 : S _ _ [fz (.ref p23) (td (⟨d16.a, d16.b, d16.c⟩ : T3 Str Str Str)), ow D8 (td acc9), en v_ties (td x_ties) b_ties, en v_head (td x_head) b_head, ow a_self (.obj "Question" [])] := s26.pick [0, 2, 3, 4, 5]
    cases som hm
    exact k1 _ rfl _ _ s27
  intro p28 H29 s30
  refine w_nil ?_
  have s31 := s30.pick (E' := [ow p28 (td y6)] ++ [en v_ties (td x_ties) b_ties, en v_head (td x_head) b_head, ow a_self (.obj "Question" [])]) [0, 1, 2, 3]
  obtain ⟨x32, h33, hm⟩ := bnd hm
  refine ⟨_, _, _, _, _, _, rfl, s31.enter, h33, fun H34 p37 s35 => ?_⟩
  have s36 : S _ _ [ow p37 (td x32), ow p28 (td y6), en v_ties (td x_ties) b_ties, en v_head (td x_head) b_head, ow a_self (.obj "Question" [])] := s31.leave s35
  have s38 : S _ _ [fz (.ref p37) (td x32), ow p28 (td y6), en v_ties (td x_ties) b_ties, en v_head (td x_head) b_head, ow a_self (.obj "Question" [])] := (s36.pick (E' := [ow p37 (td x32), ow p28 (td y6), en v_ties (td x_ties) b_ties, en v_head (td x_head) b_head, ow a_self (.obj "Question" [])]) [0, 1, 2, 3, 4]).freeze rfl
  refine w_seq [some (.ref a_self), some (v_ties), some (v_head), some (.ref p37), none, none, none, none] rfl ?_
  refine w_set ?_
  refine w_callG ?_
  refine w_cons ?_
  refine w_var rfl ?_
  refine w_nil ?_
  have s39 := s38.pick (E' := [fz (.ref p37) (td x32)] ++ [ow p28 (td y6), en v_ties (td x_ties) b_ties, en v_head (td x_head) b_head, ow a_self (.obj "Question" [])]) [0, 1, 2, 3, 4]
  obtain ⟨x40, h41, hm⟩ := bnd hm
  refine ⟨_, _, _, _, _, _, rfl, s39.enter, h41, fun H42 p45 s43 => ?_⟩
  have s44 : S _ _ [ow p45 (td x40), fz (.ref p37) (td x32), ow p28 (td y6), en v_ties (td x_ties) b_ties, en v_head (td x_head) b_head, ow a_self (.obj "Question" [])] := s39.leave s43
  have s46 : S _ _ [fz (.ref p45) (td x40), fz (.ref p37) (td x32), ow p28 (td y6), en v_ties (td x_ties) b_ties, en v_head (td x_head) b_head, ow a_self (.obj "Question" [])] := (s44.pick (E' := [ow p45 (td x40), fz (.ref p37) (td x32), ow p28 (td y6), en v_ties (td x_ties) b_ties, en v_head (td x_head) b_head, ow a_self (.obj "Question" [])]) [0, 1, 2, 3, 4, 5]).freeze rfl
  refine w_seq [some (.ref a_self), some (v_ties), some (v_head), some (.ref p37), some (.ref p45), none, none, none] rfl ?_
  refine w_if ?_
  refine w_test ?_
  refine w_op ?_
  refine w_cb ?_
  refine w_cons ?_
  refine w_var rfl ?_
  refine w_nil ?_
  refine r_lenQ s46 (k := 1) rfl ?_
  refine w_con ?_
  refine w_var rfl ?_
  refine r_con s46 T.cl_Question T.cc_Question_MOST_TIES.choose_spec (k := 5) (ns := []) rfl rfl (by decide +kernel) ?_
  refine r_I0 ?_
  refine w_bl ?_
  refine w_ite (fun h47 => ?_) (fun h47 => ?_)
  ·
    replace hm := ifT h47 hm
    cases hm
  ·
    replace hm := ifF h47 hm
    refine w_next ?_
    refine w_seq [some (.ref a_self), some (v_ties), some (v_head), some (.ref p37), some (.ref p45), none, none, none] rfl ?_
    refine w_if ?_
    refine w_test ?_
    refine w_op ?_
    refine w_cb ?_
    refine w_cons ?_
    refine w_var rfl ?_
    refine w_nil ?_
    refine r_lenQ s46 (k := 0) rfl ?_
    refine w_con ?_
    refine w_var rfl ?_
    refine r_con s46 T.cl_Question T.cc_Question_MOST_NAMES.choose_spec (k := 5) (ns := []) rfl rfl (by decide +kernel) ?_
    refine r_I0 ?_
    refine w_bl ?_
    refine w_ite (fun h48 => ?_) (fun h48 => ?_)
    ·
      replace hm := ifT h48 hm
      cases hm
    ·
      replace hm := ifF h48 hm
      refine w_next ?_
      refine w_seq [some (.ref a_self), some (v_ties), some (v_head), some (.ref p37), some (.ref p45), none, none, none] rfl ?_
      refine w_drop ?_
      refine w_callG ?_
      refine w_cons ?_
      refine w_var rfl ?_
      refine w_cons ?_
      refine w_var rfl ?_
      refine w_cons ?_
      refine w_con ?_
      refine w_var rfl ?_
      refine r_con s46 T.cl_Question T.cc_Question_MOST_HEAD.choose_spec (k := 5) (ns := []) rfl rfl (by decide +kernel) ?_
      refine w_nil ?_
      have s49 := s46.pick (E' := [en v_head (td x_head) b_head, fz (.ref p45) (td x40)] ++ [fz (.ref p37) (td x32), ow p28 (td y6), en v_ties (td x_ties) b_ties, ow a_self (.obj "Question" [])]) [4, 0, 1, 2, 3, 5]
      obtain ⟨_, h50, hm⟩ := bnd hm
      refine ⟨_, _, _, _, _, _, _, _, _, rfl, s49.enter, h50, fun H51 s52 => ?_⟩
      have s53 : S _ _ [en v_head (td x_head) b_head, fz (.ref p45) (td x40), fz (.ref p37) (td x32), ow p28 (td y6), en v_ties (td x_ties) b_ties, ow a_self (.obj "Question" [])] := s49.leave s52
      refine w_seq [some (.ref a_self), some (v_ties), some (v_head), some (.ref p37), some (.ref p45), none, none, none] rfl ?_
      refine w_asgF ?_
      refine w_var rfl ?_
      refine w_var rfl ?_
      refine r_putNew s53 T.cl_Question T.na_Question__ties (k := 5) (ns := []) rfl rfl (by decide +kernel) (by decide) (s53.fz (k := 2) rfl) fun H54 s55 => ?_
      have s56 : S _ _ [en v_head (td x_head) b_head, fz (.ref p45) (td x40), fz (.ref p37) (td x32), ow p28 (td y6), en v_ties (td x_ties) b_ties, ow a_self (.obj "Question" [("_ties", td x32)])] := s55
      refine w_asgF ?_
      refine w_cb ?_
      refine w_cons ?_
      refine w_var rfl ?_
      refine w_nil ?_
      refine q_tupL s56 (i := 0) rfl fun p57 H58 s59 => ?_
      have s60 : S _ _ [fz (.ref p57) (td (Tp.mk x_head)), en v_head (td x_head) b_head, fz (.ref p45) (td x40), fz (.ref p37) (td x32), ow p28 (td y6), en v_ties (td x_ties) b_ties, ow a_self (.obj "Question" [("_ties", td x32)])] := s59
      refine w_var rfl ?_
      refine r_putNew s60 T.cl_Question T.na_Question__head (k := 6) (ns := ["_ties"]) rfl rfl (by decide +kernel) (by decide) (s60.fz (k := 0) rfl) fun H61 s62 => ?_
      have s63 : S _ _ [fz (.ref p57) (td (Tp.mk x_head)), en v_head (td x_head) b_head, fz (.ref p45) (td x40), fz (.ref p37) (td x32), ow p28 (td y6), en v_ties (td x_ties) b_ties, ow a_self (.obj "Question" [("_ties", td x32), ("_head", td (Tp.mk x_head))])] := s62
      have s64 : S _ _ [ow a_self (.obj "Question" [("_ties", td x32), ("_head", td (Tp.mk x_head))]), en v_ties (td x_ties) b_ties, en v_head (td x_head) b_head] := s63.pick [6, 5, 1]
      cases som hm
      exact kQ _ s64
def sp_read_tie (K : PySem.W.Frag) (ce : Str → Addr) : Sp := fun vs H Q _ => ∃ (Z : Addr → Prop) (L : Lk) (x_text : Str) (r : T3 Str Str Str), vs = [.str x_text] ∧ S (mk K ce Z L H []) H [] ∧ m_read_tie x_text = some r ∧ ∀ H' w, S (mk K ce Z L H []) H' (fz w (td r) :: []) → Q w H'
theorem ok_read_tie {P : Program} {w : World} {K : PySem.W.Frag} {mg : Str → Option Value} {base : Heap} {A : Ad} (T : Txt P K mg A) : FnB P w K mg base 2 A.f_read_tie A.d_read_tie ["text"] (sp_read_tie K A.ce) := by
  have SC := sc_read_tie
  refine Fun.okG0 T.F_read_tie sc_read_tie (fun vs H Q E h => ?_) (fun cdv Ar outer s9 H vs Q E hr h => ?_)
  · obtain ⟨_, _, _, _, rfl, _⟩ := h; rfl
  obtain ⟨Z, L, x_text, r, rfl, s0, hm, kQ⟩ := h
  refine ⟨_, (pss_cons (ps_asg (pe_bm PySem.F.plainAttrs_str PySem.F.slot_str_partition PySem.F.type_str_partition mt_partition' (pv 0) (pa_cons pe_str pa_nil)) (pg_tup rfl (pgs_cons (pg_name (i := 1) SC.nd rfl (by first | exact Or.inl rfl | exact Or.inr rfl)) (pgs_cons (pg_name (i := 2) SC.nd rfl (by first | exact Or.inl rfl | exact Or.inr rfl)) (pgs_cons (pg_name (i := 3) SC.nd rfl (by first | exact Or.inl rfl | exact Or.inr rfl)) pgs_nil)))))
    (pss_cons (ps_set (i := 4) SC.nd rfl (by first | exact Or.inl rfl | exact Or.inr rfl) (pe_bm PySem.F.plainAttrs_str PySem.F.slot_str_split PySem.F.type_str_split mt_split' (pe_slice sl_str (pv 3) po_none (po_some (pe_un un_neg pe_int))) (pa_cons pe_str pa_nil)))
    (pss_cons (ps_if (PW.pt (pw_or (pt_cmpR op_eq (pv 2) pe_str (nomark _)) (pw_or (pt_not (pt_val (pe_bm PySem.F.plainAttrs_str PySem.F.slot_str_endswith PySem.F.type_str_endswith mt_endswith' (pv 3) (pa_cons pe_str pa_nil)))) (pw_or1 (pt_cmpR op_ne (pe_callB call_lenQ (by rfl) T.n_len PySem.boot_len (pa_cons (pv 4) pa_nil)) pe_int (nomark _)))))) (pss_one ps_never) pss_nil)
    (pss_cons (ps_if (pt_not (PW.pt (pw_and (pt_val (pe_callG ((ok_is_table T).raw0 T.b_is_table) (hr.mono (by decide)) takes0 rfl T.g_is_table T.k_is_table (pa_cons (pv 1) pa_nil))) (pw_and (pt_val (pe_callG ((ok_is_name T).raw0 T.b_is_name) (hr.mono (by decide)) takes0 rfl T.g_is_name T.k_is_name (pa_cons (pe_ix ix_list (pv 4) pe_int (fun _ _ => rfl)) pa_nil))) (pw_and1 (pt_val (pe_callG ((ok_is_name T).raw0 T.b_is_name) (hr.mono (by decide)) takes0 rfl T.g_is_name T.k_is_name (pa_cons (pe_ix ix_list (pv 4) pe_int (fun _ _ => rfl)) pa_nil)))))))) (pss_one ps_never) pss_nil)
    (pss_one (ps_ret (pe_tup (pa_cons (pv 1) (pa_cons (pe_ix ix_list (pv 4) pe_int (fun _ _ => rfl)) (pa_cons (pe_ix ix_list (pv 4) pe_int (fun _ _ => rfl)) pa_nil)))))))))), ?_⟩
  refine w_seq [some (.str x_text), none, none, none, none] rfl ?_
  refine w_asgT ?_
  refine w_bm ?_
  refine w_var rfl ?_
  refine ⟨rfl, ?_⟩
  refine w_cons ?_
  refine w_c ?_
  refine w_nil ?_
  obtain ⟨y1, h2, hm⟩ := bnd hm
  refine r_part s0 h2 fun p3 H4 s5 => ?_
  have s6 : S _ _ [fz (.ref p3) (td y1)] := s5
  refine g_tup3 s6 (k := 0) rfl fun v7 v8 v9 s10 => ?_
  obtain rfl : v7 = .str y1.a := (s10.fz (k := 0) rfl).ofSc
  obtain rfl : v8 = .str y1.b := (s10.fz (k := 1) rfl).ofSc
  obtain rfl : v9 = .str y1.c := (s10.fz (k := 2) rfl).ofSc
  have s11 : S _ _ [fz (.ref p3) (td y1)] := s10.pick [3]
  refine w_gcons ?_
  refine w_name ?_
  refine w_gcons ?_
  refine w_name ?_
  refine w_gcons ?_
  refine w_name ?_
  refine w_gnil ?_
  refine w_seq [some (.str x_text), some (.str y1.a), some (.str y1.b), some (.str y1.c), none] rfl ?_
  refine w_set ?_
  refine w_bm ?_
  refine w_sl ?_
  refine w_var rfl ?_
  refine w_noPart ?_
  refine w_part ?_
  refine w_un ?_
  refine w_c ?_
  refine r_U ?_
  refine w_int ?_
  obtain ⟨x12, h13, hm⟩ := bnd hm
  refine r_cutS h13 ?_
  refine ⟨rfl, ?_⟩
  refine w_cons ?_
  refine w_c ?_
  refine w_nil ?_
  obtain ⟨y14, h15, hm⟩ := bnd hm
  obtain ⟨_, h16, hm⟩ := bnd hm
  refine r_split false s11 h15 (fitL_of h16) fun p17 H18 s19 => ?_
  have s20 : S _ _ [fz (.ref p17) (td y14), fz (.ref p3) (td y1)] := s19
  refine w_seq [some (.str x_text), some (.str y1.a), some (.str y1.b), some (.str y1.c), some (.ref p17)] rfl ?_
  refine w_if ?_
  obtain ⟨b21, h22, hm⟩ := bnd hm
  refine cutT (P := fun v H9 => v = b21 ∧ S (mk K A.ce Z L H []) H9 [fz (.ref p17) (td y14), fz (.ref p3) (td y1)]) (fun Q9 k9 => ?_) ?_
  ·
    replace hm := h22
    refine w_or ?_
    refine w_test ?_
    refine w_op ?_
    refine w_var rfl ?_
    refine w_c ?_
    refine r_eqS ?_
    refine w_bl ?_
    refine w_ite (fun h25 => ?_) (fun h25 => ?_)
    ·
      replace hm := ifT h25 hm
      cases som hm
      exact k9 _ _ ⟨rfl, s20⟩
    ·
      replace hm := ifF h25 hm
      obtain ⟨b26, h27, hm⟩ := bnd hm
      refine cutT (P := fun v H9 => v = b26 ∧ S (mk K A.ce Z L H []) H9 [fz (.ref p17) (td y14), fz (.ref p3) (td y1)]) (fun Q9 k9 => ?_) ?_
      ·
        replace hm := h27
        refine w_or ?_
        refine w_not ?_
        refine w_B ?_
        refine w_bm ?_
        refine w_var rfl ?_
        refine ⟨rfl, ?_⟩
        refine w_cons ?_
        refine w_c ?_
        refine w_nil ?_
        refine r_endS ?_
        refine w_bl ?_
        refine w_ite (fun h30 => ?_) (fun h30 => ?_)
        ·
          replace hm := ifT h30 hm
          cases som hm
          exact k9 _ _ ⟨rfl, s20⟩
        ·
          replace hm := ifF h30 hm
          refine w_test ?_
          refine w_op ?_
          refine w_cb ?_
          refine w_cons ?_
          refine w_var rfl ?_
          refine w_nil ?_
          refine r_lenQ s20 (k := 0) rfl ?_
          refine w_c ?_
          refine r_neI ?_
          refine w_bl ?_
          cases som hm
          exact k9 _ _ ⟨rfl, s20⟩
      rintro _ H28 ⟨rfl, s29⟩
      cases som hm
      exact k9 _ _ ⟨rfl, s29⟩
  rintro _ H23 ⟨rfl, s24⟩
  refine w_ite (fun h31 => ?_) (fun h31 => ?_)
  ·
    replace hm := ifT h31 hm
    cases hm
  ·
    replace hm := ifF h31 hm
    refine w_next ?_
    refine w_seq [some (.str x_text), some (.str y1.a), some (.str y1.b), some (.str y1.c), some (.ref p17)] rfl ?_
    refine w_if ?_
    refine w_not ?_
    obtain ⟨b32, h33, hm⟩ := bnd hm
    refine cutT (P := fun v H9 => v = b32 ∧ S (mk K A.ce Z L H []) H9 [fz (.ref p17) (td y14), fz (.ref p3) (td y1)]) (fun Q9 k9 => ?_) ?_
    ·
      replace hm := h33
      refine w_and ?_
      refine w_B ?_
      refine w_callG ?_
      refine w_cons ?_
      refine w_var rfl ?_
      refine w_nil ?_
      have s36 := s24.pick (E' := [] ++ [fz (.ref p17) (td y14), fz (.ref p3) (td y1)]) [0, 1]
      obtain ⟨x37, h38, hm⟩ := bnd hm
      refine ⟨_, _, _, _, rfl, s36.enter, h38, fun H39 s40 => ?_⟩
      have s41 : S _ _ [fz (.ref p17) (td y14), fz (.ref p3) (td y1)] := s36.leave s40
      refine w_bl ?_
      refine w_ite (fun h42 => ?_) (fun h42 => ?_)
      ·
        replace hm := ifT h42 hm
        obtain ⟨b43, h44, hm⟩ := bnd hm
        refine cutT (P := fun v H9 => v = b43 ∧ S (mk K A.ce Z L H []) H9 [fz (.ref p17) (td y14), fz (.ref p3) (td y1)]) (fun Q9 k9 => ?_) ?_
        ·
          replace hm := h44
          refine w_and ?_
          refine w_B ?_
          refine w_callG ?_
          refine w_cons ?_
          refine w_op ?_
          refine w_var rfl ?_
          refine w_c ?_
          obtain ⟨x47, h48, hm⟩ := bnd hm
          refine r_ixLs s41 (k := 0) rfl h48 ?_
          refine w_nil ?_
          have s49 := s41.pick (E' := [] ++ [fz (.ref p17) (td y14), fz (.ref p3) (td y1)]) [0, 1]
          obtain ⟨x50, h51, hm⟩ := bnd hm
          refine ⟨_, _, _, _, rfl, s49.enter, h51, fun H52 s53 => ?_⟩
          have s54 : S _ _ [fz (.ref p17) (td y14), fz (.ref p3) (td y1)] := s49.leave s53
          refine w_bl ?_
          refine w_ite (fun h55 => ?_) (fun h55 => ?_)
          ·
            replace hm := ifT h55 hm
            refine w_B ?_
            refine w_callG ?_
            refine w_cons ?_
            refine w_op ?_
            refine w_var rfl ?_
            refine w_c ?_
            obtain ⟨x56, h57, hm⟩ := bnd hm
            refine r_ixLs s54 (k := 0) rfl h57 ?_
            refine w_nil ?_
            have s58 := s54.pick (E' := [] ++ [fz (.ref p17) (td y14), fz (.ref p3) (td y1)]) [0, 1]
            obtain ⟨x59, h60, hm⟩ := bnd hm
            refine ⟨_, _, _, _, rfl, s58.enter, h60, fun H61 s62 => ?_⟩
            have s63 : S _ _ [fz (.ref p17) (td y14), fz (.ref p3) (td y1)] := s58.leave s62
            refine w_bl ?_
            cases som hm
            exact k9 _ _ ⟨rfl, s63⟩
          ·
            replace hm := ifF h55 hm
            cases som hm
            exact k9 _ _ ⟨rfl, s54⟩
        rintro _ H45 ⟨rfl, s46⟩
        cases som hm
        exact k9 _ _ ⟨rfl, s46⟩
      ·
        replace hm := ifF h42 hm
        cases som hm
        exact k9 _ _ ⟨rfl, s41⟩
    rintro _ H34 ⟨rfl, s35⟩
    refine w_ite (fun h64 => ?_) (fun h64 => ?_)
    ·
      replace hm := ifT h64 hm
      cases hm
    ·
      replace hm := ifF h64 hm
      refine w_next ?_
      refine w_ret ?_
      refine w_tup ?_
      refine w_cons ?_
      refine w_var rfl ?_
      refine w_cons ?_
      refine w_op ?_
      refine w_var rfl ?_
      refine w_c ?_
      obtain ⟨x65, h66, hm⟩ := bnd hm
      refine r_ixLs s35 (k := 0) rfl h66 ?_
      refine w_cons ?_
      refine w_op ?_
      refine w_var rfl ?_
      refine w_c ?_
      obtain ⟨x67, h68, hm⟩ := bnd hm
      refine r_ixLs s35 (k := 0) rfl h68 ?_
      refine w_nil ?_
      refine r_tup s35 (.cons (.sc _) (.cons (.sc _) (.cons (.sc _) .nil))) (q := fun p69 H70 s71 => ?_)
      have s72 : S _ _ [fz (.ref p69) (td (⟨y1.a, x65, x67⟩ : T3 Str Str Str)), fz (.ref p17) (td y14), fz (.ref p3) (td y1)] := s71
      have s73 : S _ _ [fz (.ref p69) (td (⟨y1.a, x65, x67⟩ : T3 Str Str Str))] := s72.pick [0]
      cases som hm
      exact kQ _ _ s73
def sp_Question_read (K : PySem.W.Frag) (ce : Str → Addr) : Sp := fun vs H Q _ => ∃ (Z : Addr → Prop) (L : Lk) (x_text : Str) (r : O_Question), vs = [.ref (ce "Question"), .str x_text] ∧ S (mk K ce Z L H []) H [] ∧ m_Question_read x_text = some r ∧ ∀ H' w, S (mk K ce Z L H []) H' (ow w (td r) :: []) → Q (.ref w) H'
theorem ok_Question_read {P : Program} {w : World} {K : PySem.W.Frag} {mg : Str → Option Value} {base : Heap} {A : Ad} (T : Txt P K mg A) : FnB P w K mg base 5 A.f_Question_read A.d_Question_read ["cls", "text"] (sp_Question_read K A.ce) := by
  have SC := sc_Question_read
  refine Fun.okG0 T.F_Question_read sc_Question_read (fun vs H Q E h => ?_) (fun cdv Ar outer s9 H vs Q E hr h => ?_)
  · obtain ⟨_, _, _, _, rfl, _⟩ := h; rfl
  obtain ⟨Z, L, x_text, r, rfl, s0, hm, kQ⟩ := h
  refine ⟨_, (pss_cons (ps_asg (pe_bm PySem.F.plainAttrs_str PySem.F.slot_str_partition PySem.F.type_str_partition mt_partition' (pv 1) (pa_cons pe_str pa_nil)) (pg_tup rfl (pgs_cons (pg_name (i := 2) SC.nd rfl (by first | exact Or.inl rfl | exact Or.inr rfl)) (pgs_cons (pg_name (i := 3) SC.nd rfl (by first | exact Or.inl rfl | exact Or.inr rfl)) (pgs_cons (pg_name (i := 4) SC.nd rfl (by first | exact Or.inl rfl | exact Or.inr rfl)) pgs_nil)))))
    (pss_cons (ps_if (PW.pt (pw_or (pt_cmpR op_eq (pv 3) pe_str (nomark _)) (pw_or (pt_not (pt_val (pe_bm PySem.F.plainAttrs_str PySem.F.slot_str_startswith PySem.F.type_str_startswith mt_startswith' (pv 2) (pa_cons pe_str pa_nil)))) (pw_or1 (PW.pt (pw_and (pt_cmpR op_ne (pv 4) pe_str (nomark _)) (pw_and1 (pt_not (pt_val (pe_bm PySem.F.plainAttrs_str PySem.F.slot_str_startswith PySem.F.type_str_startswith mt_startswith' (pv 4) (pa_cons pe_str pa_nil))))))))))) (pss_one ps_never) pss_nil)
    (pss_cons (ps_set (i := 5) SC.nd rfl (by first | exact Or.inl rfl | exact Or.inr rfl) (pe_ifExp (pt_cmpR op_eq (pv 2) pe_str (nomark _)) (pe_lst pa_nil) (pe_bm PySem.F.plainAttrs_str PySem.F.slot_str_split PySem.F.type_str_split mt_split' (pe_slice sl_str (pv 2) (po_some pe_int) po_none) (pa_cons pe_str pa_nil))))
    (pss_cons (ps_if (pt_not (pt_val (pe_callB (cr_all rfl) (by rfl) T.n_all (by decide +kernel) (pa_cons (pe_lc (own := [("name", 9)]) (g := gName 9) rfl SC.nd (pi_list (pv 5)) (blkOk_by (own := [("name", 9)]) (N := N_Question_read) (sc := defScope s_Question_read) (by decide +kernel)) (fun _ _ _ _ _ => (pg_name (i := 9) SC.nd rfl (by first | exact Or.inl rfl | exact Or.inr rfl))) (fun _ _ _ _ _ => pts_nil) (fun _ _ _ _ _ => (pe_callG ((ok_is_name T).raw0 T.b_is_name) (hr.mono (by decide)) takes0 rfl T.g_is_name T.k_is_name (pa_cons (pv 9) pa_nil)))) pa_nil)))) (pss_one ps_never) pss_nil)
    (pss_cons (ps_set (i := 6) SC.nd rfl (by first | exact Or.inl rfl | exact Or.inr rfl) (pe_lst pa_nil))
    (Evl.pss_cut (ps_if (pt_cmpR op_ne (pv 4) pe_str (nomark _)) (pss_cons (ps_asg (pe_bm PySem.F.plainAttrs_str PySem.F.slot_str_split PySem.F.type_str_split mt_split' (pe_slice sl_str (pv 4) (po_some pe_int) po_none) (pa_cons pe_str pa_nil)) (pg_stL rfl (pgs_star (pg_name (i := 7) SC.nd rfl (by first | exact Or.inl rfl | exact Or.inr rfl)) (pgs_cons (pg_name (i := 8) SC.nd rfl (by first | exact Or.inl rfl | exact Or.inr rfl)) pgs_nil))))
    (pss_one (ps_try_thru0 (pss_one (ps_set (i := 6) SC.nd rfl (by first | exact Or.inl rfl | exact Or.inr rfl) (pe_op op_cat (pe_lc (own := [("piece", 10)]) (g := gName 10) rfl SC.nd (pi_list (pv 7)) (blkOk_by (own := [("piece", 10)]) (N := N_Question_read) (sc := defScope s_Question_read) (by decide +kernel)) (fun _ _ _ _ _ => (pg_name (i := 10) SC.nd rfl (by first | exact Or.inl rfl | exact Or.inr rfl))) (fun _ _ _ _ _ => pts_nil) (fun _ _ _ _ _ => (pe_callG ((ok_read_tie T).raw0 T.b_read_tie) (hr.mono (by decide)) takes0 rfl T.g_read_tie T.k_read_tie (pa_cons (pe_op op_addT (pv 10) pe_str) pa_nil)))) (pe_lst (pa_cons (pe_callG ((ok_read_tie T).raw0 T.b_read_tie) (hr.mono (by decide)) takes0 rfl T.g_read_tie T.k_read_tie (pa_cons (pv 8) pa_nil)) pa_nil)))))))) pss_nil)
    (pss_one (ps_ret (pe_makeL (i := 0) T.mk_Question ((ok_Question___init__ T).raw0 T.b_Question___init__) (hr.mono (by decide)) takes0 rfl (by first | exact Or.inl rfl | exact Or.inr rfl) (pa_cons (pv 6) (pa_cons (pv 5) pa_nil))))))))))), ?_⟩
  refine w_seq [some (.ref (A.ce "Question")), some (.str x_text), none, none, none, none, none, none, none, none, none] rfl ?_
  refine w_asgT ?_
  refine w_bm ?_
  refine w_var rfl ?_
  refine ⟨rfl, ?_⟩
  refine w_cons ?_
  refine w_c ?_
  refine w_nil ?_
  obtain ⟨y1, h2, hm⟩ := bnd hm
  refine r_part s0 h2 fun p3 H4 s5 => ?_
  have s6 : S _ _ [fz (.ref p3) (td y1)] := s5
  refine g_tup3 s6 (k := 0) rfl fun v7 v8 v9 s10 => ?_
  obtain rfl : v7 = .str y1.a := (s10.fz (k := 0) rfl).ofSc
  obtain rfl : v8 = .str y1.b := (s10.fz (k := 1) rfl).ofSc
  obtain rfl : v9 = .str y1.c := (s10.fz (k := 2) rfl).ofSc
  have s11 : S _ _ [fz (.ref p3) (td y1)] := s10.pick [3]
  refine w_gcons ?_
  refine w_name ?_
  refine w_gcons ?_
  refine w_name ?_
  refine w_gcons ?_
  refine w_name ?_
  refine w_gnil ?_
  refine w_seq [some (.ref (A.ce "Question")), some (.str x_text), some (.str y1.a), some (.str y1.b), some (.str y1.c), none, none, none, none, none, none] rfl ?_
  refine w_if ?_
  obtain ⟨b12, h13, hm⟩ := bnd hm
  refine cutT (P := fun v H9 => v = b12 ∧ S (mk K A.ce Z L H []) H9 [fz (.ref p3) (td y1)]) (fun Q9 k9 => ?_) ?_
  ·
    replace hm := h13
    refine w_or ?_
    refine w_test ?_
    refine w_op ?_
    refine w_var rfl ?_
    refine w_c ?_
    refine r_eqS ?_
    refine w_bl ?_
    refine w_ite (fun h16 => ?_) (fun h16 => ?_)
    ·
      replace hm := ifT h16 hm
      cases som hm
      exact k9 _ _ ⟨rfl, s11⟩
    ·
      replace hm := ifF h16 hm
      obtain ⟨b17, h18, hm⟩ := bnd hm
      refine cutT (P := fun v H9 => v = b17 ∧ S (mk K A.ce Z L H []) H9 [fz (.ref p3) (td y1)]) (fun Q9 k9 => ?_) ?_
      ·
        replace hm := h18
        refine w_or ?_
        refine w_not ?_
        refine w_B ?_
        refine w_bm ?_
        refine w_var rfl ?_
        refine ⟨rfl, ?_⟩
        refine w_cons ?_
        refine w_c ?_
        refine w_nil ?_
        refine r_startS ?_
        refine w_bl ?_
        refine w_ite (fun h21 => ?_) (fun h21 => ?_)
        ·
          replace hm := ifT h21 hm
          cases som hm
          exact k9 _ _ ⟨rfl, s11⟩
        ·
          replace hm := ifF h21 hm
          obtain ⟨b22, h23, hm⟩ := bnd hm
          refine cutT (P := fun v H9 => v = b22 ∧ S (mk K A.ce Z L H []) H9 [fz (.ref p3) (td y1)]) (fun Q9 k9 => ?_) ?_
          ·
            replace hm := h23
            refine w_and ?_
            refine w_test ?_
            refine w_op ?_
            refine w_var rfl ?_
            refine w_c ?_
            refine r_neS ?_
            refine w_bl ?_
            refine w_ite (fun h26 => ?_) (fun h26 => ?_)
            ·
              replace hm := ifT h26 hm
              refine w_not ?_
              refine w_B ?_
              refine w_bm ?_
              refine w_var rfl ?_
              refine ⟨rfl, ?_⟩
              refine w_cons ?_
              refine w_c ?_
              refine w_nil ?_
              refine r_startS ?_
              refine w_bl ?_
              cases som hm
              exact k9 _ _ ⟨rfl, s11⟩
            ·
              replace hm := ifF h26 hm
              cases som hm
              exact k9 _ _ ⟨rfl, s11⟩
          rintro _ H24 ⟨rfl, s25⟩
          cases som hm
          exact k9 _ _ ⟨rfl, s25⟩
      rintro _ H19 ⟨rfl, s20⟩
      cases som hm
      exact k9 _ _ ⟨rfl, s20⟩
  rintro _ H14 ⟨rfl, s15⟩
  refine w_ite (fun h27 => ?_) (fun h27 => ?_)
  ·
    replace hm := ifT h27 hm
    cases hm
  ·
    replace hm := ifF h27 hm
    refine w_next ?_
    refine w_seq [some (.ref (A.ce "Question")), some (.str x_text), some (.str y1.a), some (.str y1.b), some (.str y1.c), none, none, none, none, none, none] rfl ?_
    refine w_set ?_
    obtain ⟨x28, h29, hm⟩ := bnd hm
    refine cutE (P := fun v H9 => S (mk K A.ce Z L H []) H9 [fz v (td x28), fz (.ref p3) (td y1)]) (fun Q9 k9 => ?_) ?_
    ·
      replace hm := h29
      refine w_ifx ?_
      refine w_test ?_
      refine w_op ?_
      refine w_var rfl ?_
      refine w_c ?_
      refine r_eqS ?_
      refine w_bl ?_
      refine w_ite (fun h33 => ?_) (fun h33 => ?_)
      ·
        replace hm := ifT h33 hm
        refine w_lst ?_
        refine w_nil ?_
        refine r_lst s15 (.nil) (q := fun p34 H35 s36 => ?_)
        have s37 : S _ _ [fz (.ref p34) (td ([] : List Str)), fz (.ref p3) (td y1)] := s36
        cases som hm
        exact k9 _ _ s37
      ·
        replace hm := ifF h33 hm
        refine w_bm ?_
        refine w_sl ?_
        refine w_var rfl ?_
        refine w_part ?_
        refine w_c ?_
        refine w_int ?_
        refine w_noPart ?_
        obtain ⟨x38, h39, hm⟩ := bnd hm
        refine r_cutS h39 ?_
        refine ⟨rfl, ?_⟩
        refine w_cons ?_
        refine w_c ?_
        refine w_nil ?_
        obtain ⟨y40, h41, hm⟩ := bnd hm
        obtain ⟨_, h42, hm⟩ := bnd hm
        refine r_split false s15 h41 (fitL_of h42) fun p43 H44 s45 => ?_
        have s46 : S _ _ [fz (.ref p43) (td y40), fz (.ref p3) (td y1)] := s45
        cases som hm
        exact k9 _ _ s46
    rintro v32 H30 s31
    refine w_seq [some (.ref (A.ce "Question")), some (.str x_text), some (.str y1.a), some (.str y1.b), some (.str y1.c), some (v32), none, none, none, none, none] rfl ?_
    refine w_if ?_
    refine w_not ?_
    refine w_B ?_
    refine w_cb ?_
    refine w_cons ?_
    refine w_lcL ?_
    refine w_var rfl ?_
    refine l_lst s31 (k := 0) rfl fun J hJ => ?_
    obtain ⟨y47, h48, hm⟩ := bnd hm
    refine lcB (xs := x28) (ys := y47) (f := m_Question_read_C1) (w := .lst v32) hJ s31 (s31.small (k := 0) rfl) h48 (fun _ hh => ⟨_, 1, _, hh.choose_spec.choose_spec, rfl⟩) (fun d57 o56 D49 acc50 w51 H52 h53 s54 g55 R0 R1 k0 k1 => ?_) ?_
    ·
      replace hm := h53
      obtain rfl : w51 = V.str d57 := (g55 _ 1 _ s54 rfl).ofSc
      refine w_name ?_
      refine ⟨rfl, ?_⟩
      refine w_yes ?_
      refine w_tt ?_
      refine w_callG ?_
      refine w_cons ?_
      refine w_var rfl ?_
      refine w_nil ?_
      have s58 := s54.pick (E' := [] ++ [ow D49 (td acc50), fz v32 (td x28), fz (.ref p3) (td y1)]) [0, 1, 2]
      obtain ⟨x59, h60, hm⟩ := bnd hm
      refine ⟨_, _, _, _, rfl, s58.enter, h60, fun H61 s62 => ?_⟩
      have s63 : S _ _ [ow D49 (td acc50), fz v32 (td x28), fz (.ref p3) (td y1)] := s58.leave s62
      cases som hm
      exact k1 _ rfl _ _ (s63.add (.sc _))
    intro p64 H65 s66
    refine w_nil ?_
    refine r_all s66 (k := 0) rfl ?_
    refine w_bl ?_
    refine w_ite (fun h67 => ?_) (fun h67 => ?_)
    ·
      replace hm := ifT h67 hm
      cases hm
    ·
      replace hm := ifF h67 hm
      refine w_next ?_
      refine w_seq [some (.ref (A.ce "Question")), some (.str x_text), some (.str y1.a), some (.str y1.b), some (.str y1.c), some (v32), none, none, none, none, none] rfl ?_
      refine w_set ?_
      refine w_lst ?_
      refine w_nil ?_
      refine r_lst s66 (.nil) (q := fun p68 H69 s70 => ?_)
      have s71 : S _ _ [fz (.ref p68) (td ([] : List (T3 Str Str Str))), ow p64 (td y47), fz v32 (td x28), fz (.ref p3) (td y1)] := s70
      obtain ⟨x72, h76, hm⟩ := bnd hm
      refine w_cut [some (.ref (A.ce "Question")), some (.str x_text), some (.str y1.a), some (.str y1.b), some (.str y1.c), some (v32), some (.ref p68), none, none, none, none] rfl (fun σ79 H77 => ∃ (o74 : Option V) (o75 : Option V) (v73 : V), σ79 = [some (.ref (A.ce "Question")), some (.str x_text), some (.str y1.a), some (.str y1.b), some (.str y1.c), some (v32), some (v73), o74, o75, none, none] ∧ S (mk K A.ce Z L H []) H77 [fz v73 (td x72), fz (.ref p68) (td ([] : List (T3 Str Str Str))), ow p64 (td y47), fz v32 (td x28), fz (.ref p3) (td y1)]) ?_ ?_
      ·
        replace hm := h76
        refine w_if ?_
        refine w_test ?_
        refine w_op ?_
        refine w_var rfl ?_
        refine w_c ?_
        refine r_neS ?_
        refine w_bl ?_
        refine w_ite (fun h80 => ?_) (fun h80 => ?_)
        ·
          replace hm := ifT h80 hm
          refine w_seq [some (.ref (A.ce "Question")), some (.str x_text), some (.str y1.a), some (.str y1.b), some (.str y1.c), some (v32), some (.ref p68), none, none, none, none] rfl ?_
          refine w_asgT ?_
          refine w_bm ?_
          refine w_sl ?_
          refine w_var rfl ?_
          refine w_part ?_
          refine w_c ?_
          refine w_int ?_
          refine w_noPart ?_
          obtain ⟨x81, h82, hm⟩ := bnd hm
          refine r_cutS h82 ?_
          refine ⟨rfl, ?_⟩
          refine w_cons ?_
          refine w_c ?_
          refine w_nil ?_
          obtain ⟨y83, h84, hm⟩ := bnd hm
          obtain ⟨_, h85, hm⟩ := bnd hm
          refine r_split false s71 h84 (fitL_of h85) fun p86 H87 s88 => ?_
          have s89 : S _ _ [fz (.ref p86) (td y83), fz (.ref p68) (td ([] : List (T3 Str Str Str))), ow p64 (td y47), fz v32 (td x28), fz (.ref p3) (td y1)] := s88
          obtain ⟨⟨y90, z91⟩, h92, hm⟩ := bnd hm
          refine g_stL false s89 (k := 0) rfl h92 fun p93 w94 H95 s96 => ?_
          obtain rfl : w94 = .str z91 := (s96.fz (k := 1) rfl).ofSc
          have s97 : S _ _ [fz (.ref p93) (td y90), fz (.ref p86) (td y83), fz (.ref p68) (td ([] : List (T3 Str Str Str))), ow p64 (td y47), fz v32 (td x28), fz (.ref p3) (td y1)] := s96.pick [0, 2, 3, 4, 5, 6]
          refine w_gcons ?_
          refine w_name ?_
          refine w_gcons ?_
          refine w_name ?_
          refine w_gnil ?_
          refine w_set ?_
          refine w_op ?_
          refine w_lcL ?_
          refine w_var rfl ?_
          refine l_lst s97 (k := 0) rfl fun J hJ => ?_
          obtain ⟨y98, h99, hm⟩ := bnd hm
          refine lcB (xs := y90) (ys := y98) (f := m_Question_read_C2) (w := .lst (.ref p93)) hJ s97 (s97.small (k := 0) rfl) h99 (fun _ hh => ⟨_, 1, _, hh.choose_spec.choose_spec, rfl⟩) (fun d108 o107 D100 acc101 w102 H103 h104 s105 g106 R0 R1 k0 k1 => ?_) ?_
          ·
            replace hm := h104
            obtain rfl : w102 = V.str d108 := (g106 _ 1 _ s105 rfl).ofSc
            refine w_name ?_
            refine ⟨rfl, ?_⟩
            refine w_yes ?_
            refine w_tt ?_
            refine w_callG ?_
            refine w_cons ?_
            refine w_op ?_
            refine w_var rfl ?_
            refine w_c ?_
            obtain ⟨x109, h110, hm⟩ := bnd hm
            refine r_addS h110 ?_
            refine w_nil ?_
            have s111 := s105.pick (E' := [] ++ [ow D100 (td acc101), fz (.ref p93) (td y90), fz (.ref p86) (td y83), fz (.ref p68) (td ([] : List (T3 Str Str Str))), ow p64 (td y47), fz v32 (td x28), fz (.ref p3) (td y1)]) [0, 1, 2, 3, 4, 5, 6]
            obtain ⟨x112, h113, hm⟩ := bnd hm
            refine ⟨_, _, _, _, rfl, s111.enter, h113, fun H114 v117 s115 => ?_⟩
            have s116 : S _ _ [fz v117 (td x112), ow D100 (td acc101), fz (.ref p93) (td y90), fz (.ref p86) (td y83), fz (.ref p68) (td ([] : List (T3 Str Str Str))), ow p64 (td y47), fz v32 (td x28), fz (.ref p3) (td y1)] := s111.leave s115
            cases som hm
            exact k1 _ rfl _ _ s116
          intro p118 H119 s120
          refine w_lst ?_
          refine w_cons ?_
          refine w_callG ?_
          refine w_cons ?_
          refine w_var rfl ?_
          refine w_nil ?_
          have s121 := s120.pick (E' := [] ++ [ow p118 (td y98), fz (.ref p93) (td y90), fz (.ref p86) (td y83), fz (.ref p68) (td ([] : List (T3 Str Str Str))), ow p64 (td y47), fz v32 (td x28), fz (.ref p3) (td y1)]) [0, 1, 2, 3, 4, 5, 6]
          obtain ⟨x122, h123, hm⟩ := bnd hm
          refine ⟨_, _, _, _, rfl, s121.enter, h123, fun H124 v127 s125 => ?_⟩
          have s126 : S _ _ [fz v127 (td x122), ow p118 (td y98), fz (.ref p93) (td y90), fz (.ref p86) (td y83), fz (.ref p68) (td ([] : List (T3 Str Str Str))), ow p64 (td y47), fz v32 (td x28), fz (.ref p3) (td y1)] := s121.leave s125
          refine w_nil ?_
          refine r_lst s126 (.cons (s126.fz (k := 0) rfl) .nil) (q := fun p128 H129 s130 => ?_)
          have s131 : S _ _ [fz (.ref p128) (td ([x122] : List (T3 Str Str Str))), fz v127 (td x122), ow p118 (td y98), fz (.ref p93) (td y90), fz (.ref p86) (td y83), fz (.ref p68) (td ([] : List (T3 Str Str Str))), ow p64 (td y47), fz v32 (td x28), fz (.ref p3) (td y1)] := s130
          obtain ⟨y132, h133, hm⟩ := bnd hm
          refine r_catL false s131 (i := 2) (j := 0) rfl rfl h133 fun p134 H135 s136 => ?_
          have s137 : S _ _ [fz (.ref p134) (td y132), fz (.ref p128) (td ([x122] : List (T3 Str Str Str))), fz v127 (td x122), ow p118 (td y98), fz (.ref p93) (td y90), fz (.ref p86) (td y83), fz (.ref p68) (td ([] : List (T3 Str Str Str))), ow p64 (td y47), fz v32 (td x28), fz (.ref p3) (td y1)] := s136
          have s138 : S _ _ [fz (.ref p134) (td y132), fz (.ref p68) (td ([] : List (T3 Str Str Str))), ow p64 (td y47), fz v32 (td x28), fz (.ref p3) (td y1)] := s137.pick [0, 6, 7, 8, 9]
          cases som hm
          exact ⟨_, _, _, rfl, s138⟩
        ·
          replace hm := ifF h80 hm
          refine w_next ?_
          have s139 : S _ _ [fz (.ref p68) (td ([] : List (T3 Str Str Str))), fz (.ref p68) (td ([] : List (T3 Str Str Str))), ow p64 (td y47), fz v32 (td x28), fz (.ref p3) (td y1)] := s71.add (s71.fz (k := 0) rfl)
          cases som hm
          exact ⟨_, _, _, rfl, s139⟩
      rintro _ H77 ⟨o74, o75, v73, rfl, s78⟩
      refine w_ret ?_
      refine ⟨rfl, ?_⟩
      refine w_make ?_
      refine w_cons ?_
      refine w_var rfl ?_
      refine w_cons ?_
      refine w_var rfl ?_
      refine w_nil ?_
      refine r_make (cn := "Question") s78 fun p140 H141 s142 => ?_
      have s143 : S _ _ [ow p140 (.obj "Question" []), fz v73 (td x72), fz (.ref p68) (td ([] : List (T3 Str Str Str))), ow p64 (td y47), fz v32 (td x28), fz (.ref p3) (td y1)] := s142
      have s144 := s143.pick (E' := [ow p140 (.obj "Question" []), fz v73 (td x72), fz v32 (td x28)] ++ [fz (.ref p68) (td ([] : List (T3 Str Str Str))), ow p64 (td y47), fz (.ref p3) (td y1)]) [0, 1, 4, 2, 3, 5]
      obtain ⟨y145, h146, hm⟩ := bnd hm
      refine ⟨_, _, _, _, _, _, _, _, _, _, rfl, s144.enter, h146, fun H147 s148 => ?_⟩
      have s149 : S _ _ [ow p140 (td y145), fz v73 (td x72), fz v32 (td x28), fz (.ref p68) (td ([] : List (T3 Str Str Str))), ow p64 (td y47), fz (.ref p3) (td y1)] := s144.leave s148
      refine ⟨rfl, ?_⟩
      have s150 : S _ _ [ow p140 (td y145)] := s149.pick [0]
      cases som hm
      exact kQ _ _ s150
def sp_Question_names (K : PySem.W.Frag) (ce : Str → Addr) : Sp := fun vs H Q _ => ∃ (Z : Addr → Prop) (L : Lk) (v_self : V) (x_self : O_Question) (b_self : Bool) (r : List Str), vs = [v_self] ∧ S (mk K ce Z L H [en v_self (td x_self) b_self]) H [en v_self (td x_self) b_self] ∧ m_Question_names x_self = some r ∧ ∀ H' w, S (mk K ce Z L H [en v_self (td x_self) b_self]) H' (ow w (td r) :: [en v_self (td x_self) b_self]) → Q (.ref w) H'
theorem ok_Question_names {P : Program} {w : World} {K : PySem.W.Frag} {mg : Str → Option Value} {base : Heap} {A : Ad} (T : Txt P K mg A) : FnB P w K mg base 3 A.f_Question_names A.d_Question_names ["self"] (sp_Question_names K A.ce) := by
  have SC := sc_Question_names
  refine Fun.okG0 T.F_Question_names sc_Question_names (fun vs H Q E h => ?_) (fun cdv Ar outer s9 H vs Q E hr h => ?_)
  · obtain ⟨_, _, _, _, _, _, rfl, _⟩ := h; rfl
  obtain ⟨Z, L, v_self, x_self, b_self, r, rfl, s0, hm, kQ⟩ := h
  refine ⟨_, (pss_one (ps_ret (pe_callG ((ok_names_of T).raw0 T.b__names_of) (hr.mono (by decide)) takes0 rfl T.g__names_of T.k__names_of (pa_cons (pe_fld (pv 0) rfl) pa_nil)))), ?_⟩
  refine w_ret ?_
  refine w_callG ?_
  refine w_cons ?_
  refine w_fld ?_
  refine w_var rfl ?_
  refine r_fld s0 T.cl_Question T.na_Question__ties (ns := nm_Question) (by decide +kernel) (k := 0) rfl rfl (i := 0) rfl fun v1 s2 => ?_
  have s3 : S _ _ [fz v1 (td x_self.f_ties), en v_self (td x_self) b_self] := s2
  refine w_nil ?_
  have s4 := s3.pick (E' := [fz v1 (td x_self.f_ties)] ++ [en v_self (td x_self) b_self]) [0, 1]
  obtain ⟨x5, h6, hm⟩ := bnd hm
  refine ⟨_, _, _, _, _, _, rfl, s4.enter, h6, fun H7 p10 s8 => ?_⟩
  have s9 : S _ _ [ow p10 (td x5), fz v1 (td x_self.f_ties), en v_self (td x_self) b_self] := s4.leave s8
  have s11 : S _ _ [ow p10 (td x5), en v_self (td x_self) b_self] := s9.pick [0, 2]
  cases som hm
  exact kQ _ _ s11
def sp_law_rank_S (K : PySem.W.Frag) (ce : Str → Addr) : Sp := fun vs H Q _ => ∃ (Z : Addr → Prop) (L : Lk) (v_law_things : V) (x_law_things : List Str) (b_law_things : Bool) (r : List Str), vs = [v_law_things] ∧ S (mk K ce Z L H [en v_law_things (td x_law_things) b_law_things]) H [en v_law_things (td x_law_things) b_law_things] ∧ m_law_rank_S x_law_things = some r ∧ ∀ H' w, S (mk K ce Z L H [en v_law_things (td x_law_things) b_law_things]) H' (fz w (td r) :: [en v_law_things (td x_law_things) b_law_things]) → Q w H'
theorem ok_law_rank_S {P : Program} {w : World} {K : PySem.W.Frag} {mg : Str → Option Value} {base : Heap} {A : Ad} (T : Txt P K mg A) : FnB P w K mg base 1 A.f__law_rank A.d__law_rank ["_law_things"] (sp_law_rank_S K A.ce) := by
  have SC := sc_law_rank_S
  refine Fun.okG0 T.F__law_rank sc_law_rank_S (fun vs H Q E h => ?_) (fun cdv Ar outer s9 H vs Q E hr h => ?_)
  · obtain ⟨_, _, _, _, _, _, rfl, _⟩ := h; rfl
  obtain ⟨Z, L, v_law_things, x_law_things, b_law_things, r, rfl, s0, hm, kQ⟩ := h
  refine ⟨_, (pss_cons (ps_set (i := 1) SC.nd rfl (by first | exact Or.inl rfl | exact Or.inr rfl) (pe_lst pa_nil))
    (pss_cons (ps_for PassesOwn.never rfl (pi_list (pv 0)) (pg_name (i := 2) SC.nd rfl (by first | exact Or.inl rfl | exact Or.inr rfl)) (pss_one (ps_if (pt_cmpR (op_notInA (α := Str) hr (by decide)) (pv 2) (pv 1) (by rfl)) (pss_one (ps_expr (pe_bm PySem.F.plainAttrs_list PySem.F.slot_list_append PySem.F.type_list_append mt_append (pv 1) (pa_cons (pv 2) pa_nil)))) pss_nil)))
    (pss_one (ps_ret (pe_callBK (cr_sortKey hr) (by rfl) T.n_sorted (by decide +kernel) (pa_cons (pv 1) pa_nil) (pk_cons (pe_bltn (v := .ty "str") (u := .type "str") (by rfl) T.n_str (by decide +kernel) rfl) pk_nil)))))), ?_⟩
  refine w_seq [some (v_law_things), none, none] rfl ?_
  refine w_set ?_
  refine w_lst ?_
  refine w_nil ?_
  refine r_lstO s0 (.nil) (q := fun p1 H2 s3 => ?_)
  have s4 : S _ _ [ow p1 (td ([] : List Str)), en v_law_things (td x_law_things) b_law_things] := s3
  refine w_seq [some (v_law_things), some (.ref p1), none] rfl ?_
  refine w_forL ?_
  refine w_var rfl ?_
  refine l_lst s4 (k := 1) rfl fun J hJ => ?_
  obtain ⟨r5, h6, hm⟩ := bnd hm
  refine forB (c := (mk K A.ce Z L H [en v_law_things (td x_law_things) b_law_things])) x_law_things (w := .lst v_law_things) hJ (fun l13 σ10 H11 => ∃ (y8 : List Str) (o9 : Option V), σ10 = [some (v_law_things), some (.ref p1), o9] ∧ S (mk K A.ce Z L H [en v_law_things (td x_law_things) b_law_things]) H11 [ow p1 (td y8), en v_law_things (td x_law_things) b_law_things] ∧ foldO l13 y8 m_law_rank_S_L1 = some r5) ?_ ?_ ?_ ?_
  ·
    exact ⟨_, _, rfl, s4, h6⟩
  ·
    rintro _ _ _ ⟨y8, o9, rfl, s12, h14⟩; exact ⟨_, 1, _, s12, rfl⟩
  ·
    rintro d15 l13 w16 _ H11 ⟨y8, o9, rfl, s12, h14⟩ g17
    obtain ⟨q18, h19, h20⟩ := fold_cons h14
    have h7 := hm
    replace hm := h19
    obtain rfl : w16 = V.str d15 := (g17 _ 1 _ s12 rfl).ofSc
    refine w_name ?_
    refine w_if ?_
    refine w_test ?_
    refine w_op ?_
    refine w_var rfl ?_
    refine w_var rfl ?_
    refine r_notInS' s12 (j := 0) rfl ?_
    refine w_bl ?_
    refine w_ite (fun h23 => ?_) (fun h23 => ?_)
    ·
      replace hm := ifT h23 hm
      refine w_drop ?_
      refine w_bm ?_
      refine w_var rfl ?_
      refine ⟨s12.tyL (k := 0) rfl, ?_⟩
      refine w_cons ?_
      refine w_var rfl ?_
      refine w_nil ?_
      obtain ⟨y24, h25, hm⟩ := bnd hm
      refine r_appL s12 (k := 0) (x := d15) rfl (.sc _) h25 fun H26 s27 => ?_
      cases som hm
      exact ⟨_, _, rfl, s27, h20⟩
    ·
      replace hm := ifF h23 hm
      refine w_next ?_
      cases som hm
      exact ⟨_, _, rfl, s12, h20⟩
  ·
    rintro _ H11 ⟨y8, o9, rfl, s12, h14⟩
    have e9 := som h14; subst e9
    refine w_ret ?_
    refine w_ckw ?_
    refine w_cons ?_
    refine w_var rfl ?_
    refine w_nil ?_
    refine w_kw ?_
    refine w_cons ?_
    refine w_c ?_
    refine w_nil ?_
    obtain ⟨y28, h29, hm⟩ := bnd hm
    refine r_sortL false s12 (i := 0) rfl h29 fun p30 H31 s32 => ?_
    have s33 : S _ _ [fz (.ref p30) (td y28), ow p1 (td y8), en v_law_things (td x_law_things) b_law_things] := s32
    have s34 : S _ _ [fz (.ref p30) (td y28), en v_law_things (td x_law_things) b_law_things] := s33.pick [0, 2]
    cases som hm
    exact kQ _ _ s34
def sp_Question_tables (K : PySem.W.Frag) (ce : Str → Addr) : Sp := fun vs H Q _ => ∃ (Z : Addr → Prop) (L : Lk) (v_self : V) (x_self : O_Question) (b_self : Bool) (r : List Str), vs = [v_self] ∧ S (mk K ce Z L H [en v_self (td x_self) b_self]) H [en v_self (td x_self) b_self] ∧ m_Question_tables x_self = some r ∧ ∀ H' w, S (mk K ce Z L H [en v_self (td x_self) b_self]) H' (ow w (td r) :: [en v_self (td x_self) b_self]) → Q (.ref w) H'
theorem ok_Question_tables {P : Program} {w : World} {K : PySem.W.Frag} {mg : Str → Option Value} {base : Heap} {A : Ad} (T : Txt P K mg A) : FnB P w K mg base 2 A.f_Question_tables A.d_Question_tables ["self"] (sp_Question_tables K A.ce) := by
  have SC := sc_Question_tables
  refine Fun.okG0 T.F_Question_tables sc_Question_tables (fun vs H Q E h => ?_) (fun cdv Ar outer s9 H vs Q E hr h => ?_)
  · obtain ⟨_, _, _, _, _, _, rfl, _⟩ := h; rfl
  obtain ⟨Z, L, v_self, x_self, b_self, r, rfl, s0, hm, kQ⟩ := h
  refine ⟨_, (pss_one (ps_ret (pe_callG ((ok_ascending_S T).raw0 T.b_ascending) (hr.mono (by decide)) takes0 rfl T.g_ascending T.k_ascending (pa_cons (pe_lc (own := [("tie", 1)]) (g := gName 1) rfl SC.nd (pi_list (pe_fld (pv 0) rfl)) (blkOk_by (own := [("tie", 1)]) (N := N_Question_tables) (sc := defScope s_Question_tables) (by decide +kernel)) (fun _ _ _ _ _ => (pg_name (i := 1) SC.nd rfl (by first | exact Or.inl rfl | exact Or.inr rfl))) (fun _ _ _ _ _ => pts_nil) (fun _ _ _ _ _ => (pe_ix (show IxR _ (rIxT K) from ix_tup) (pv 1) pe_int (fun _ _ => rfl)))) pa_nil)))), ?_⟩
  refine w_ret ?_
  refine w_callG ?_
  refine w_cons ?_
  refine w_lcL ?_
  refine w_fld ?_
  refine w_var rfl ?_
  refine r_fld s0 T.cl_Question T.na_Question__ties (ns := nm_Question) (by decide +kernel) (k := 0) rfl rfl (i := 0) rfl fun v1 s2 => ?_
  have s3 : S _ _ [fz v1 (td x_self.f_ties), en v_self (td x_self) b_self] := s2
  refine l_lst s3 (k := 0) rfl fun J hJ => ?_
  obtain ⟨y4, h5, hm⟩ := bnd hm
  refine lcB (xs := x_self.f_ties) (ys := y4) (f := m_Question_tables_C1) (w := .lst v1) hJ s3 (s3.small (k := 0) rfl) h5 (fun _ hh => ⟨_, 1, _, hh.choose_spec.choose_spec, rfl⟩) (fun d14 o13 D6 acc7 w8 H9 h10 s11 g12 R0 R1 k0 k1 => ?_) ?_
  ·
    replace hm := h10
    have s15 := s11.add (g12 _ 1 _ s11 rfl)
    refine w_name ?_
    refine ⟨rfl, ?_⟩
    refine w_yes ?_
    refine w_tt ?_
    refine w_op ?_
    refine w_var rfl ?_
    refine w_c ?_
    refine r_ixTdv s15 (k := 0) rfl rfl ?_
    have s16 : S _ _ [ow D6 (td acc7), fz v1 (td x_self.f_ties), en v_self (td x_self) b_self] := s15.pick [1, 2, 3]
    cases som hm
    exact k1 _ rfl _ _ (s16.add (.sc _))
  intro p17 H18 s19
  refine w_nil ?_
  have s20 := s19.pick (E' := [ow p17 (td y4)] ++ [fz v1 (td x_self.f_ties), en v_self (td x_self) b_self]) [0, 1, 2]
  obtain ⟨x21, h22, hm⟩ := bnd hm
  refine ⟨_, _, _, _, _, _, rfl, s20.enter, h22, fun H23 p26 s24 => ?_⟩
  have s25 : S _ _ [ow p26 (td x21), ow p17 (td y4), fz v1 (td x_self.f_ties), en v_self (td x_self) b_self] := s20.leave s24
  have s27 : S _ _ [ow p26 (td x21), en v_self (td x_self) b_self] := s25.pick [0, 3]
  cases som hm
  exact kQ _ _ s27
def sp_Question_head (K : PySem.W.Frag) (ce : Str → Addr) : Sp := fun vs H Q _ => ∃ (Z : Addr → Prop) (L : Lk) (v_self : V) (x_self : O_Question) (b_self : Bool) (r : Tp Str), vs = [v_self] ∧ S (mk K ce Z L H [en v_self (td x_self) b_self]) H [en v_self (td x_self) b_self] ∧ m_Question_head x_self = some r ∧ ∀ H' w, S (mk K ce Z L H [en v_self (td x_self) b_self]) H' (fz w (td r) :: [en v_self (td x_self) b_self]) → Q w H'
theorem ok_Question_head {P : Program} {w : World} {K : PySem.W.Frag} {mg : Str → Option Value} {base : Heap} {A : Ad} (T : Txt P K mg A) : FnB P w K mg base 1 A.f_Question_head A.d_Question_head ["self"] (sp_Question_head K A.ce) := by
  have SC := sc_Question_head
  refine Fun.okG0 T.F_Question_head sc_Question_head (fun vs H Q E h => ?_) (fun cdv Ar outer s9 H vs Q E hr h => ?_)
  · obtain ⟨_, _, _, _, _, _, rfl, _⟩ := h; rfl
  obtain ⟨Z, L, v_self, x_self, b_self, r, rfl, s0, hm, kQ⟩ := h
  unfold m_Question_head at hm
  refine ⟨_, (pss_one (ps_ret (pe_fld (pv 0) rfl))), ?_⟩
  refine w_ret ?_
  refine w_fld ?_
  refine w_var rfl ?_
  refine r_fld s0 T.cl_Question T.na_Question__head (ns := nm_Question) (by decide +kernel) (k := 0) rfl rfl (i := 1) rfl fun v1 s2 => ?_
  have s3 : S _ _ [fz v1 (td x_self.f_head), en v_self (td x_self) b_self] := s2
  cases som hm
  exact kQ _ _ s3
def sp_law_same_Q (K : PySem.W.Frag) (ce : Str → Addr) : Sp := fun vs H Q _ => ∃ (Z : Addr → Prop) (L : Lk) (v_law_actual : V) (x_law_actual : List (Tp Str)) (b_law_actual : Bool) (v_law_expected : V) (x_law_expected : List (Tp Str)) (b_law_expected : Bool) (r : Bool), vs = [v_law_actual, v_law_expected] ∧ S (mk K ce Z L H [en v_law_actual (td x_law_actual) b_law_actual, en v_law_expected (td x_law_expected) b_law_expected]) H [en v_law_actual (td x_law_actual) b_law_actual, en v_law_expected (td x_law_expected) b_law_expected] ∧ m_law_same_Q x_law_actual x_law_expected = some r ∧ ∀ H', S (mk K ce Z L H [en v_law_actual (td x_law_actual) b_law_actual, en v_law_expected (td x_law_expected) b_law_expected]) H' [en v_law_actual (td x_law_actual) b_law_actual, en v_law_expected (td x_law_expected) b_law_expected] → Q (.bl r) H'
theorem ok_law_same_Q {P : Program} {w : World} {K : PySem.W.Frag} {mg : Str → Option Value} {base : Heap} {A : Ad} (T : Txt P K mg A) : FnB P w K mg base 1 A.f__law_same A.d__law_same ["_law_actual", "_law_expected"] (sp_law_same_Q K A.ce) := by
  have SC := sc_law_same_Q
  refine Fun.okG0 T.F__law_same sc_law_same_Q (fun vs H Q E h => ?_) (fun cdv Ar outer s9 H vs Q E hr h => ?_)
  · obtain ⟨_, _, _, _, _, _, _, _, _, rfl, _⟩ := h; rfl
  obtain ⟨Z, L, v_law_actual, x_law_actual, b_law_actual, v_law_expected, x_law_expected, b_law_expected, r, rfl, s0, hm, kQ⟩ := h
  refine ⟨_, (pss_cons (ps_if (PW.pt (pw_or (pt_not (pt_val (pe_callB call_isi (by rfl) T.n_isinstance (by decide +kernel) (pa_cons (pv 0) (pa_cons (pe_bltn (v := .ty "list") (u := .type "list") (by rfl) T.n_list (by decide +kernel) rfl) pa_nil))))) (pw_or1 (pt_cmpR op_ne (pe_callB call_lenQ (by rfl) T.n_len PySem.boot_len (pa_cons (pv 0) pa_nil)) (pe_callB call_lenQ (by rfl) T.n_len PySem.boot_len (pa_cons (pv 1) pa_nil)) (nomark _))))) (pss_one (ps_ret pe_bl)) pss_nil)
    (pss_cons (ps_for PassesOwn.never rfl (pi_range1 rfl T.n_range (pa_cons (pe_callB call_lenQ (by rfl) T.n_len PySem.boot_len (pa_cons (pv 1) pa_nil)) pa_nil)) (pg_name (i := 2) SC.nd rfl (by first | exact Or.inl rfl | exact Or.inr rfl)) (pss_cons (ps_if (PW.pt (pw_or (pt_not (pt_val (pe_callB call_isi (by rfl) T.n_isinstance (by decide +kernel) (pa_cons (pe_ix ix_list (pv 0) (pv 2) (fun _ _ => rfl)) (pa_cons (pe_bltn (v := .ty "tuple") (u := .type "tuple") (by rfl) T.n_tuple (by decide +kernel) rfl) pa_nil))))) (pw_or1 (pt_cmpR op_ne (pe_callB call_lenQ (by rfl) T.n_len PySem.boot_len (pa_cons (pe_ix ix_list (pv 0) (pv 2) (fun _ _ => rfl)) pa_nil)) (pe_callB call_lenQ (by rfl) T.n_len PySem.boot_len (pa_cons (pe_ix ix_list (pv 1) (pv 2) (fun _ _ => rfl)) pa_nil)) (nomark _))))) (pss_one (ps_ret pe_bl)) pss_nil)
    (pss_one (ps_for PassesOwn.never rfl (pi_range1 rfl T.n_range (pa_cons (pe_callB call_lenQ (by rfl) T.n_len PySem.boot_len (pa_cons (pe_ix ix_list (pv 1) (pv 2) (fun _ _ => rfl)) pa_nil)) pa_nil)) (pg_name (i := 3) SC.nd rfl (by first | exact Or.inl rfl | exact Or.inr rfl)) (pss_cons (ps_set (i := 4) SC.nd rfl (by first | exact Or.inl rfl | exact Or.inr rfl) (pe_ix ix_tup (pe_ix ix_list (pv 0) (pv 2) (fun _ _ => rfl)) (pv 3) (fun _ _ => rfl)))
    (pss_one (ps_if (PW.pt (pw_or (pt_not (pt_val (pe_callB call_isi (by rfl) T.n_isinstance (by decide +kernel) (pa_cons (pv 4) (pa_cons (pe_bltn (v := .ty "str") (u := .type "str") (by rfl) T.n_str (by decide +kernel) rfl) pa_nil))))) (pw_or1 (pt_cmpR op_ne (pv 4) (pe_ix ix_tup (pe_ix ix_list (pv 1) (pv 2) (fun _ _ => rfl)) (pv 3) (fun _ _ => rfl)) (nomark _))))) (pss_one (ps_ret pe_bl)) pss_nil)))))))
    (pss_one (ps_ret pe_bl)))), ?_⟩
  refine w_seq [some (v_law_actual), some (v_law_expected), none, none, none] rfl ?_
  refine w_if ?_
  obtain ⟨b1, h2, hm⟩ := bnd hm
  refine cutT (P := fun v H9 => v = b1 ∧ S (mk K A.ce Z L H [en v_law_actual (td x_law_actual) b_law_actual, en v_law_expected (td x_law_expected) b_law_expected]) H9 [en v_law_actual (td x_law_actual) b_law_actual, en v_law_expected (td x_law_expected) b_law_expected]) (fun Q9 k9 => ?_) ?_
  ·
    replace hm := h2
    refine w_or ?_
    refine w_not ?_
    refine w_B ?_
    refine w_cb ?_
    refine w_cons ?_
    refine w_var rfl ?_
    refine w_cons ?_
    refine w_c ?_
    refine w_nil ?_
    refine r_isiL (b1 := true) s0 (k := 0) rfl (by decide +kernel) ?_
    refine w_bl ?_
    refine w_ite (fun h5 => ?_) (fun h5 => ?_)
    ·
      replace hm := ifT h5 hm
      cases som hm
      exact k9 _ _ ⟨rfl, s0⟩
    ·
      replace hm := ifF h5 hm
      refine w_test ?_
      refine w_op ?_
      refine w_cb ?_
      refine w_cons ?_
      refine w_var rfl ?_
      refine w_nil ?_
      refine r_lenQ s0 (k := 0) rfl ?_
      refine w_cb ?_
      refine w_cons ?_
      refine w_var rfl ?_
      refine w_nil ?_
      refine r_lenQ s0 (k := 1) rfl ?_
      refine r_neI ?_
      refine w_bl ?_
      cases som hm
      exact k9 _ _ ⟨rfl, s0⟩
  rintro _ H3 ⟨rfl, s4⟩
  refine w_ite (fun h6 => ?_) (fun h6 => ?_)
  ·
    replace hm := ifT h6 hm
    refine w_ret ?_
    refine w_c ?_
    cases som hm
    exact kQ _ s4
  ·
    replace hm := ifF h6 hm
    refine w_next ?_
    refine w_seq [some (v_law_actual), some (v_law_expected), none, none, none] rfl ?_
    refine w_forR ?_
    refine w_cons ?_
    refine w_cb ?_
    refine w_cons ?_
    refine w_var rfl ?_
    refine w_nil ?_
    refine r_lenQ s4 (k := 1) rfl ?_
    refine w_nil ?_
    obtain ⟨x8, h7, hm⟩ := bnd hm
    refine r_rng h7 ?_
    obtain ⟨r9, h10, hm⟩ := bnd hm
    refine forB (c := (mk K A.ce Z L H [en v_law_actual (td x_law_actual) b_law_actual, en v_law_expected (td x_law_expected) b_law_expected])) x8 (w := .rng 0 ((x_law_expected).length : Int)) rfl (fun l18 σ15 H16 => ∃ (o12 : Option V) (o13 : Option V) (o14 : Option V), σ15 = [some (v_law_actual), some (v_law_expected), o12, o13, o14] ∧ S (mk K A.ce Z L H [en v_law_actual (td x_law_actual) b_law_actual, en v_law_expected (td x_law_expected) b_law_expected]) H16 [en v_law_actual (td x_law_actual) b_law_actual, en v_law_expected (td x_law_expected) b_law_expected] ∧ loopO l18 () (m_law_same_Q_L1 x_law_actual x_law_expected) = some r9) ?_ ?_ ?_ ?_
    ·
      exact ⟨_, _, _, rfl, s4, h10⟩
    ·
      rintro _ _ _ ⟨o12, o13, o14, rfl, s17, h19⟩; exact rng_at h7
    ·
      rintro d20 l18 w21 _ H16 ⟨o12, o13, o14, rfl, s17, h19⟩ g22
      obtain ⟨q23, h24, h25, h26, h27⟩ := loop_cons h19
      have h11 := hm
      replace hm := h24
      obtain rfl : V.int d20 = w21 := gv_sc g22
      refine w_name ?_
      refine w_seq [some (v_law_actual), some (v_law_expected), some (.int d20), o13, o14] rfl ?_
      refine w_if ?_
      obtain ⟨b28, h29, hm⟩ := bnd hm
      refine cutT (P := fun v H9 => v = b28 ∧ S (mk K A.ce Z L H [en v_law_actual (td x_law_actual) b_law_actual, en v_law_expected (td x_law_expected) b_law_expected]) H9 [en v_law_actual (td x_law_actual) b_law_actual, en v_law_expected (td x_law_expected) b_law_expected]) (fun Q9 k9 => ?_) ?_
      ·
        replace hm := h29
        refine w_or ?_
        refine w_not ?_
        refine w_B ?_
        refine w_cb ?_
        refine w_cons ?_
        refine w_op ?_
        refine w_var rfl ?_
        refine w_var rfl ?_
        obtain ⟨x32, h33, hm⟩ := bnd hm
        refine r_ixL s17 (k := 0) rfl h33 fun v34 s35 => ?_
        refine w_cons ?_
        refine w_c ?_
        refine w_nil ?_
        refine r_isiT (b1 := true) s35 (k := 0) rfl (by decide +kernel) ?_
        refine w_bl ?_
        refine w_ite (fun h36 => ?_) (fun h36 => ?_)
        ·
          replace hm := ifT h36 hm
          have s37 : S _ _ [en v_law_actual (td x_law_actual) b_law_actual, en v_law_expected (td x_law_expected) b_law_expected] := s35.pick [1, 2]
          cases som hm
          exact k9 _ _ ⟨rfl, s37⟩
        ·
          replace hm := ifF h36 hm
          refine w_test ?_
          refine w_op ?_
          refine w_cb ?_
          refine w_cons ?_
          refine w_op ?_
          refine w_var rfl ?_
          refine w_var rfl ?_
          obtain ⟨x38, h39, hm⟩ := bnd hm
          refine r_ixL s35 (k := 1) rfl h39 fun v40 s41 => ?_
          refine w_nil ?_
          refine r_lenTp s41 (k := 0) rfl ?_
          refine w_cb ?_
          refine w_cons ?_
          refine w_op ?_
          refine w_var rfl ?_
          refine w_var rfl ?_
          obtain ⟨x42, h43, hm⟩ := bnd hm
          refine r_ixL s41 (k := 3) rfl h43 fun v44 s45 => ?_
          refine w_nil ?_
          refine r_lenTp s45 (k := 0) rfl ?_
          refine r_neI ?_
          refine w_bl ?_
          have s46 : S _ _ [en v_law_actual (td x_law_actual) b_law_actual, en v_law_expected (td x_law_expected) b_law_expected] := s45.pick [3, 4]
          cases som hm
          exact k9 _ _ ⟨rfl, s46⟩
      rintro _ H30 ⟨rfl, s31⟩
      refine w_ite (fun h47 => ?_) (fun h47 => ?_)
      ·
        replace hm := ifT h47 hm
        refine w_ret ?_
        refine w_c ?_
        have e9 := h27 _ (som hm).symm
        rw [e9] at h11
        cases som h11
        exact kQ _ s31
      ·
        replace hm := ifF h47 hm
        refine w_next ?_
        refine w_forR ?_
        refine w_cons ?_
        refine w_cb ?_
        refine w_cons ?_
        refine w_op ?_
        refine w_var rfl ?_
        refine w_var rfl ?_
        obtain ⟨x48, h49, hm⟩ := bnd hm
        refine r_ixL s31 (k := 1) rfl h49 fun v50 s51 => ?_
        refine w_nil ?_
        refine r_lenTp s51 (k := 0) rfl ?_
        refine w_nil ?_
        obtain ⟨x53, h52, hm⟩ := bnd hm
        refine r_rng h52 ?_
        obtain ⟨r54, h55, hm⟩ := bnd hm
        refine forB (c := (mk K A.ce Z L H [en v_law_actual (td x_law_actual) b_law_actual, en v_law_expected (td x_law_expected) b_law_expected])) x53 (w := .rng 0 ((x48.l).length : Int)) rfl (fun l62 σ59 H60 => ∃ (o57 : Option V) (o58 : Option V), σ59 = [some (v_law_actual), some (v_law_expected), some (.int d20), o57, o58] ∧ S (mk K A.ce Z L H [en v_law_actual (td x_law_actual) b_law_actual, en v_law_expected (td x_law_expected) b_law_expected]) H60 [fz v50 (td x48), en v_law_actual (td x_law_actual) b_law_actual, en v_law_expected (td x_law_expected) b_law_expected] ∧ loopO l62 () (m_law_same_Q_L2 x_law_actual x_law_expected d20) = some r54) ?_ ?_ ?_ ?_
        ·
          exact ⟨_, _, rfl, s51, h55⟩
        ·
          rintro _ _ _ ⟨o57, o58, rfl, s61, h63⟩; exact rng_at h52
        ·
          rintro d64 l62 w65 _ H60 ⟨o57, o58, rfl, s61, h63⟩ g66
          obtain ⟨q67, h68, h69, h70, h71⟩ := loop_cons h63
          have h56 := hm
          replace hm := h68
          obtain rfl : V.int d64 = w65 := gv_sc g66
          refine w_name ?_
          refine w_seq [some (v_law_actual), some (v_law_expected), some (.int d20), some (.int d64), o58] rfl ?_
          refine w_set ?_
          refine w_op ?_
          refine w_op ?_
          refine w_var rfl ?_
          refine w_var rfl ?_
          obtain ⟨x72, h73, hm⟩ := bnd hm
          refine r_ixL s61 (k := 1) rfl h73 fun v74 s75 => ?_
          refine w_var rfl ?_
          obtain ⟨x76, h77, hm⟩ := bnd hm
          refine r_ixTs s75 (k := 0) rfl h77 ?_
          refine w_if ?_
          obtain ⟨b78, h79, hm⟩ := bnd hm
          refine cutT (P := fun v H9 => v = b78 ∧ S (mk K A.ce Z L H [en v_law_actual (td x_law_actual) b_law_actual, en v_law_expected (td x_law_expected) b_law_expected]) H9 [fz v74 (td x72), fz v50 (td x48), en v_law_actual (td x_law_actual) b_law_actual, en v_law_expected (td x_law_expected) b_law_expected]) (fun Q9 k9 => ?_) ?_
          ·
            replace hm := h79
            refine w_or ?_
            refine w_not ?_
            refine w_B ?_
            refine w_cb ?_
            refine w_cons ?_
            refine w_var rfl ?_
            refine w_cons ?_
            refine w_c ?_
            refine w_nil ?_
            refine r_isi (b := true) (.str _) (by decide +kernel) ?_
            refine w_bl ?_
            refine w_ite (fun h82 => ?_) (fun h82 => ?_)
            ·
              replace hm := ifT h82 hm
              cases som hm
              exact k9 _ _ ⟨rfl, s75⟩
            ·
              replace hm := ifF h82 hm
              refine w_test ?_
              refine w_op ?_
              refine w_var rfl ?_
              refine w_op ?_
              refine w_op ?_
              refine w_var rfl ?_
              refine w_var rfl ?_
              obtain ⟨x83, h84, hm⟩ := bnd hm
              refine r_ixL s75 (k := 3) rfl h84 fun v85 s86 => ?_
              refine w_var rfl ?_
              obtain ⟨x87, h88, hm⟩ := bnd hm
              refine r_ixTs s86 (k := 0) rfl h88 ?_
              refine r_neS ?_
              refine w_bl ?_
              have s89 : S _ _ [fz v74 (td x72), fz v50 (td x48), en v_law_actual (td x_law_actual) b_law_actual, en v_law_expected (td x_law_expected) b_law_expected] := s86.pick [1, 2, 3, 4]
              cases som hm
              exact k9 _ _ ⟨rfl, s89⟩
          rintro _ H80 ⟨rfl, s81⟩
          refine w_ite (fun h90 => ?_) (fun h90 => ?_)
          ·
            replace hm := ifT h90 hm
            refine w_ret ?_
            refine w_c ?_
            have s91 : S _ _ [en v_law_actual (td x_law_actual) b_law_actual, en v_law_expected (td x_law_expected) b_law_expected] := s81.pick [2, 3]
            have e9 := h71 _ (som hm).symm
            rw [e9] at h56
            replace e9 := h27 _ (som h56).symm
            rw [e9] at h11
            cases som h11
            exact kQ _ s91
          ·
            replace hm := ifF h90 hm
            refine w_next ?_
            have s92 : S _ _ [fz v50 (td x48), en v_law_actual (td x_law_actual) b_law_actual, en v_law_expected (td x_law_expected) b_law_expected] := s81.pick [1, 2, 3]
            exact ⟨_, _, rfl, s92, h69 _ (som hm).symm⟩
        ·
          rintro _ H60 ⟨o57, o58, rfl, s61, h63⟩
          have e9 := som h63; subst e9
          have s93 : S _ _ [en v_law_actual (td x_law_actual) b_law_actual, en v_law_expected (td x_law_expected) b_law_expected] := s61.pick [1, 2]
          exact ⟨_, _, _, rfl, s93, h25 _ (som hm).symm⟩
    ·
      rintro _ H16 ⟨o12, o13, o14, rfl, s17, h19⟩
      have e9 := som h19; subst e9
      refine w_ret ?_
      refine w_c ?_
      cases som hm
      exact kQ _ s17
def sp_Question_ties (K : PySem.W.Frag) (ce : Str → Addr) : Sp := fun vs H Q _ => ∃ (Z : Addr → Prop) (L : Lk) (v_self : V) (x_self : O_Question) (b_self : Bool) (r : List (T3 Str Str Str)), vs = [v_self] ∧ S (mk K ce Z L H [en v_self (td x_self) b_self]) H [en v_self (td x_self) b_self] ∧ m_Question_ties x_self = some r ∧ ∀ H' w, S (mk K ce Z L H [en v_self (td x_self) b_self]) H' (ow w (td r) :: [en v_self (td x_self) b_self]) → Q (.ref w) H'
theorem ok_Question_ties {P : Program} {w : World} {K : PySem.W.Frag} {mg : Str → Option Value} {base : Heap} {A : Ad} (T : Txt P K mg A) : FnB P w K mg base 1 A.f_Question_ties A.d_Question_ties ["self"] (sp_Question_ties K A.ce) := by
  have SC := sc_Question_ties
  refine Fun.okG0 T.F_Question_ties sc_Question_ties (fun vs H Q E h => ?_) (fun cdv Ar outer s9 H vs Q E hr h => ?_)
  · obtain ⟨_, _, _, _, _, _, rfl, _⟩ := h; rfl
  obtain ⟨Z, L, v_self, x_self, b_self, r, rfl, s0, hm, kQ⟩ := h
  refine ⟨_, (pss_one (ps_ret (pe_callTy call_listOf (by rfl) T.n_list (by decide +kernel) (pa_cons (pe_fld (pv 0) rfl) pa_nil)))), ?_⟩
  refine w_ret ?_
  refine w_cb ?_
  refine w_cons ?_
  refine w_fld ?_
  refine w_var rfl ?_
  refine r_fld s0 T.cl_Question T.na_Question__ties (ns := nm_Question) (by decide +kernel) (k := 0) rfl rfl (i := 0) rfl fun v1 s2 => ?_
  have s3 : S _ _ [fz v1 (td x_self.f_ties), en v_self (td x_self) b_self] := s2
  refine w_nil ?_
  refine q_listL true s3 (i := 0) rfl fun p4 H5 s6 => ?_
  have s7 : S _ _ [ow p4 (td x_self.f_ties), fz v1 (td x_self.f_ties), en v_self (td x_self) b_self] := s6
  have s8 : S _ _ [ow p4 (td x_self.f_ties), en v_self (td x_self) b_self] := s7.pick [0, 2]
  cases som hm
  exact kQ _ _ s8
def sp_law_same_T (K : PySem.W.Frag) (ce : Str → Addr) : Sp := fun vs H Q _ => ∃ (Z : Addr → Prop) (L : Lk) (v_law_actual : V) (x_law_actual : List (T3 Str Str Str)) (b_law_actual : Bool) (v_law_expected : V) (x_law_expected : List (T3 Str Str Str)) (b_law_expected : Bool) (r : Bool), vs = [v_law_actual, v_law_expected] ∧ S (mk K ce Z L H [en v_law_actual (td x_law_actual) b_law_actual, en v_law_expected (td x_law_expected) b_law_expected]) H [en v_law_actual (td x_law_actual) b_law_actual, en v_law_expected (td x_law_expected) b_law_expected] ∧ m_law_same_T x_law_actual x_law_expected = some r ∧ ∀ H', S (mk K ce Z L H [en v_law_actual (td x_law_actual) b_law_actual, en v_law_expected (td x_law_expected) b_law_expected]) H' [en v_law_actual (td x_law_actual) b_law_actual, en v_law_expected (td x_law_expected) b_law_expected] → Q (.bl r) H'
theorem ok_law_same_T {P : Program} {w : World} {K : PySem.W.Frag} {mg : Str → Option Value} {base : Heap} {A : Ad} (T : Txt P K mg A) : FnB P w K mg base 1 A.f__law_same A.d__law_same ["_law_actual", "_law_expected"] (sp_law_same_T K A.ce) := by
  have SC := sc_law_same_T
  refine Fun.okG0 T.F__law_same sc_law_same_T (fun vs H Q E h => ?_) (fun cdv Ar outer s9 H vs Q E hr h => ?_)
  · obtain ⟨_, _, _, _, _, _, _, _, _, rfl, _⟩ := h; rfl
  obtain ⟨Z, L, v_law_actual, x_law_actual, b_law_actual, v_law_expected, x_law_expected, b_law_expected, r, rfl, s0, hm, kQ⟩ := h
  refine ⟨_, (pss_cons (ps_if (PW.pt (pw_or (pt_not (pt_val (pe_callB call_isi (by rfl) T.n_isinstance (by decide +kernel) (pa_cons (pv 0) (pa_cons (pe_bltn (v := .ty "list") (u := .type "list") (by rfl) T.n_list (by decide +kernel) rfl) pa_nil))))) (pw_or1 (pt_cmpR op_ne (pe_callB call_lenQ (by rfl) T.n_len PySem.boot_len (pa_cons (pv 0) pa_nil)) (pe_callB call_lenQ (by rfl) T.n_len PySem.boot_len (pa_cons (pv 1) pa_nil)) (nomark _))))) (pss_one (ps_ret pe_bl)) pss_nil)
    (pss_cons (ps_for PassesOwn.never rfl (pi_range1 rfl T.n_range (pa_cons (pe_callB call_lenQ (by rfl) T.n_len PySem.boot_len (pa_cons (pv 1) pa_nil)) pa_nil)) (pg_name (i := 2) SC.nd rfl (by first | exact Or.inl rfl | exact Or.inr rfl)) (pss_cons (ps_if (PW.pt (pw_or (pt_not (pt_val (pe_callB call_isi (by rfl) T.n_isinstance (by decide +kernel) (pa_cons (pe_ix ix_list (pv 0) (pv 2) (fun _ _ => rfl)) (pa_cons (pe_bltn (v := .ty "tuple") (u := .type "tuple") (by rfl) T.n_tuple (by decide +kernel) rfl) pa_nil))))) (pw_or1 (pt_cmpR op_ne (pe_callB call_lenQ (by rfl) T.n_len PySem.boot_len (pa_cons (pe_ix ix_list (pv 0) (pv 2) (fun _ _ => rfl)) pa_nil)) (pe_callB call_lenQ (by rfl) T.n_len PySem.boot_len (pa_cons (pe_ix ix_list (pv 1) (pv 2) (fun _ _ => rfl)) pa_nil)) (nomark _))))) (pss_one (ps_ret pe_bl)) pss_nil)
    (pss_one (ps_for PassesOwn.never rfl (pi_range1 rfl T.n_range (pa_cons (pe_callB call_lenQ (by rfl) T.n_len PySem.boot_len (pa_cons (pe_ix ix_list (pv 1) (pv 2) (fun _ _ => rfl)) pa_nil)) pa_nil)) (pg_name (i := 3) SC.nd rfl (by first | exact Or.inl rfl | exact Or.inr rfl)) (pss_cons (ps_set (i := 4) SC.nd rfl (by first | exact Or.inl rfl | exact Or.inr rfl) (pe_ix ix_tup (pe_ix ix_list (pv 0) (pv 2) (fun _ _ => rfl)) (pv 3) (fun _ _ => rfl)))
    (pss_one (ps_if (PW.pt (pw_or (pt_not (pt_val (pe_callB call_isi (by rfl) T.n_isinstance (by decide +kernel) (pa_cons (pv 4) (pa_cons (pe_bltn (v := .ty "str") (u := .type "str") (by rfl) T.n_str (by decide +kernel) rfl) pa_nil))))) (pw_or1 (pt_cmpR op_ne (pv 4) (pe_ix ix_tup (pe_ix ix_list (pv 1) (pv 2) (fun _ _ => rfl)) (pv 3) (fun _ _ => rfl)) (nomark _))))) (pss_one (ps_ret pe_bl)) pss_nil)))))))
    (pss_one (ps_ret pe_bl)))), ?_⟩
  refine w_seq [some (v_law_actual), some (v_law_expected), none, none, none] rfl ?_
  refine w_if ?_
  obtain ⟨b1, h2, hm⟩ := bnd hm
  refine cutT (P := fun v H9 => v = b1 ∧ S (mk K A.ce Z L H [en v_law_actual (td x_law_actual) b_law_actual, en v_law_expected (td x_law_expected) b_law_expected]) H9 [en v_law_actual (td x_law_actual) b_law_actual, en v_law_expected (td x_law_expected) b_law_expected]) (fun Q9 k9 => ?_) ?_
  ·
    replace hm := h2
    refine w_or ?_
    refine w_not ?_
    refine w_B ?_
    refine w_cb ?_
    refine w_cons ?_
    refine w_var rfl ?_
    refine w_cons ?_
    refine w_c ?_
    refine w_nil ?_
    refine r_isiL (b1 := true) s0 (k := 0) rfl (by decide +kernel) ?_
    refine w_bl ?_
    refine w_ite (fun h5 => ?_) (fun h5 => ?_)
    ·
      replace hm := ifT h5 hm
      cases som hm
      exact k9 _ _ ⟨rfl, s0⟩
    ·
      replace hm := ifF h5 hm
      refine w_test ?_
      refine w_op ?_
      refine w_cb ?_
      refine w_cons ?_
      refine w_var rfl ?_
      refine w_nil ?_
      refine r_lenQ s0 (k := 0) rfl ?_
      refine w_cb ?_
      refine w_cons ?_
      refine w_var rfl ?_
      refine w_nil ?_
      refine r_lenQ s0 (k := 1) rfl ?_
      refine r_neI ?_
      refine w_bl ?_
      cases som hm
      exact k9 _ _ ⟨rfl, s0⟩
  rintro _ H3 ⟨rfl, s4⟩
  refine w_ite (fun h6 => ?_) (fun h6 => ?_)
  ·
    replace hm := ifT h6 hm
    refine w_ret ?_
    refine w_c ?_
    cases som hm
    exact kQ _ s4
  ·
    replace hm := ifF h6 hm
    refine w_next ?_
    refine w_seq [some (v_law_actual), some (v_law_expected), none, none, none] rfl ?_
    refine w_forR ?_
    refine w_cons ?_
    refine w_cb ?_
    refine w_cons ?_
    refine w_var rfl ?_
    refine w_nil ?_
    refine r_lenQ s4 (k := 1) rfl ?_
    refine w_nil ?_
    obtain ⟨x8, h7, hm⟩ := bnd hm
    refine r_rng h7 ?_
    obtain ⟨r9, h10, hm⟩ := bnd hm
    refine forB (c := (mk K A.ce Z L H [en v_law_actual (td x_law_actual) b_law_actual, en v_law_expected (td x_law_expected) b_law_expected])) x8 (w := .rng 0 ((x_law_expected).length : Int)) rfl (fun l18 σ15 H16 => ∃ (o12 : Option V) (o13 : Option V) (o14 : Option V), σ15 = [some (v_law_actual), some (v_law_expected), o12, o13, o14] ∧ S (mk K A.ce Z L H [en v_law_actual (td x_law_actual) b_law_actual, en v_law_expected (td x_law_expected) b_law_expected]) H16 [en v_law_actual (td x_law_actual) b_law_actual, en v_law_expected (td x_law_expected) b_law_expected] ∧ loopO l18 () (m_law_same_T_L1 x_law_actual x_law_expected) = some r9) ?_ ?_ ?_ ?_
    ·
      exact ⟨_, _, _, rfl, s4, h10⟩
    ·
      rintro _ _ _ ⟨o12, o13, o14, rfl, s17, h19⟩; exact rng_at h7
    ·
      rintro d20 l18 w21 _ H16 ⟨o12, o13, o14, rfl, s17, h19⟩ g22
      obtain ⟨q23, h24, h25, h26, h27⟩ := loop_cons h19
      have h11 := hm
      replace hm := h24
      obtain rfl : V.int d20 = w21 := gv_sc g22
      refine w_name ?_
      refine w_seq [some (v_law_actual), some (v_law_expected), some (.int d20), o13, o14] rfl ?_
      refine w_if ?_
      obtain ⟨b28, h29, hm⟩ := bnd hm
      refine cutT (P := fun v H9 => v = b28 ∧ S (mk K A.ce Z L H [en v_law_actual (td x_law_actual) b_law_actual, en v_law_expected (td x_law_expected) b_law_expected]) H9 [en v_law_actual (td x_law_actual) b_law_actual, en v_law_expected (td x_law_expected) b_law_expected]) (fun Q9 k9 => ?_) ?_
      ·
        replace hm := h29
        refine w_or ?_
        refine w_not ?_
        refine w_B ?_
        refine w_cb ?_
        refine w_cons ?_
        refine w_op ?_
        refine w_var rfl ?_
        refine w_var rfl ?_
        obtain ⟨x32, h33, hm⟩ := bnd hm
        refine r_ixL s17 (k := 0) rfl h33 fun v34 s35 => ?_
        refine w_cons ?_
        refine w_c ?_
        refine w_nil ?_
        refine r_isiT (b1 := true) s35 (k := 0) rfl (by decide +kernel) ?_
        refine w_bl ?_
        refine w_ite (fun h36 => ?_) (fun h36 => ?_)
        ·
          replace hm := ifT h36 hm
          have s37 : S _ _ [en v_law_actual (td x_law_actual) b_law_actual, en v_law_expected (td x_law_expected) b_law_expected] := s35.pick [1, 2]
          cases som hm
          exact k9 _ _ ⟨rfl, s37⟩
        ·
          replace hm := ifF h36 hm
          refine w_test ?_
          refine w_op ?_
          refine w_cb ?_
          refine w_cons ?_
          refine w_op ?_
          refine w_var rfl ?_
          refine w_var rfl ?_
          obtain ⟨x38, h39, hm⟩ := bnd hm
          refine r_ixL s35 (k := 1) rfl h39 fun v40 s41 => ?_
          refine w_nil ?_
          refine r_lenTd s41 (k := 0) (n := 3) rfl rfl ?_
          refine w_cb ?_
          refine w_cons ?_
          refine w_op ?_
          refine w_var rfl ?_
          refine w_var rfl ?_
          obtain ⟨x42, h43, hm⟩ := bnd hm
          refine r_ixL s41 (k := 3) rfl h43 fun v44 s45 => ?_
          refine w_nil ?_
          refine r_lenTd s45 (k := 0) (n := 3) rfl rfl ?_
          refine r_neI ?_
          refine w_bl ?_
          have s46 : S _ _ [en v_law_actual (td x_law_actual) b_law_actual, en v_law_expected (td x_law_expected) b_law_expected] := s45.pick [3, 4]
          cases som hm
          exact k9 _ _ ⟨rfl, s46⟩
      rintro _ H30 ⟨rfl, s31⟩
      refine w_ite (fun h47 => ?_) (fun h47 => ?_)
      ·
        replace hm := ifT h47 hm
        refine w_ret ?_
        refine w_c ?_
        have e9 := h27 _ (som hm).symm
        rw [e9] at h11
        cases som h11
        exact kQ _ s31
      ·
        replace hm := ifF h47 hm
        refine w_next ?_
        refine w_forR ?_
        refine w_cons ?_
        refine w_cb ?_
        refine w_cons ?_
        refine w_op ?_
        refine w_var rfl ?_
        refine w_var rfl ?_
        obtain ⟨x48, h49, hm⟩ := bnd hm
        refine r_ixL s31 (k := 1) rfl h49 fun v50 s51 => ?_
        refine w_nil ?_
        refine r_lenTd s51 (k := 0) (n := 3) rfl rfl ?_
        refine w_nil ?_
        obtain ⟨x53, h52, hm⟩ := bnd hm
        refine r_rng h52 ?_
        obtain ⟨r54, h55, hm⟩ := bnd hm
        refine forB (c := (mk K A.ce Z L H [en v_law_actual (td x_law_actual) b_law_actual, en v_law_expected (td x_law_expected) b_law_expected])) x53 (w := .rng 0 (3 : Int)) rfl (fun l62 σ59 H60 => ∃ (o57 : Option V) (o58 : Option V), σ59 = [some (v_law_actual), some (v_law_expected), some (.int d20), o57, o58] ∧ S (mk K A.ce Z L H [en v_law_actual (td x_law_actual) b_law_actual, en v_law_expected (td x_law_expected) b_law_expected]) H60 [fz v50 (td x48), en v_law_actual (td x_law_actual) b_law_actual, en v_law_expected (td x_law_expected) b_law_expected] ∧ loopO l62 () (m_law_same_T_L2 x_law_actual x_law_expected d20) = some r54) ?_ ?_ ?_ ?_
        ·
          exact ⟨_, _, rfl, s51, h55⟩
        ·
          rintro _ _ _ ⟨o57, o58, rfl, s61, h63⟩; exact rng_at h52
        ·
          rintro d64 l62 w65 _ H60 ⟨o57, o58, rfl, s61, h63⟩ g66
          obtain ⟨q67, h68, h69, h70, h71⟩ := loop_cons h63
          have h56 := hm
          replace hm := h68
          obtain rfl : V.int d64 = w65 := gv_sc g66
          refine w_name ?_
          refine w_seq [some (v_law_actual), some (v_law_expected), some (.int d20), some (.int d64), o58] rfl ?_
          refine w_set ?_
          refine w_op ?_
          refine w_op ?_
          refine w_var rfl ?_
          refine w_var rfl ?_
          obtain ⟨x72, h73, hm⟩ := bnd hm
          refine r_ixL s61 (k := 1) rfl h73 fun v74 s75 => ?_
          refine w_var rfl ?_
          obtain ⟨x76, h77, hm⟩ := bnd hm
          refine r_ixTdv s75 (k := 0) (ds := List.map td [x72.a, x72.b, x72.c]) rfl (getI_map (f := td) h77) ?_
          refine w_if ?_
          obtain ⟨b78, h79, hm⟩ := bnd hm
          refine cutT (P := fun v H9 => v = b78 ∧ S (mk K A.ce Z L H [en v_law_actual (td x_law_actual) b_law_actual, en v_law_expected (td x_law_expected) b_law_expected]) H9 [fz v74 (td x72), fz v50 (td x48), en v_law_actual (td x_law_actual) b_law_actual, en v_law_expected (td x_law_expected) b_law_expected]) (fun Q9 k9 => ?_) ?_
          ·
            replace hm := h79
            refine w_or ?_
            refine w_not ?_
            refine w_B ?_
            refine w_cb ?_
            refine w_cons ?_
            refine w_var rfl ?_
            refine w_cons ?_
            refine w_c ?_
            refine w_nil ?_
            refine r_isi (b := true) (.str _) (by decide +kernel) ?_
            refine w_bl ?_
            refine w_ite (fun h82 => ?_) (fun h82 => ?_)
            ·
              replace hm := ifT h82 hm
              cases som hm
              exact k9 _ _ ⟨rfl, s75⟩
            ·
              replace hm := ifF h82 hm
              refine w_test ?_
              refine w_op ?_
              refine w_var rfl ?_
              refine w_op ?_
              refine w_op ?_
              refine w_var rfl ?_
              refine w_var rfl ?_
              obtain ⟨x83, h84, hm⟩ := bnd hm
              refine r_ixL s75 (k := 3) rfl h84 fun v85 s86 => ?_
              refine w_var rfl ?_
              obtain ⟨x87, h88, hm⟩ := bnd hm
              refine r_ixTdv s86 (k := 0) (ds := List.map td [x83.a, x83.b, x83.c]) rfl (getI_map (f := td) h88) ?_
              refine r_neS ?_
              refine w_bl ?_
              have s89 : S _ _ [fz v74 (td x72), fz v50 (td x48), en v_law_actual (td x_law_actual) b_law_actual, en v_law_expected (td x_law_expected) b_law_expected] := s86.pick [1, 2, 3, 4]
              cases som hm
              exact k9 _ _ ⟨rfl, s89⟩
          rintro _ H80 ⟨rfl, s81⟩
          refine w_ite (fun h90 => ?_) (fun h90 => ?_)
          ·
            replace hm := ifT h90 hm
            refine w_ret ?_
            refine w_c ?_
            have s91 : S _ _ [en v_law_actual (td x_law_actual) b_law_actual, en v_law_expected (td x_law_expected) b_law_expected] := s81.pick [2, 3]
            have e9 := h71 _ (som hm).symm
            rw [e9] at h56
            replace e9 := h27 _ (som h56).symm
            rw [e9] at h11
            cases som h11
            exact kQ _ s91
          ·
            replace hm := ifF h90 hm
            refine w_next ?_
            have s92 : S _ _ [fz v50 (td x48), en v_law_actual (td x_law_actual) b_law_actual, en v_law_expected (td x_law_expected) b_law_expected] := s81.pick [1, 2, 3]
            exact ⟨_, _, rfl, s92, h69 _ (som hm).symm⟩
        ·
          rintro _ H60 ⟨o57, o58, rfl, s61, h63⟩
          have e9 := som h63; subst e9
          have s93 : S _ _ [en v_law_actual (td x_law_actual) b_law_actual, en v_law_expected (td x_law_expected) b_law_expected] := s61.pick [1, 2]
          exact ⟨_, _, _, rfl, s93, h25 _ (som hm).symm⟩
    ·
      rintro _ H16 ⟨o12, o13, o14, rfl, s17, h19⟩
      have e9 := som h19; subst e9
      refine w_ret ?_
      refine w_c ?_
      cases som hm
      exact kQ _ s17
def sp_law_is (K : PySem.W.Frag) (ce : Str → Addr) : Sp := fun vs H Q _ => ∃ (Z : Addr → Prop) (L : Lk) (v_law_question_here : V) (x_law_question_here : O_Question) (b_law_question_here : Bool) (v_law_ties_here : V) (x_law_ties_here : List (T3 Str Str Str)) (b_law_ties_here : Bool) (v_law_head_here : V) (x_law_head_here : List Str) (b_law_head_here : Bool) (r : Bool), vs = [v_law_question_here, v_law_ties_here, v_law_head_here] ∧ S (mk K ce Z L H [en v_law_question_here (td x_law_question_here) b_law_question_here, en v_law_ties_here (td x_law_ties_here) b_law_ties_here, en v_law_head_here (td x_law_head_here) b_law_head_here]) H [en v_law_question_here (td x_law_question_here) b_law_question_here, en v_law_ties_here (td x_law_ties_here) b_law_ties_here, en v_law_head_here (td x_law_head_here) b_law_head_here] ∧ m_law_is x_law_question_here x_law_ties_here x_law_head_here = some r ∧ ∀ H', S (mk K ce Z L H [en v_law_question_here (td x_law_question_here) b_law_question_here, en v_law_ties_here (td x_law_ties_here) b_law_ties_here, en v_law_head_here (td x_law_head_here) b_law_head_here]) H' [en v_law_question_here (td x_law_question_here) b_law_question_here, en v_law_ties_here (td x_law_ties_here) b_law_ties_here, en v_law_head_here (td x_law_head_here) b_law_head_here] → Q (.bl r) H'
theorem ok_law_is {P : Program} {w : World} {K : PySem.W.Frag} {mg : Str → Option Value} {base : Heap} {A : Ad} (T : Txt P K mg A) : FnB P w K mg base 5 A.f__law_is A.d__law_is ["_law_question_here", "_law_ties_here", "_law_head_here"] (sp_law_is K A.ce) := by
  have SC := sc_law_is
  refine Fun.okG0 T.F__law_is sc_law_is (fun vs H Q E h => ?_) (fun cdv Ar outer s9 H vs Q E hr h => ?_)
  · obtain ⟨_, _, _, _, _, _, _, _, _, _, _, _, rfl, _⟩ := h; rfl
  obtain ⟨Z, L, v_law_question_here, x_law_question_here, b_law_question_here, v_law_ties_here, x_law_ties_here, b_law_ties_here, v_law_head_here, x_law_head_here, b_law_head_here, r, rfl, s0, hm, kQ⟩ := h
  refine ⟨_, (pss_cons (ps_if (pt_not (pt_val (pe_callB call_isi (by rfl) T.n_isinstance (by decide +kernel) (pa_cons (pv 0) (pa_cons (pe_glob (v := .ref (A.ce "Question")) rfl T.g_Question rfl) pa_nil))))) (pss_one (ps_ret pe_bl)) pss_nil)
    (pss_cons (ps_if (pt_cmpR (op_neA (α := List Str) hr (by decide)) (pe_propG (pv 0) T.cl_Question T.pr_Question_names ((ok_Question_names T).raw0 T.b_Question_names) (hr.mono (by decide)) rfl) (pe_callG ((ok_law_rank_S T).raw0 T.b__law_rank) (hr.mono (by decide)) takes0 rfl T.g__law_rank T.k__law_rank (pa_cons (pe_callG ((ok_law_met T).raw0 T.b__law_met) (hr.mono (by decide)) takes0 rfl T.g__law_met T.k__law_met (pa_cons (pv 1) pa_nil)) pa_nil)) (nomark _)) (pss_one (ps_ret pe_bl)) pss_nil)
    (pss_cons (ps_if (pt_cmpR (op_neA (α := List Str) hr (by decide)) (pe_propG (pv 0) T.cl_Question T.pr_Question_tables ((ok_Question_tables T).raw0 T.b_Question_tables) (hr.mono (by decide)) rfl) (pe_callG ((ok_law_rank_S T).raw0 T.b__law_rank) (hr.mono (by decide)) takes0 rfl T.g__law_rank T.k__law_rank (pa_cons (pe_lc (own := [("_law_tie", 3)]) (g := gName 3) rfl SC.nd (pi_list (pv 1)) (blkOk_by (own := [("_law_tie", 3)]) (N := N_law_is) (sc := defScope s_law_is) (by decide +kernel)) (fun _ _ _ _ _ => (pg_name (i := 3) SC.nd rfl (by first | exact Or.inl rfl | exact Or.inr rfl))) (fun _ _ _ _ _ => pts_nil) (fun _ _ _ _ _ => (pe_ix (show IxR _ (rIxT K) from ix_tup) (pv 3) pe_int (fun _ _ => rfl)))) pa_nil)) (nomark _)) (pss_one (ps_ret pe_bl)) pss_nil)
    (pss_cons (ps_if (pt_not (pt_val (pe_callG ((ok_law_same_Q T).raw0 T.b__law_same) (hr.mono (by decide)) takes0 rfl T.g__law_same T.k__law_same (pa_cons (pe_lst (pa_cons (pe_propG (pv 0) T.cl_Question T.pr_Question_head ((ok_Question_head T).raw0 T.b_Question_head) (hr.mono (by decide)) rfl) pa_nil)) (pa_cons (pe_lst (pa_cons (pe_callTy call_tupOf (by rfl) T.n_tuple (by decide +kernel) (pa_cons (pv 2) pa_nil)) pa_nil)) pa_nil))))) (pss_one (ps_ret pe_bl)) pss_nil)
    (pss_one (ps_ret (pe_callG ((ok_law_same_T T).raw0 T.b__law_same) (hr.mono (by decide)) takes0 rfl T.g__law_same T.k__law_same (pa_cons (pe_propG (pv 0) T.cl_Question T.pr_Question_ties ((ok_Question_ties T).raw0 T.b_Question_ties) (hr.mono (by decide)) rfl) (pa_cons (pe_callG ((ok_law_rank_T T).raw0 T.b__law_rank) (hr.mono (by decide)) takes0 rfl T.g__law_rank T.k__law_rank (pa_cons (pv 1) pa_nil)) pa_nil))))))))), ?_⟩
  refine w_seq [some (v_law_question_here), some (v_law_ties_here), some (v_law_head_here), none] rfl ?_
  refine w_if ?_
  refine w_not ?_
  refine w_B ?_
  refine w_cb ?_
  refine w_cons ?_
  refine w_var rfl ?_
  refine w_cons ?_
  refine w_c ?_
  refine w_nil ?_
  refine r_isiO s0 (k := 0) rfl T.is_Question ?_
  refine w_bl ?_
  refine w_ite (fun h1 => ?_) (fun h1 => ?_)
  ·
    replace hm := ifT h1 hm
    refine w_ret ?_
    refine w_c ?_
    cases som hm
    exact kQ _ s0
  ·
    replace hm := ifF h1 hm
    refine w_next ?_
    refine w_seq [some (v_law_question_here), some (v_law_ties_here), some (v_law_head_here), none] rfl ?_
    refine w_if ?_
    refine w_test ?_
    refine w_op ?_
    refine w_prop ?_
    refine w_var rfl ?_
    refine r_prop s0 (k := 0) rfl ?_
    have s2 := s0.pick (E' := [en v_law_question_here (td x_law_question_here) b_law_question_here] ++ [en v_law_ties_here (td x_law_ties_here) b_law_ties_here, en v_law_head_here (td x_law_head_here) b_law_head_here]) [0, 1, 2]
    obtain ⟨x3, h4, hm⟩ := bnd hm
    refine ⟨_, _, _, _, _, _, rfl, s2.enter, h4, fun H5 p8 s6 => ?_⟩
    have s7 : S _ _ [ow p8 (td x3), en v_law_question_here (td x_law_question_here) b_law_question_here, en v_law_ties_here (td x_law_ties_here) b_law_ties_here, en v_law_head_here (td x_law_head_here) b_law_head_here] := s2.leave s6
    refine w_callG ?_
    refine w_cons ?_
    refine w_callG ?_
    refine w_cons ?_
    refine w_var rfl ?_
    refine w_nil ?_
    have s9 := s7.pick (E' := [en v_law_ties_here (td x_law_ties_here) b_law_ties_here] ++ [ow p8 (td x3), en v_law_question_here (td x_law_question_here) b_law_question_here, en v_law_head_here (td x_law_head_here) b_law_head_here]) [2, 0, 1, 3]
    obtain ⟨x10, h11, hm⟩ := bnd hm
    refine ⟨_, _, _, _, _, _, rfl, s9.enter, h11, fun H12 v15 s13 => ?_⟩
    have s14 : S _ _ [fz v15 (td x10), en v_law_ties_here (td x_law_ties_here) b_law_ties_here, ow p8 (td x3), en v_law_question_here (td x_law_question_here) b_law_question_here, en v_law_head_here (td x_law_head_here) b_law_head_here] := s9.leave s13
    refine w_nil ?_
    have s16 := s14.pick (E' := [fz v15 (td x10)] ++ [en v_law_ties_here (td x_law_ties_here) b_law_ties_here, ow p8 (td x3), en v_law_question_here (td x_law_question_here) b_law_question_here, en v_law_head_here (td x_law_head_here) b_law_head_here]) [0, 1, 2, 3, 4]
    obtain ⟨x17, h18, hm⟩ := bnd hm
    refine ⟨_, _, _, _, _, _, rfl, s16.enter, h18, fun H19 v22 s20 => ?_⟩
    have s21 : S _ _ [fz v22 (td x17), fz v15 (td x10), en v_law_ties_here (td x_law_ties_here) b_law_ties_here, ow p8 (td x3), en v_law_question_here (td x_law_question_here) b_law_question_here, en v_law_head_here (td x_law_head_here) b_law_head_here] := s16.leave s20
    refine r_neA s21 (i := 3) (j := 0) rfl rfl ?_
    refine w_bl ?_
    refine w_ite (fun h23 => ?_) (fun h23 => ?_)
    ·
      replace hm := ifT h23 hm
      refine w_ret ?_
      refine w_c ?_
      have s24 : S _ _ [en v_law_question_here (td x_law_question_here) b_law_question_here, en v_law_ties_here (td x_law_ties_here) b_law_ties_here, en v_law_head_here (td x_law_head_here) b_law_head_here] := s21.pick [4, 2, 5]
      cases som hm
      exact kQ _ s24
    ·
      replace hm := ifF h23 hm
      refine w_next ?_
      refine w_seq [some (v_law_question_here), some (v_law_ties_here), some (v_law_head_here), none] rfl ?_
      refine w_if ?_
      refine w_test ?_
      refine w_op ?_
      refine w_prop ?_
      refine w_var rfl ?_
      refine r_prop s21 (k := 4) rfl ?_
      have s25 := s21.pick (E' := [en v_law_question_here (td x_law_question_here) b_law_question_here] ++ [fz v22 (td x17), fz v15 (td x10), en v_law_ties_here (td x_law_ties_here) b_law_ties_here, ow p8 (td x3), en v_law_head_here (td x_law_head_here) b_law_head_here]) [4, 0, 1, 2, 3, 5]
      obtain ⟨x26, h27, hm⟩ := bnd hm
      refine ⟨_, _, _, _, _, _, rfl, s25.enter, h27, fun H28 p31 s29 => ?_⟩
      have s30 : S _ _ [ow p31 (td x26), en v_law_question_here (td x_law_question_here) b_law_question_here, fz v22 (td x17), fz v15 (td x10), en v_law_ties_here (td x_law_ties_here) b_law_ties_here, ow p8 (td x3), en v_law_head_here (td x_law_head_here) b_law_head_here] := s25.leave s29
      refine w_callG ?_
      refine w_cons ?_
      refine w_lcL ?_
      refine w_var rfl ?_
      refine l_lst s30 (k := 4) rfl fun J hJ => ?_
      obtain ⟨y32, h33, hm⟩ := bnd hm
      refine lcB (xs := x_law_ties_here) (ys := y32) (f := m_law_is_C1) (w := .lst v_law_ties_here) hJ s30 (s30.small (k := 4) rfl) h33 (fun _ hh => ⟨_, 5, _, hh.choose_spec.choose_spec, rfl⟩) (fun d42 o41 D34 acc35 w36 H37 h38 s39 g40 R0 R1 k0 k1 => ?_) ?_
      ·
        replace hm := h38
        have s43 := s39.add (g40 _ 5 _ s39 rfl)
        refine w_name ?_
        refine ⟨rfl, ?_⟩
        refine w_yes ?_
        refine w_tt ?_
        refine w_op ?_
        refine w_var rfl ?_
        refine w_c ?_
        refine r_ixTdv s43 (k := 0) rfl rfl ?_
        have s44 : S _ _ [ow D34 (td acc35), ow p31 (td x26), en v_law_question_here (td x_law_question_here) b_law_question_here, fz v22 (td x17), fz v15 (td x10), en v_law_ties_here (td x_law_ties_here) b_law_ties_here, ow p8 (td x3), en v_law_head_here (td x_law_head_here) b_law_head_here] := s43.pick [1, 2, 3, 4, 5, 6, 7, 8]
        cases som hm
        exact k1 _ rfl _ _ (s44.add (.sc _))
      intro p45 H46 s47
      refine w_nil ?_
      have s48 := s47.pick (E' := [ow p45 (td y32)] ++ [ow p31 (td x26), en v_law_question_here (td x_law_question_here) b_law_question_here, fz v22 (td x17), fz v15 (td x10), en v_law_ties_here (td x_law_ties_here) b_law_ties_here, ow p8 (td x3), en v_law_head_here (td x_law_head_here) b_law_head_here]) [0, 1, 2, 3, 4, 5, 6, 7]
      obtain ⟨x49, h50, hm⟩ := bnd hm
      refine ⟨_, _, _, _, _, _, rfl, s48.enter, h50, fun H51 v54 s52 => ?_⟩
      have s53 : S _ _ [fz v54 (td x49), ow p45 (td y32), ow p31 (td x26), en v_law_question_here (td x_law_question_here) b_law_question_here, fz v22 (td x17), fz v15 (td x10), en v_law_ties_here (td x_law_ties_here) b_law_ties_here, ow p8 (td x3), en v_law_head_here (td x_law_head_here) b_law_head_here] := s48.leave s52
      refine r_neA s53 (i := 2) (j := 0) rfl rfl ?_
      refine w_bl ?_
      refine w_ite (fun h55 => ?_) (fun h55 => ?_)
      ·
        replace hm := ifT h55 hm
        refine w_ret ?_
        refine w_c ?_
        have s56 : S _ _ [en v_law_question_here (td x_law_question_here) b_law_question_here, en v_law_ties_here (td x_law_ties_here) b_law_ties_here, en v_law_head_here (td x_law_head_here) b_law_head_here] := s53.pick [3, 6, 8]
        cases som hm
        exact kQ _ s56
      ·
        replace hm := ifF h55 hm
        refine w_next ?_
        refine w_seq [some (v_law_question_here), some (v_law_ties_here), some (v_law_head_here), none] rfl ?_
        refine w_if ?_
        refine w_not ?_
        refine w_B ?_
        refine w_callG ?_
        refine w_cons ?_
        refine w_lst ?_
        refine w_cons ?_
        refine w_prop ?_
        refine w_var rfl ?_
        refine r_prop s53 (k := 3) rfl ?_
        have s57 := s53.pick (E' := [en v_law_question_here (td x_law_question_here) b_law_question_here] ++ [fz v54 (td x49), ow p45 (td y32), ow p31 (td x26), fz v22 (td x17), fz v15 (td x10), en v_law_ties_here (td x_law_ties_here) b_law_ties_here, ow p8 (td x3), en v_law_head_here (td x_law_head_here) b_law_head_here]) [3, 0, 1, 2, 4, 5, 6, 7, 8]
        obtain ⟨x58, h59, hm⟩ := bnd (m := m_Question_head x_law_question_here) hm
        refine ⟨_, _, _, _, _, _, rfl, s57.enter, h59, fun H60 v63 s61 => ?_⟩
        have s62 : S _ _ [fz v63 (td x58), en v_law_question_here (td x_law_question_here) b_law_question_here, fz v54 (td x49), ow p45 (td y32), ow p31 (td x26), fz v22 (td x17), fz v15 (td x10), en v_law_ties_here (td x_law_ties_here) b_law_ties_here, ow p8 (td x3), en v_law_head_here (td x_law_head_here) b_law_head_here] := s57.leave s61
        refine w_nil ?_
        refine r_lst s62 (.cons (s62.fz (k := 0) rfl) .nil) (q := fun p64 H65 s66 => ?_)
        have s67 : S _ _ [fz (.ref p64) (td ([x58] : List (Tp Str))), fz v63 (td x58), en v_law_question_here (td x_law_question_here) b_law_question_here, fz v54 (td x49), ow p45 (td y32), ow p31 (td x26), fz v22 (td x17), fz v15 (td x10), en v_law_ties_here (td x_law_ties_here) b_law_ties_here, ow p8 (td x3), en v_law_head_here (td x_law_head_here) b_law_head_here] := s66
        refine w_cons ?_
        refine w_lst ?_
        refine w_cons ?_
        refine w_cb ?_
        refine w_cons ?_
        refine w_var rfl ?_
        refine w_nil ?_
        refine q_tupL s67 (i := 10) rfl fun p68 H69 s70 => ?_
        have s71 : S _ _ [fz (.ref p68) (td (Tp.mk x_law_head_here)), fz (.ref p64) (td ([x58] : List (Tp Str))), fz v63 (td x58), en v_law_question_here (td x_law_question_here) b_law_question_here, fz v54 (td x49), ow p45 (td y32), ow p31 (td x26), fz v22 (td x17), fz v15 (td x10), en v_law_ties_here (td x_law_ties_here) b_law_ties_here, ow p8 (td x3), en v_law_head_here (td x_law_head_here) b_law_head_here] := s70
        refine w_nil ?_
        refine r_lst s71 (.cons (s71.fz (k := 0) rfl) .nil) (q := fun p72 H73 s74 => ?_)
        have s75 : S _ _ [fz (.ref p72) (td ([(Tp.mk x_law_head_here)] : List (Tp Str))), fz (.ref p68) (td (Tp.mk x_law_head_here)), fz (.ref p64) (td ([x58] : List (Tp Str))), fz v63 (td x58), en v_law_question_here (td x_law_question_here) b_law_question_here, fz v54 (td x49), ow p45 (td y32), ow p31 (td x26), fz v22 (td x17), fz v15 (td x10), en v_law_ties_here (td x_law_ties_here) b_law_ties_here, ow p8 (td x3), en v_law_head_here (td x_law_head_here) b_law_head_here] := s74
        refine w_nil ?_
        have s76 := s75.pick (E' := [fz (.ref p64) (td ([x58] : List (Tp Str))), fz (.ref p72) (td ([(Tp.mk x_law_head_here)] : List (Tp Str)))] ++ [fz (.ref p68) (td (Tp.mk x_law_head_here)), fz v63 (td x58), en v_law_question_here (td x_law_question_here) b_law_question_here, fz v54 (td x49), ow p45 (td y32), ow p31 (td x26), fz v22 (td x17), fz v15 (td x10), en v_law_ties_here (td x_law_ties_here) b_law_ties_here, ow p8 (td x3), en v_law_head_here (td x_law_head_here) b_law_head_here]) [2, 0, 1, 3, 4, 5, 6, 7, 8, 9, 10, 11, 12]
        obtain ⟨x77, h78, hm⟩ := bnd hm
        refine ⟨_, _, _, _, _, _, _, _, _, rfl, s76.enter, h78, fun H79 s80 => ?_⟩
        have s81 : S _ _ [fz (.ref p64) (td ([x58] : List (Tp Str))), fz (.ref p72) (td ([(Tp.mk x_law_head_here)] : List (Tp Str))), fz (.ref p68) (td (Tp.mk x_law_head_here)), fz v63 (td x58), en v_law_question_here (td x_law_question_here) b_law_question_here, fz v54 (td x49), ow p45 (td y32), ow p31 (td x26), fz v22 (td x17), fz v15 (td x10), en v_law_ties_here (td x_law_ties_here) b_law_ties_here, ow p8 (td x3), en v_law_head_here (td x_law_head_here) b_law_head_here] := s76.leave s80
        refine w_bl ?_
        refine w_ite (fun h82 => ?_) (fun h82 => ?_)
        ·
          replace hm := ifT h82 hm
          refine w_ret ?_
          refine w_c ?_
          have s83 : S _ _ [en v_law_question_here (td x_law_question_here) b_law_question_here, en v_law_ties_here (td x_law_ties_here) b_law_ties_here, en v_law_head_here (td x_law_head_here) b_law_head_here] := s81.pick [4, 10, 12]
          cases som hm
          exact kQ _ s83
        ·
          replace hm := ifF h82 hm
          refine w_next ?_
          refine w_ret ?_
          refine w_callG ?_
          refine w_cons ?_
          refine w_prop ?_
          refine w_var rfl ?_
          refine r_prop s81 (k := 4) rfl ?_
          have s84 := s81.pick (E' := [en v_law_question_here (td x_law_question_here) b_law_question_here] ++ [fz (.ref p64) (td ([x58] : List (Tp Str))), fz (.ref p72) (td ([(Tp.mk x_law_head_here)] : List (Tp Str))), fz (.ref p68) (td (Tp.mk x_law_head_here)), fz v63 (td x58), fz v54 (td x49), ow p45 (td y32), ow p31 (td x26), fz v22 (td x17), fz v15 (td x10), en v_law_ties_here (td x_law_ties_here) b_law_ties_here, ow p8 (td x3), en v_law_head_here (td x_law_head_here) b_law_head_here]) [4, 0, 1, 2, 3, 5, 6, 7, 8, 9, 10, 11, 12]
          obtain ⟨x85, h86, hm⟩ := bnd hm
          refine ⟨_, _, _, _, _, _, rfl, s84.enter, h86, fun H87 p90 s88 => ?_⟩
          have s89 : S _ _ [ow p90 (td x85), en v_law_question_here (td x_law_question_here) b_law_question_here, fz (.ref p64) (td ([x58] : List (Tp Str))), fz (.ref p72) (td ([(Tp.mk x_law_head_here)] : List (Tp Str))), fz (.ref p68) (td (Tp.mk x_law_head_here)), fz v63 (td x58), fz v54 (td x49), ow p45 (td y32), ow p31 (td x26), fz v22 (td x17), fz v15 (td x10), en v_law_ties_here (td x_law_ties_here) b_law_ties_here, ow p8 (td x3), en v_law_head_here (td x_law_head_here) b_law_head_here] := s84.leave s88
          refine w_cons ?_
          refine w_callG ?_
          refine w_cons ?_
          refine w_var rfl ?_
          refine w_nil ?_
          have s91 := s89.pick (E' := [en v_law_ties_here (td x_law_ties_here) b_law_ties_here] ++ [ow p90 (td x85), en v_law_question_here (td x_law_question_here) b_law_question_here, fz (.ref p64) (td ([x58] : List (Tp Str))), fz (.ref p72) (td ([(Tp.mk x_law_head_here)] : List (Tp Str))), fz (.ref p68) (td (Tp.mk x_law_head_here)), fz v63 (td x58), fz v54 (td x49), ow p45 (td y32), ow p31 (td x26), fz v22 (td x17), fz v15 (td x10), ow p8 (td x3), en v_law_head_here (td x_law_head_here) b_law_head_here]) [11, 0, 1, 2, 3, 4, 5, 6, 7, 8, 9, 10, 12, 13]
          obtain ⟨x92, h93, hm⟩ := bnd hm
          refine ⟨_, _, _, _, _, _, rfl, s91.enter, h93, fun H94 v97 s95 => ?_⟩
          have s96 : S _ _ [fz v97 (td x92), en v_law_ties_here (td x_law_ties_here) b_law_ties_here, ow p90 (td x85), en v_law_question_here (td x_law_question_here) b_law_question_here, fz (.ref p64) (td ([x58] : List (Tp Str))), fz (.ref p72) (td ([(Tp.mk x_law_head_here)] : List (Tp Str))), fz (.ref p68) (td (Tp.mk x_law_head_here)), fz v63 (td x58), fz v54 (td x49), ow p45 (td y32), ow p31 (td x26), fz v22 (td x17), fz v15 (td x10), ow p8 (td x3), en v_law_head_here (td x_law_head_here) b_law_head_here] := s91.leave s95
          refine w_nil ?_
          have s98 := s96.pick (E' := [ow p90 (td x85), fz v97 (td x92)] ++ [en v_law_ties_here (td x_law_ties_here) b_law_ties_here, en v_law_question_here (td x_law_question_here) b_law_question_here, fz (.ref p64) (td ([x58] : List (Tp Str))), fz (.ref p72) (td ([(Tp.mk x_law_head_here)] : List (Tp Str))), fz (.ref p68) (td (Tp.mk x_law_head_here)), fz v63 (td x58), fz v54 (td x49), ow p45 (td y32), ow p31 (td x26), fz v22 (td x17), fz v15 (td x10), ow p8 (td x3), en v_law_head_here (td x_law_head_here) b_law_head_here]) [2, 0, 1, 3, 4, 5, 6, 7, 8, 9, 10, 11, 12, 13, 14]
          obtain ⟨x99, h100, hm⟩ := bnd hm
          refine ⟨_, _, _, _, _, _, _, _, _, rfl, s98.enter, h100, fun H101 s102 => ?_⟩
          have s103 : S _ _ [ow p90 (td x85), fz v97 (td x92), en v_law_ties_here (td x_law_ties_here) b_law_ties_here, en v_law_question_here (td x_law_question_here) b_law_question_here, fz (.ref p64) (td ([x58] : List (Tp Str))), fz (.ref p72) (td ([(Tp.mk x_law_head_here)] : List (Tp Str))), fz (.ref p68) (td (Tp.mk x_law_head_here)), fz v63 (td x58), fz v54 (td x49), ow p45 (td y32), ow p31 (td x26), fz v22 (td x17), fz v15 (td x10), ow p8 (td x3), en v_law_head_here (td x_law_head_here) b_law_head_here] := s98.leave s102
          have s104 : S _ _ [en v_law_question_here (td x_law_question_here) b_law_question_here, en v_law_ties_here (td x_law_ties_here) b_law_ties_here, en v_law_head_here (td x_law_head_here) b_law_head_here] := s103.pick [3, 2, 14]
          cases som hm
          exact kQ _ s104
def sp_write_tie (K : PySem.W.Frag) (ce : Str → Addr) : Sp := fun vs H Q _ => ∃ (Z : Addr → Prop) (L : Lk) (v_tie : V) (x_tie : T3 Str Str Str) (r : Str), vs = [v_tie] ∧ S (mk K ce Z L H [fz v_tie (td x_tie)]) H [fz v_tie (td x_tie)] ∧ m_write_tie x_tie = some r ∧ ∀ H', S (mk K ce Z L H [fz v_tie (td x_tie)]) H' [fz v_tie (td x_tie)] → Q (.str r) H'
theorem ok_write_tie {P : Program} {w : World} {K : PySem.W.Frag} {mg : Str → Option Value} {base : Heap} {A : Ad} (T : Txt P K mg A) : FnB P w K mg base 1 A.f_write_tie A.d_write_tie ["tie"] (sp_write_tie K A.ce) := by
  have SC := sc_write_tie
  refine Fun.okG0 T.F_write_tie sc_write_tie (fun vs H Q E h => ?_) (fun cdv Ar outer s9 H vs Q E hr h => ?_)
  · obtain ⟨_, _, _, _, _, rfl, _⟩ := h; rfl
  obtain ⟨Z, L, v_tie, x_tie, r, rfl, s0, hm, kQ⟩ := h
  refine ⟨_, (pss_cons (ps_asg (pv 0) (pg_tup rfl (pgs_cons (pg_name (i := 1) SC.nd rfl (by first | exact Or.inl rfl | exact Or.inr rfl)) (pgs_cons (pg_name (i := 2) SC.nd rfl (by first | exact Or.inl rfl | exact Or.inr rfl)) (pgs_cons (pg_name (i := 3) SC.nd rfl (by first | exact Or.inl rfl | exact Or.inr rfl)) pgs_nil)))))
    (pss_one (ps_ret (pe_joined (.cons (pe_fmt (pv 1)) (.cons pe_str (.cons (pe_fmt (pv 2)) (.cons pe_str (.cons (pe_fmt (pv 3)) (.cons pe_str .nil)))))))))), ?_⟩
  refine w_seq [some (v_tie), none, none, none] rfl ?_
  refine w_asgT ?_
  refine w_var rfl ?_
  refine g_tup3 s0 (k := 0) rfl fun v1 v2 v3 s4 => ?_
  obtain rfl : v1 = .str x_tie.a := (s4.fz (k := 0) rfl).ofSc
  obtain rfl : v2 = .str x_tie.b := (s4.fz (k := 1) rfl).ofSc
  obtain rfl : v3 = .str x_tie.c := (s4.fz (k := 2) rfl).ofSc
  have s5 : S _ _ [fz v_tie (td x_tie)] := s4.pick [3]
  refine w_gcons ?_
  refine w_name ?_
  refine w_gcons ?_
  refine w_name ?_
  refine w_gcons ?_
  refine w_name ?_
  refine w_gnil ?_
  refine w_ret ?_
  refine w_js ?_
  refine w_fmt ?_
  refine w_var rfl ?_
  obtain ⟨z6, h7, hm⟩ := bnd hm
  refine r_fmtS h7 ?_
  refine w_js ?_
  refine w_c ?_
  obtain ⟨z8, h9, hm⟩ := bnd hm
  refine r_fmtC h9 ?_
  refine w_js ?_
  refine w_fmt ?_
  refine w_var rfl ?_
  obtain ⟨z10, h11, hm⟩ := bnd hm
  refine r_fmtS h11 ?_
  refine w_js ?_
  refine w_c ?_
  obtain ⟨z12, h13, hm⟩ := bnd hm
  refine r_fmtC h13 ?_
  refine w_js ?_
  refine w_fmt ?_
  refine w_var rfl ?_
  obtain ⟨z14, h15, hm⟩ := bnd hm
  refine r_fmtS h15 ?_
  refine w_js ?_
  refine w_c ?_
  obtain ⟨z16, h17, hm⟩ := bnd hm
  refine r_fmtC h17 ?_
  refine w_jn ?_
  cases som hm
  exact kQ _ s5
def sp_Question___str__ (K : PySem.W.Frag) (ce : Str → Addr) : Sp := fun vs H Q _ => ∃ (Z : Addr → Prop) (L : Lk) (v_self : V) (x_self : O_Question) (b_self : Bool) (r : Str), vs = [v_self] ∧ S (mk K ce Z L H [en v_self (td x_self) b_self]) H [en v_self (td x_self) b_self] ∧ m_Question___str__ x_self = some r ∧ ∀ H', S (mk K ce Z L H [en v_self (td x_self) b_self]) H' [en v_self (td x_self) b_self] → Q (.str r) H'
theorem ok_Question___str__ {P : Program} {w : World} {K : PySem.W.Frag} {mg : Str → Option Value} {base : Heap} {A : Ad} (T : Txt P K mg A) : FnB P w K mg base 2 A.f_Question___str__ A.d_Question___str__ ["self"] (sp_Question___str__ K A.ce) := by
  have SC := sc_Question___str__
  refine Fun.okG0 T.F_Question___str__ sc_Question___str__ (fun vs H Q E h => ?_) (fun cdv Ar outer s9 H vs Q E hr h => ?_)
  · obtain ⟨_, _, _, _, _, _, rfl, _⟩ := h; rfl
  obtain ⟨Z, L, v_self, x_self, b_self, r, rfl, s0, hm, kQ⟩ := h
  refine ⟨_, (pss_cons (ps_set (i := 1) SC.nd rfl (by first | exact Or.inl rfl | exact Or.inr rfl) (pe_bm PySem.F.plainAttrs_str PySem.F.slot_str_join PySem.F.type_str_join mt_join' pe_str (pa_cons (pe_fld (pv 0) rfl) pa_nil)))
    (pss_cons (ps_set (i := 2) SC.nd rfl (by first | exact Or.inl rfl | exact Or.inr rfl) (pe_ifExp (pt_cmpR op_gt (pe_callB call_lenQ (by rfl) T.n_len PySem.boot_len (pa_cons (pe_fld (pv 0) rfl) pa_nil)) pe_int (nomark _)) pe_str pe_str))
    (pss_cons (ps_set (i := 3) SC.nd rfl (by first | exact Or.inl rfl | exact Or.inr rfl) (pe_bm PySem.F.plainAttrs_str PySem.F.slot_str_join PySem.F.type_str_join mt_join' pe_str (pa_cons (pe_lc (own := [("tie", 4)]) (g := gName 4) rfl SC.nd (pi_list (pe_fld (pv 0) rfl)) (blkOk_by (own := [("tie", 4)]) (N := N_Question___str__) (sc := defScope s_Question___str__) (by decide +kernel)) (fun _ _ _ _ _ => (pg_name (i := 4) SC.nd rfl (by first | exact Or.inl rfl | exact Or.inr rfl))) (fun _ _ _ _ _ => pts_nil) (fun _ _ _ _ _ => (pe_callG ((ok_write_tie T).raw0 T.b_write_tie) (hr.mono (by decide)) takes0 rfl T.g_write_tie T.k_write_tie (pa_cons (pv 4) pa_nil)))) pa_nil)))
    (pss_one (ps_ret (pe_joined (.cons pe_str (.cons (pe_fmt (pv 1)) (.cons pe_str (.cons (pe_fmt (pv 2)) (.cons (pe_fmt (pv 3)) .nil))))))))))), ?_⟩
  refine w_seq [some (v_self), none, none, none, none] rfl ?_
  refine w_set ?_
  refine w_bm ?_
  refine w_c ?_
  refine ⟨rfl, ?_⟩
  refine w_cons ?_
  refine w_fld ?_
  refine w_var rfl ?_
  refine r_fld s0 T.cl_Question T.na_Question__head (ns := nm_Question) (by decide +kernel) (k := 0) rfl rfl (i := 1) rfl fun v1 s2 => ?_
  have s3 : S _ _ [fz v1 (td x_self.f_head), en v_self (td x_self) b_self] := s2
  refine w_nil ?_
  obtain ⟨x4, h5, hm⟩ := bnd hm
  refine r_joinT s3 (k := 0) rfl h5 ?_
  refine w_seq [some (v_self), some (.str x4), none, none, none] rfl ?_
  refine w_set ?_
  obtain ⟨x6, h7, hm⟩ := bnd hm
  refine cutE (P := fun v H9 => v = .str x6 ∧ S (mk K A.ce Z L H [en v_self (td x_self) b_self]) H9 [fz v1 (td x_self.f_head), en v_self (td x_self) b_self]) (fun Q9 k9 => ?_) ?_
  ·
    replace hm := h7
    refine w_ifx ?_
    refine w_test ?_
    refine w_op ?_
    refine w_cb ?_
    refine w_cons ?_
    refine w_fld ?_
    refine w_var rfl ?_
    refine r_fld s3 T.cl_Question T.na_Question__ties (ns := nm_Question) (by decide +kernel) (k := 1) rfl rfl (i := 0) rfl fun v10 s11 => ?_
    have s12 : S _ _ [fz v10 (td x_self.f_ties), fz v1 (td x_self.f_head), en v_self (td x_self) b_self] := s11
    refine w_nil ?_
    refine r_lenQ s12 (k := 0) rfl ?_
    refine w_c ?_
    refine r_I0 ?_
    refine w_bl ?_
    refine w_ite (fun h13 => ?_) (fun h13 => ?_)
    ·
      replace hm := ifT h13 hm
      refine w_c ?_
      have s14 : S _ _ [fz v1 (td x_self.f_head), en v_self (td x_self) b_self] := s12.pick [1, 2]
      cases som hm
      exact k9 _ _ ⟨rfl, s14⟩
    ·
      replace hm := ifF h13 hm
      refine w_c ?_
      have s15 : S _ _ [fz v1 (td x_self.f_head), en v_self (td x_self) b_self] := s12.pick [1, 2]
      cases som hm
      exact k9 _ _ ⟨rfl, s15⟩
  rintro _ H8 ⟨rfl, s9⟩
  refine w_seq [some (v_self), some (.str x4), some (.str x6), none, none] rfl ?_
  refine w_set ?_
  refine w_bm ?_
  refine w_c ?_
  refine ⟨rfl, ?_⟩
  refine w_cons ?_
  refine w_lcL ?_
  refine w_fld ?_
  refine w_var rfl ?_
  refine r_fld s9 T.cl_Question T.na_Question__ties (ns := nm_Question) (by decide +kernel) (k := 1) rfl rfl (i := 0) rfl fun v16 s17 => ?_
  have s18 : S _ _ [fz v16 (td x_self.f_ties), fz v1 (td x_self.f_head), en v_self (td x_self) b_self] := s17
  refine l_lst s18 (k := 0) rfl fun J hJ => ?_
  obtain ⟨y19, h20, hm⟩ := bnd hm
  refine lcB (xs := x_self.f_ties) (ys := y19) (f := m_Question___str___C1) (w := .lst v16) hJ s18 (s18.small (k := 0) rfl) h20 (fun _ hh => ⟨_, 1, _, hh.choose_spec.choose_spec, rfl⟩) (fun d29 o28 D21 acc22 w23 H24 h25 s26 g27 R0 R1 k0 k1 => ?_) ?_
  ·
    replace hm := h25
    have s30 := s26.add (g27 _ 1 _ s26 rfl)
    refine w_name ?_
    refine ⟨rfl, ?_⟩
    refine w_yes ?_
    refine w_tt ?_
    refine w_callG ?_
    refine w_cons ?_
    refine w_var rfl ?_
    refine w_nil ?_
    have s31 := s30.pick (E' := [fz w23 (td d29)] ++ [ow D21 (td acc22), fz v16 (td x_self.f_ties), fz v1 (td x_self.f_head), en v_self (td x_self) b_self]) [0, 1, 2, 3, 4]
    obtain ⟨x32, h33, hm⟩ := bnd hm
    refine ⟨_, _, _, _, _, rfl, s31.enter, h33, fun H34 s35 => ?_⟩
    have s36 : S _ _ [fz w23 (td d29), ow D21 (td acc22), fz v16 (td x_self.f_ties), fz v1 (td x_self.f_head), en v_self (td x_self) b_self] := s31.leave s35
    have s37 : S _ _ [ow D21 (td acc22), fz v16 (td x_self.f_ties), fz v1 (td x_self.f_head), en v_self (td x_self) b_self] := s36.pick [1, 2, 3, 4]
    cases som hm
    exact k1 _ rfl _ _ (s37.add (.sc _))
  intro p38 H39 s40
  refine w_nil ?_
  obtain ⟨x41, h42, hm⟩ := bnd hm
  refine r_joinL s40 (k := 0) rfl h42 ?_
  refine w_ret ?_
  refine w_js ?_
  refine w_c ?_
  obtain ⟨z43, h44, hm⟩ := bnd hm
  refine r_fmtC h44 ?_
  refine w_js ?_
  refine w_fmt ?_
  refine w_var rfl ?_
  obtain ⟨z45, h46, hm⟩ := bnd hm
  refine r_fmtS h46 ?_
  refine w_js ?_
  refine w_c ?_
  obtain ⟨z47, h48, hm⟩ := bnd hm
  refine r_fmtC h48 ?_
  refine w_js ?_
  refine w_fmt ?_
  refine w_var rfl ?_
  obtain ⟨z49, h50, hm⟩ := bnd hm
  refine r_fmtS h50 ?_
  refine w_js ?_
  refine w_fmt ?_
  refine w_var rfl ?_
  obtain ⟨z51, h52, hm⟩ := bnd hm
  refine r_fmtS h52 ?_
  refine w_jn ?_
  have s53 : S _ _ [en v_self (td x_self) b_self] := s40.pick [3]
  cases som hm
  exact kQ _ s53
def sp_check_words_i1 (K : PySem.W.Frag) (ce : Str → Addr) : Sp := fun vs H Q _ => ∃ (Z : Addr → Prop) (L : Lk) (v_ties : V) (x_ties : List (T3 Str Str Str)) (b_ties : Bool) (v_head : V) (x_head : Tp Str), vs = [v_ties, v_head] ∧ S (mk K ce Z L H [en v_ties (td x_ties) b_ties, fz v_head (td x_head)]) H [en v_ties (td x_ties) b_ties, fz v_head (td x_head)] ∧ m_check_words_i1 x_ties x_head = some () ∧ ∀ H', S (mk K ce Z L H [en v_ties (td x_ties) b_ties, fz v_head (td x_head)]) H' [en v_ties (td x_ties) b_ties, fz v_head (td x_head)] → Q .non H'
theorem ok_check_words_i1 {P : Program} {w : World} {K : PySem.W.Frag} {mg : Str → Option Value} {base : Heap} {A : Ad} (T : Txt P K mg A) : FnB P w K mg base 2 A.f__check_words A.d__check_words ["ties", "head"] (sp_check_words_i1 K A.ce) := by
  have SC := sc_check_words_i1
  refine Fun.okG0 T.F__check_words sc_check_words_i1 (fun vs H Q E h => ?_) (fun cdv Ar outer s9 H vs Q E hr h => ?_)
  · obtain ⟨_, _, _, _, _, _, _, rfl, _⟩ := h; rfl
  obtain ⟨Z, L, v_ties, x_ties, b_ties, v_head, x_head, rfl, s0, hm, kQ⟩ := h
  refine ⟨_, (pss_cons (ps_for PassesOwn.never rfl (pi_list (pv 0)) (pg_tup rfl (pgs_cons (pg_name (i := 2) SC.nd rfl (by first | exact Or.inl rfl | exact Or.inr rfl)) (pgs_cons (pg_name (i := 3) SC.nd rfl (by first | exact Or.inl rfl | exact Or.inr rfl)) (pgs_cons (pg_name (i := 4) SC.nd rfl (by first | exact Or.inl rfl | exact Or.inr rfl)) pgs_nil)))) (pss_cons (ps_if (pt_not (pt_val (pe_callG ((ok_is_table T).raw0 T.b_is_table) (hr.mono (by decide)) takes0 rfl T.g_is_table T.k_is_table (pa_cons (pv 2) pa_nil)))) (pss_one ps_never) pss_nil)
    (pss_cons (ps_if (pt_not (pt_val (pe_callG ((ok_is_name T).raw0 T.b_is_name) (hr.mono (by decide)) takes0 rfl T.g_is_name T.k_is_name (pa_cons (pv 3) pa_nil)))) (pss_one ps_never) pss_nil)
    (pss_one (ps_if (pt_not (pt_val (pe_callG ((ok_is_name T).raw0 T.b_is_name) (hr.mono (by decide)) takes0 rfl T.g_is_name T.k_is_name (pa_cons (pv 4) pa_nil)))) (pss_one ps_never) pss_nil)))))
    (pss_one (ps_for PassesOwn.never rfl (pi_tup (pv 1)) (pg_name (i := 5) SC.nd rfl (by first | exact Or.inl rfl | exact Or.inr rfl)) (pss_one (ps_if (pt_not (pt_val (pe_callG ((ok_is_name T).raw0 T.b_is_name) (hr.mono (by decide)) takes0 rfl T.g_is_name T.k_is_name (pa_cons (pv 5) pa_nil)))) (pss_one ps_never) pss_nil))))), ?_⟩
  refine w_seq [some (v_ties), some (v_head), none, none, none, none] rfl ?_
  refine w_forL ?_
  refine w_var rfl ?_
  refine l_lst s0 (k := 0) rfl fun J hJ => ?_
  obtain ⟨r1, h2, hm⟩ := bnd hm
  refine forB (c := (mk K A.ce Z L H [en v_ties (td x_ties) b_ties, fz v_head (td x_head)])) x_ties (w := .lst v_ties) hJ (fun l10 σ7 H8 => ∃ (o4 : Option V) (o5 : Option V) (o6 : Option V), σ7 = [some (v_ties), some (v_head), o4, o5, o6, none] ∧ S (mk K A.ce Z L H [en v_ties (td x_ties) b_ties, fz v_head (td x_head)]) H8 [en v_ties (td x_ties) b_ties, fz v_head (td x_head)] ∧ foldO l10 () m_check_words_i1_L1 = some r1) ?_ ?_ ?_ ?_
  ·
    exact ⟨_, _, _, rfl, s0, h2⟩
  ·
    rintro _ _ _ ⟨o4, o5, o6, rfl, s9, h11⟩; exact ⟨_, 0, _, s9, rfl⟩
  ·
    rintro d12 l10 w13 _ H8 ⟨o4, o5, o6, rfl, s9, h11⟩ g14
    obtain ⟨q15, h16, h17⟩ := fold_cons h11
    have h3 := hm
    replace hm := h16
    have s20 := s9.add (g14 _ 0 _ s9 rfl)
    refine g_tup3 s20 (k := 0) rfl fun v21 v22 v23 s24 => ?_
    obtain rfl : v21 = .str d12.a := (s24.fz (k := 0) rfl).ofSc
    obtain rfl : v22 = .str d12.b := (s24.fz (k := 1) rfl).ofSc
    obtain rfl : v23 = .str d12.c := (s24.fz (k := 2) rfl).ofSc
    have s25 : S _ _ [fz w13 (td d12), en v_ties (td x_ties) b_ties, fz v_head (td x_head)] := s24.pick [3, 4, 5]
    refine w_gcons ?_
    refine w_name ?_
    refine w_gcons ?_
    refine w_name ?_
    refine w_gcons ?_
    refine w_name ?_
    refine w_gnil ?_
    refine w_seq [some (v_ties), some (v_head), some (.str d12.a), some (.str d12.b), some (.str d12.c), none] rfl ?_
    refine w_if ?_
    refine w_not ?_
    refine w_B ?_
    refine w_callG ?_
    refine w_cons ?_
    refine w_var rfl ?_
    refine w_nil ?_
    have s26 := s25.pick (E' := [] ++ [fz w13 (td d12), en v_ties (td x_ties) b_ties, fz v_head (td x_head)]) [0, 1, 2]
    obtain ⟨x27, h28, hm⟩ := bnd hm
    refine ⟨_, _, _, _, rfl, s26.enter, h28, fun H29 s30 => ?_⟩
    have s31 : S _ _ [fz w13 (td d12), en v_ties (td x_ties) b_ties, fz v_head (td x_head)] := s26.leave s30
    refine w_bl ?_
    refine w_ite (fun h32 => ?_) (fun h32 => ?_)
    ·
      replace hm := ifT h32 hm
      cases hm
    ·
      replace hm := ifF h32 hm
      refine w_next ?_
      refine w_seq [some (v_ties), some (v_head), some (.str d12.a), some (.str d12.b), some (.str d12.c), none] rfl ?_
      refine w_if ?_
      refine w_not ?_
      refine w_B ?_
      refine w_callG ?_
      refine w_cons ?_
      refine w_var rfl ?_
      refine w_nil ?_
      have s33 := s31.pick (E' := [] ++ [fz w13 (td d12), en v_ties (td x_ties) b_ties, fz v_head (td x_head)]) [0, 1, 2]
      obtain ⟨x34, h35, hm⟩ := bnd hm
      refine ⟨_, _, _, _, rfl, s33.enter, h35, fun H36 s37 => ?_⟩
      have s38 : S _ _ [fz w13 (td d12), en v_ties (td x_ties) b_ties, fz v_head (td x_head)] := s33.leave s37
      refine w_bl ?_
      refine w_ite (fun h39 => ?_) (fun h39 => ?_)
      ·
        replace hm := ifT h39 hm
        cases hm
      ·
        replace hm := ifF h39 hm
        refine w_next ?_
        refine w_if ?_
        refine w_not ?_
        refine w_B ?_
        refine w_callG ?_
        refine w_cons ?_
        refine w_var rfl ?_
        refine w_nil ?_
        have s40 := s38.pick (E' := [] ++ [fz w13 (td d12), en v_ties (td x_ties) b_ties, fz v_head (td x_head)]) [0, 1, 2]
        obtain ⟨x41, h42, hm⟩ := bnd hm
        refine ⟨_, _, _, _, rfl, s40.enter, h42, fun H43 s44 => ?_⟩
        have s45 : S _ _ [fz w13 (td d12), en v_ties (td x_ties) b_ties, fz v_head (td x_head)] := s40.leave s44
        refine w_bl ?_
        refine w_ite (fun h46 => ?_) (fun h46 => ?_)
        ·
          replace hm := ifT h46 hm
          cases hm
        ·
          replace hm := ifF h46 hm
          refine w_next ?_
          have s47 : S _ _ [en v_ties (td x_ties) b_ties, fz v_head (td x_head)] := s45.pick [1, 2]
          cases som hm
          exact ⟨_, _, _, rfl, s47, h17⟩
  ·
    rintro _ H8 ⟨o4, o5, o6, rfl, s9, h11⟩
    have e9 := som h11; subst e9
    refine w_forT ?_
    refine w_var rfl ?_
    refine l_tup s9 (k := 1) rfl fun J hJ => ?_
    obtain ⟨r48, h49, hm⟩ := bnd hm
    refine forB (c := (mk K A.ce Z L H [en v_ties (td x_ties) b_ties, fz v_head (td x_head)])) x_head.l (w := .tup v_head) hJ (fun l55 σ52 H53 => ∃ (o51 : Option V), σ52 = [some (v_ties), some (v_head), o4, o5, o6, o51] ∧ S (mk K A.ce Z L H [en v_ties (td x_ties) b_ties, fz v_head (td x_head)]) H53 [en v_ties (td x_ties) b_ties, fz v_head (td x_head)] ∧ foldO l55 () m_check_words_i1_L2 = some r48) ?_ ?_ ?_ ?_
    ·
      exact ⟨_, rfl, s9, h49⟩
    ·
      rintro _ _ _ ⟨o51, rfl, s54, h56⟩; exact ⟨_, 1, _, s54, rfl⟩
    ·
      rintro d57 l55 w58 _ H53 ⟨o51, rfl, s54, h56⟩ g59
      obtain ⟨q60, h61, h62⟩ := fold_cons h56
      have h50 := hm
      replace hm := h61
      obtain rfl : w58 = V.str d57 := (g59 _ 1 _ s54 rfl).ofSc
      refine w_name ?_
      refine w_if ?_
      refine w_not ?_
      refine w_B ?_
      refine w_callG ?_
      refine w_cons ?_
      refine w_var rfl ?_
      refine w_nil ?_
      have s65 := s54.pick (E' := [] ++ [en v_ties (td x_ties) b_ties, fz v_head (td x_head)]) [0, 1]
      obtain ⟨x66, h67, hm⟩ := bnd hm
      refine ⟨_, _, _, _, rfl, s65.enter, h67, fun H68 s69 => ?_⟩
      have s70 : S _ _ [en v_ties (td x_ties) b_ties, fz v_head (td x_head)] := s65.leave s69
      refine w_bl ?_
      refine w_ite (fun h71 => ?_) (fun h71 => ?_)
      ·
        replace hm := ifT h71 hm
        cases hm
      ·
        replace hm := ifF h71 hm
        refine w_next ?_
        cases som hm
        exact ⟨_, rfl, s70, h62⟩
    ·
      rintro _ H53 ⟨o51, rfl, s54, h56⟩
      have e9 := som h56; subst e9
      cases som hm
      exact kQ _ s54
def sp_check_head_i1 (K : PySem.W.Frag) (ce : Str → Addr) : Sp := fun vs H Q _ => ∃ (Z : Addr → Prop) (L : Lk) (v_head : V) (x_head : Tp Str) (v_names : V) (x_names : List Str) (b_names : Bool) (x_most : Int), vs = [v_head, v_names, .int x_most] ∧ S (mk K ce Z L H [fz v_head (td x_head), en v_names (td x_names) b_names]) H [fz v_head (td x_head), en v_names (td x_names) b_names] ∧ m_check_head_i1 x_head x_names x_most = some () ∧ ∀ H', S (mk K ce Z L H [fz v_head (td x_head), en v_names (td x_names) b_names]) H' [fz v_head (td x_head), en v_names (td x_names) b_names] → Q .non H'
theorem ok_check_head_i1 {P : Program} {w : World} {K : PySem.W.Frag} {mg : Str → Option Value} {base : Heap} {A : Ad} (T : Txt P K mg A) : FnB P w K mg base 1 A.f__check_head A.d__check_head ["head", "names", "most"] (sp_check_head_i1 K A.ce) := by
  have SC := sc_check_head_i1
  refine Fun.okG0 T.F__check_head sc_check_head_i1 (fun vs H Q E h => ?_) (fun cdv Ar outer s9 H vs Q E hr h => ?_)
  · obtain ⟨_, _, _, _, _, _, _, _, rfl, _⟩ := h; rfl
  obtain ⟨Z, L, v_head, x_head, v_names, x_names, b_names, x_most, rfl, s0, hm, kQ⟩ := h
  refine ⟨_, (pss_cons (ps_if (pt_cmpR op_gt (pe_callB call_lenQ (by rfl) T.n_len PySem.boot_len (pa_cons (pv 0) pa_nil)) (pv 2) (nomark _)) (pss_one ps_never) pss_nil)
    (pss_one (ps_for PassesOwn.never rfl (pi_tup (pv 0)) (pg_name (i := 3) SC.nd rfl (by first | exact Or.inl rfl | exact Or.inr rfl)) (pss_one (ps_if (pt_cmpR (op_notInA (α := Str) hr (by decide)) (pv 3) (pv 1) (by rfl)) (pss_one ps_never) pss_nil))))), ?_⟩
  refine w_seq [some (v_head), some (v_names), some (.int x_most), none] rfl ?_
  refine w_if ?_
  refine w_test ?_
  refine w_op ?_
  refine w_cb ?_
  refine w_cons ?_
  refine w_var rfl ?_
  refine w_nil ?_
  refine r_lenTp s0 (k := 0) rfl ?_
  refine w_var rfl ?_
  refine r_I0 ?_
  refine w_bl ?_
  refine w_ite (fun h1 => ?_) (fun h1 => ?_)
  ·
    replace hm := ifT h1 hm
    cases hm
  ·
    replace hm := ifF h1 hm
    refine w_next ?_
    refine w_forT ?_
    refine w_var rfl ?_
    refine l_tup s0 (k := 0) rfl fun J hJ => ?_
    obtain ⟨r2, h3, hm⟩ := bnd hm
    refine forB (c := (mk K A.ce Z L H [fz v_head (td x_head), en v_names (td x_names) b_names])) x_head.l (w := .tup v_head) hJ (fun l9 σ6 H7 => ∃ (o5 : Option V), σ6 = [some (v_head), some (v_names), some (.int x_most), o5] ∧ S (mk K A.ce Z L H [fz v_head (td x_head), en v_names (td x_names) b_names]) H7 [fz v_head (td x_head), en v_names (td x_names) b_names] ∧ foldO l9 () (m_check_head_i1_L1 x_names) = some r2) ?_ ?_ ?_ ?_
    ·
      exact ⟨_, rfl, s0, h3⟩
    ·
      rintro _ _ _ ⟨o5, rfl, s8, h10⟩; exact ⟨_, 0, _, s8, rfl⟩
    ·
      rintro d11 l9 w12 _ H7 ⟨o5, rfl, s8, h10⟩ g13
      obtain ⟨q14, h15, h16⟩ := fold_cons h10
      have h4 := hm
      replace hm := h15
      obtain rfl : w12 = V.str d11 := (g13 _ 0 _ s8 rfl).ofSc
      refine w_name ?_
      refine w_if ?_
      refine w_test ?_
      refine w_op ?_
      refine w_var rfl ?_
      refine w_var rfl ?_
      refine r_notInS' s8 (j := 1) rfl ?_
      refine w_bl ?_
      refine w_ite (fun h19 => ?_) (fun h19 => ?_)
      ·
        replace hm := ifT h19 hm
        cases hm
      ·
        replace hm := ifF h19 hm
        refine w_next ?_
        cases som hm
        exact ⟨_, rfl, s8, h16⟩
    ·
      rintro _ H7 ⟨o5, rfl, s8, h10⟩
      have e9 := som h10; subst e9
      cases som hm
      exact kQ _ s8
def sp_Question_head_setter (K : PySem.W.Frag) (ce : Str → Addr) : Sp := fun vs H Q _ => ∃ (Z : Addr → Prop) (L : Lk) (a_self : Addr) (x_self : O_Question) (v_names : V) (x_names : Tp Str) (y_self : O_Question), vs = [.ref a_self, v_names] ∧ S (mk K ce Z L H [ow a_self (td x_self), fz v_names (td x_names)]) H [ow a_self (td x_self), fz v_names (td x_names)] ∧ m_Question_head_setter x_self x_names = some y_self ∧ ∀ H', S (mk K ce Z L H [ow a_self (td x_self), fz v_names (td x_names)]) H' [ow a_self (td y_self), fz v_names (td x_names)] → Q .non H'
theorem ok_Question_head_setter {P : Program} {w : World} {K : PySem.W.Frag} {mg : Str → Option Value} {base : Heap} {A : Ad} (T : Txt P K mg A) : FnB P w K mg base 5 A.f_Question_head_setter A.d_Question_head_setter ["self", "names"] (sp_Question_head_setter K A.ce) := by
  have SC := sc_Question_head_setter
  refine Fun.okG0 T.F_Question_head_setter sc_Question_head_setter (fun vs H Q E h => ?_) (fun cdv Ar outer s9 H vs Q E hr h => ?_)
  · obtain ⟨_, _, _, _, _, _, _, rfl, _⟩ := h; rfl
  obtain ⟨Z, L, a_self, x_self, v_names, x_names, y_self, rfl, s0, hm, kQ⟩ := h
  refine ⟨_, (pss_cons (ps_expr (pe_callG ((ok_check_words_i1 T).raw0 T.b__check_words) (hr.mono (by decide)) takes0 rfl T.g__check_words T.k__check_words (pa_cons (pe_lst pa_nil) (pa_cons (pv 1) pa_nil))))
    (pss_cons (ps_expr (pe_callG ((ok_check_head_i1 T).raw0 T.b__check_head) (hr.mono (by decide)) takes0 rfl T.g__check_head T.k__check_head (pa_cons (pv 1) (pa_cons (pe_propG (pv 0) T.cl_Question T.pr_Question_names ((ok_Question_names T).raw0 T.b_Question_names) (hr.mono (by decide)) rfl) (pa_cons (pe_con (pv 0) rfl) pa_nil)))))
    (pss_one (ps_fld (pv 0) (pe_callTy call_tupOf (by rfl) T.n_tuple (by decide +kernel) (pa_cons (pv 1) pa_nil)) rfl)))), ?_⟩
  refine w_seq [some (.ref a_self), some (v_names)] rfl ?_
  refine w_drop ?_
  refine w_callG ?_
  refine w_cons ?_
  refine w_lst ?_
  refine w_nil ?_
  refine r_lst s0 (.nil) (q := fun p1 H2 s3 => ?_)
  have s4 : S _ _ [fz (.ref p1) (td ([] : List (T3 Str Str Str))), ow a_self (td x_self), fz v_names (td x_names)] := s3
  refine w_cons ?_
  refine w_var rfl ?_
  refine w_nil ?_
  have s5 := s4.pick (E' := [fz (.ref p1) (td ([] : List (T3 Str Str Str))), fz v_names (td x_names)] ++ [ow a_self (td x_self)]) [0, 2, 1]
  obtain ⟨_, h6, hm⟩ := bnd hm
  refine ⟨_, _, _, _, _, _, _, rfl, s5.enter, h6, fun H7 s8 => ?_⟩
  have s9 : S _ _ [fz (.ref p1) (td ([] : List (T3 Str Str Str))), fz v_names (td x_names), ow a_self (td x_self)] := s5.leave s8
  refine w_seq [some (.ref a_self), some (v_names)] rfl ?_
  refine w_drop ?_
  refine w_callG ?_
  refine w_cons ?_
  refine w_var rfl ?_
  refine w_cons ?_
  refine w_prop ?_
  refine w_var rfl ?_
  refine r_prop s9 (k := 2) rfl ?_
  have s10 := s9.pick (E' := [ow a_self (td x_self)] ++ [fz (.ref p1) (td ([] : List (T3 Str Str Str))), fz v_names (td x_names)]) [2, 0, 1]
  obtain ⟨x11, h12, hm⟩ := bnd hm
  refine ⟨_, _, _, _, _, _, rfl, s10.enter, h12, fun H13 p16 s14 => ?_⟩
  have s15 : S _ _ [ow p16 (td x11), ow a_self (td x_self), fz (.ref p1) (td ([] : List (T3 Str Str Str))), fz v_names (td x_names)] := s10.leave s14
  refine w_cons ?_
  refine w_con ?_
  refine w_var rfl ?_
  refine r_con s15 T.cl_Question T.cc_Question_MOST_HEAD.choose_spec (k := 1) (ns := nm_Question) rfl rfl (by decide +kernel) ?_
  refine w_nil ?_
  have s17 := s15.pick (E' := [fz v_names (td x_names), ow p16 (td x11)] ++ [ow a_self (td x_self), fz (.ref p1) (td ([] : List (T3 Str Str Str)))]) [3, 0, 1, 2]
  obtain ⟨_, h18, hm⟩ := bnd hm
  refine ⟨_, _, _, _, _, _, _, _, rfl, s17.enter, h18, fun H19 s20 => ?_⟩
  have s21 : S _ _ [fz v_names (td x_names), ow p16 (td x11), ow a_self (td x_self), fz (.ref p1) (td ([] : List (T3 Str Str Str)))] := s17.leave s20
  refine w_asgF ?_
  refine w_cb ?_
  refine w_cons ?_
  refine w_var rfl ?_
  refine w_nil ?_
  refine q_tupT s21 (i := 0) rfl ?_
  refine w_var rfl ?_
  refine r_putSet s21 T.cl_Question T.na_Question__head (k := 2) (ns := nm_Question) rfl rfl (by decide +kernel) (i := 1) rfl (s21.fz (k := 0) rfl) fun H22 s23 => ?_
  have s24 : S _ _ [fz v_names (td x_names), ow p16 (td x11), ow a_self (td (⟨x_self.f_ties, x_names⟩ : O_Question)), fz (.ref p1) (td ([] : List (T3 Str Str Str)))] := s23
  have s25 : S _ _ [ow a_self (td (⟨x_self.f_ties, x_names⟩ : O_Question)), fz v_names (td x_names)] := s24.pick [2, 0]
  cases som hm
  exact kQ _ s25
def sp_Question_ask (K : PySem.W.Frag) (ce : Str → Addr) : Sp := fun vs H Q _ => ∃ (Z : Addr → Prop) (L : Lk) (a_self : Addr) (x_self : O_Question) (v_names : V) (x_names : Tp Str) (y_self : O_Question), vs = [.ref a_self, v_names] ∧ S (mk K ce Z L H [ow a_self (td x_self), fz v_names (td x_names)]) H [ow a_self (td x_self), fz v_names (td x_names)] ∧ m_Question_ask x_self x_names = some y_self ∧ ∀ H', S (mk K ce Z L H [ow a_self (td x_self), fz v_names (td x_names)]) H' [ow a_self (td y_self), fz v_names (td x_names)] → Q .non H'
theorem ok_Question_ask {P : Program} {w : World} {K : PySem.W.Frag} {mg : Str → Option Value} {base : Heap} {A : Ad} (T : Txt P K mg A) : FnG P w K mg base 8 A.f_Question_ask (spStar 1 (sp_Question_ask K A.ce)) := by
  have SC := sc_Question_ask
  refine Fun.okS0 (ps := ["self"]) T.F_Question_ask sc_Question_ask T.bs_Question_ask (fun cdv Ar outer s9 H vs Q E hr h => ?_)
  obtain ⟨Z, L, a_self, x_self, v_names, x_names, y_self, rfl, s0, hm, kQ⟩ := h
  refine ⟨_, (pss_one (ps_pset (pv 0) (pv 1) T.ps_Question_head_setter ((ok_Question_head_setter T).raw0 T.b_Question_head_setter) (hr.mono (by decide)) takes0)), ?_⟩
  refine w_pset ?_
  refine w_var rfl ?_
  refine w_var rfl ?_
  refine r_pset s0 (k := 0) rfl ?_
  have s1 := s0.pick (E' := [ow a_self (td x_self), fz v_names (td x_names)] ++ []) [0, 1]
  obtain ⟨y2, h3, hm⟩ := bnd hm
  refine ⟨_, _, _, _, _, _, _, rfl, s1.enter, h3, fun H4 s5 => ?_⟩
  have s6 : S _ _ [ow a_self (td y2), fz v_names (td x_names)] := s1.leave s5
  cases som hm
  exact kQ _ s6
def sp_law (K : PySem.W.Frag) (ce : Str → Addr) : Sp := fun vs H Q _ => ∃ (Z : Addr → Prop) (L : Lk) (a_law_script : Addr) (x_law_script : List Int) (r : Bool), vs = [.ref a_law_script] ∧ SqL K H a_law_script (x_law_script.map V.int) ∧ S (mk K ce Z L H []) H [] ∧ m_law x_law_script = some r ∧ ∀ H', S (mk K ce Z L H []) H' [] → Q (.bl r) H'
theorem ok_law {P : Program} {w : World} {K : PySem.W.Frag} {mg : Str → Option Value} {base : Heap} {A : Ad} (T : Txt P K mg A) : FnB P w K mg base 9 A.f_law A.d_law ["_law_script"] (sp_law K A.ce) := by
  have SC := sc_law
  refine Fun.okG0 T.F_law sc_law (fun vs H Q E h => ?_) (fun cdv Ar outer s9 H vs Q E hr h => ?_)
  · obtain ⟨_, _, _, _, _, rfl, _⟩ := h; rfl
  obtain ⟨Z, L, a_law_script, x_law_script, r, rfl, hS, s0, hm, kQ⟩ := h
  refine ⟨_, (pss_cons (ps_set (i := 1) SC.nd rfl (by first | exact Or.inl rfl | exact Or.inr rfl) (pe_callG ((ok_law_pool T).raw0 T.b__law_pool) (hr.mono (by decide)) takes0 rfl T.g__law_pool T.k__law_pool (pa_cons (pv 0) pa_nil)))
    (pss_cons (ps_set (i := 2) SC.nd rfl (by first | exact Or.inl rfl | exact Or.inr rfl) (pe_callG ((ok_law_question T).raw0 T.b__law_question) (hr.mono (by decide)) takes0 rfl T.g__law_question T.k__law_question (pa_cons (pv 1) (pa_cons pe_int pa_nil))))
    (pss_cons (ps_set (i := 3) SC.nd rfl (by first | exact Or.inl rfl | exact Or.inr rfl) (pe_op op_cat (pe_ix ix_list (pv 2) pe_int (fun _ _ => rfl)) (pe_slice sl_list (pe_ix ix_list (pv 2) pe_int (fun _ _ => rfl)) po_none (po_some (pe_callG ((ok_law_take T).raw0 T.b__law_take) (hr.mono (by decide)) takes0 rfl T.g__law_take T.k__law_take (pa_cons (pv 1) (pa_cons pe_int pa_nil)))))))
    (pss_cons (ps_set (i := 4) SC.nd rfl (by first | exact Or.inl rfl | exact Or.inr rfl) (pe_ix ix_list (pv 2) pe_int (fun _ _ => rfl)))
    (pss_cons (ps_set (i := 5) SC.nd rfl (by first | exact Or.inl rfl | exact Or.inr rfl) (pe_callG ((ok_law_text T).raw0 T.b__law_text) (hr.mono (by decide)) takes0 rfl T.g__law_text T.k__law_text (pa_cons (pe_callG ((ok_law_rank_T T).raw0 T.b__law_rank) (hr.mono (by decide)) takes0 rfl T.g__law_rank T.k__law_rank (pa_cons (pv 3) pa_nil)) (pa_cons (pv 4) pa_nil))))
    (pss_cons (ps_set (i := 6) SC.nd rfl (by first | exact Or.inl rfl | exact Or.inr rfl) (pe_makeG T.mk_Question ((ok_Question___init__ T).raw0 T.b_Question___init__) (hr.mono (by decide)) takes0 rfl T.g_Question (pa_cons (pe_callTy call_listOf (by rfl) T.n_list (by decide +kernel) (pa_cons (pv 3) pa_nil)) (pa_cons (pe_callTy call_listOf (by rfl) T.n_list (by decide +kernel) (pa_cons (pv 4) pa_nil)) pa_nil))))
    (pss_cons (ps_for PassesOwn.never rfl (pi_tup (pe_tup (pa_cons (pv 5) (pa_cons (pe_callG ((ok_law_text T).raw0 T.b__law_text) (hr.mono (by decide)) takes0 rfl T.g__law_text T.k__law_text (pa_cons (pv 3) (pa_cons (pv 4) pa_nil))) pa_nil)))) (pg_name (i := 7) SC.nd rfl (by first | exact Or.inl rfl | exact Or.inr rfl)) (pss_cons (ps_set (i := 8) SC.nd rfl (by first | exact Or.inl rfl | exact Or.inr rfl) (pe_cmB (pe_glob (v := .ref (A.ce "Question")) rfl T.g_Question rfl) T.cr_Question T.cm_Question_read (ok_Question_read T) (hr.mono (by decide)) (kb_plain T.b_Question_read) takes0 (pa_cons (pv 7) pa_nil) pk_nil))
    (pss_cons (ps_if (PW.pt (pw_or (pt_not (pt_val (pe_callG ((ok_law_is T).raw0 T.b__law_is) (hr.mono (by decide)) takes0 rfl T.g__law_is T.k__law_is (pa_cons (pv 8) (pa_cons (pv 3) (pa_cons (pv 4) pa_nil)))))) (pw_or1 (pt_cmpR op_ne (pe_callTy (call_strO T.sr_Question ((ok_Question___str__ T).raw0 T.b_Question___str__) (hr.mono (by decide))) (by rfl) T.n_str (by decide +kernel) (pa_cons (pv 8) pa_nil)) (pv 5) (nomark _))))) (pss_one (ps_ret pe_bl)) pss_nil)
    (pss_cons (ps_expr (pe_methG0 (pv 8) T.cl_Question T.m_Question_ask (ok_Question_ask T) (hr.mono (by decide)) takes0 ))
    (pss_one (ps_if (pt_not (pt_val (pe_callG ((ok_law_is T).raw0 T.b__law_is) (hr.mono (by decide)) takes0 rfl T.g__law_is T.k__law_is (pa_cons (pe_cmB (pe_glob (v := .ref (A.ce "Question")) rfl T.g_Question rfl) T.cr_Question T.cm_Question_read (ok_Question_read T) (hr.mono (by decide)) (kb_plain T.b_Question_read) takes0 (pa_cons (pv 7) pa_nil) pk_nil) (pa_cons (pv 3) (pa_cons (pv 4) pa_nil)))))) (pss_one (ps_ret pe_bl)) pss_nil))))))
    (pss_cons (ps_if (pt_cmpR op_ne (pe_callTy (call_strO T.sr_Question ((ok_Question___str__ T).raw0 T.b_Question___str__) (hr.mono (by decide))) (by rfl) T.n_str (by decide +kernel) (pa_cons (pv 6) pa_nil)) (pv 5) (nomark _)) (pss_one (ps_ret pe_bl)) pss_nil)
    (pss_cons (ps_expr (pe_methG0 (pv 6) T.cl_Question T.m_Question_ask (ok_Question_ask T) (hr.mono (by decide)) takes0 ))
    (pss_one (ps_ret (pe_cmpR op_eq (pe_callTy (call_strO T.sr_Question ((ok_Question___str__ T).raw0 T.b_Question___str__) (hr.mono (by decide))) (by rfl) T.n_str (by decide +kernel) (pa_cons (pv 6) pa_nil)) (pe_callG ((ok_law_text T).raw0 T.b__law_text) (hr.mono (by decide)) takes0 rfl T.g__law_text T.k__law_text (pa_cons (pe_callG ((ok_law_rank_T T).raw0 T.b__law_rank) (hr.mono (by decide)) takes0 rfl T.g__law_rank T.k__law_rank (pa_cons (pv 3) pa_nil)) (pa_cons (pe_lst pa_nil) pa_nil))) (nomark _))))))))))))), ?_⟩
  refine w_seq [some (.ref a_law_script), none, none, none, none, none, none, none, none] rfl ?_
  refine w_set ?_
  refine w_callG ?_
  refine w_cons ?_
  refine w_var rfl ?_
  refine w_nil ?_
  have s1 := s0.pick (E' := [] ++ []) []
  obtain ⟨x2, h3, hm⟩ := bnd hm
  refine ⟨_, _, _, _, _, rfl, s0.scr hS rfl, s1.enter, h3, fun H4 p7 s5 => ?_⟩
  have s6 : S _ _ [ow p7 (td x2)] := s1.leave s5
  refine w_seq [some (.ref a_law_script), some (.ref p7), none, none, none, none, none, none, none] rfl ?_
  refine w_set ?_
  refine w_callG ?_
  refine w_cons ?_
  refine w_var rfl ?_
  refine w_cons ?_
  refine w_c ?_
  refine w_nil ?_
  have s8 := s6.pick (E' := [ow p7 (td x2)] ++ []) [0]
  obtain ⟨⟨x9, y10⟩, h11, hm⟩ := bnd hm
  refine ⟨_, _, _, _, _, _, _, rfl, s8.enter, h11, fun H12 v15 s13 => ?_⟩
  have s14 : S _ _ [fz v15 (td x9), ow p7 (td y10)] := s8.leave s13
  refine w_seq [some (.ref a_law_script), some (.ref p7), some (v15), none, none, none, none, none, none] rfl ?_
  refine w_set ?_
  refine w_op ?_
  refine w_op ?_
  refine w_var rfl ?_
  refine w_c ?_
  refine r_ixLd s14 (k := 0) rfl rfl fun v16 s17 => ?_
  refine w_sl ?_
  refine w_op ?_
  refine w_var rfl ?_
  refine w_c ?_
  refine r_ixLd s17 (k := 1) rfl rfl fun v18 s19 => ?_
  refine w_noPart ?_
  refine w_part ?_
  refine w_callG ?_
  refine w_cons ?_
  refine w_var rfl ?_
  refine w_cons ?_
  refine w_c ?_
  refine w_nil ?_
  have s20 := s19.pick (E' := [ow p7 (td y10)] ++ [fz v18 (td x9.a), fz v16 (td x9.a), fz v15 (td x9)]) [3, 0, 1, 2]
  obtain ⟨⟨x21, y22⟩, h23, hm⟩ := bnd hm
  refine ⟨_, _, _, _, _, _, _, rfl, s20.enter, h23, fun H24 s25 => ?_⟩
  have s26 : S _ _ [ow p7 (td y22), fz v18 (td x9.a), fz v16 (td x9.a), fz v15 (td x9)] := s20.leave s25
  refine w_int ?_
  refine r_cutL false s26 (i := 1) rfl fun p27 H28 s29 => ?_
  have s30 : S _ _ [fz (.ref p27) (td (cutL x9.a none (some x21))), ow p7 (td y22), fz v18 (td x9.a), fz v16 (td x9.a), fz v15 (td x9)] := s29
  obtain ⟨y31, h32, hm⟩ := bnd hm
  refine r_catL false s30 (i := 3) (j := 0) rfl rfl h32 fun p33 H34 s35 => ?_
  have s36 : S _ _ [fz (.ref p33) (td y31), fz (.ref p27) (td (cutL x9.a none (some x21))), ow p7 (td y22), fz v18 (td x9.a), fz v16 (td x9.a), fz v15 (td x9)] := s35
  refine w_seq [some (.ref a_law_script), some (.ref p7), some (v15), some (.ref p33), none, none, none, none, none] rfl ?_
  refine w_set ?_
  refine w_op ?_
  refine w_var rfl ?_
  refine w_c ?_
  refine r_ixLd s36 (k := 5) rfl rfl fun v37 s38 => ?_
  refine w_seq [some (.ref a_law_script), some (.ref p7), some (v15), some (.ref p33), some (v37), none, none, none, none] rfl ?_
  refine w_set ?_
  refine w_callG ?_
  refine w_cons ?_
  refine w_callG ?_
  refine w_cons ?_
  refine w_var rfl ?_
  refine w_nil ?_
  have s39 := s38.pick (E' := [fz (.ref p33) (td y31)] ++ [fz v37 (td x9.b), fz (.ref p27) (td (cutL x9.a none (some x21))), ow p7 (td y22), fz v18 (td x9.a), fz v16 (td x9.a), fz v15 (td x9)]) [1, 0, 2, 3, 4, 5, 6]
  obtain ⟨x40, h41, hm⟩ := bnd hm
  refine ⟨_, _, _, _, _, _, rfl, s39.enter, h41, fun H42 v45 s43 => ?_⟩
  have s44 : S _ _ [fz v45 (td x40), fz (.ref p33) (td y31), fz v37 (td x9.b), fz (.ref p27) (td (cutL x9.a none (some x21))), ow p7 (td y22), fz v18 (td x9.a), fz v16 (td x9.a), fz v15 (td x9)] := s39.leave s43
  refine w_cons ?_
  refine w_var rfl ?_
  refine w_nil ?_
  have s46 := s44.pick (E' := [fz v45 (td x40), fz v37 (td x9.b)] ++ [fz (.ref p33) (td y31), fz (.ref p27) (td (cutL x9.a none (some x21))), ow p7 (td y22), fz v18 (td x9.a), fz v16 (td x9.a), fz v15 (td x9)]) [0, 2, 1, 3, 4, 5, 6, 7]
  obtain ⟨x47, h48, hm⟩ := bnd hm
  refine ⟨_, _, _, _, _, _, _, _, _, rfl, s46.enter, h48, fun H49 s50 => ?_⟩
  have s51 : S _ _ [fz v45 (td x40), fz v37 (td x9.b), fz (.ref p33) (td y31), fz (.ref p27) (td (cutL x9.a none (some x21))), ow p7 (td y22), fz v18 (td x9.a), fz v16 (td x9.a), fz v15 (td x9)] := s46.leave s50
  refine w_seq [some (.ref a_law_script), some (.ref p7), some (v15), some (.ref p33), some (v37), some (.str x47), none, none, none] rfl ?_
  refine w_set ?_
  refine w_make ?_
  refine w_cons ?_
  refine w_cb ?_
  refine w_cons ?_
  refine w_var rfl ?_
  refine w_nil ?_
  refine q_listL false s51 (i := 2) rfl fun p52 H53 s54 => ?_
  have s55 : S _ _ [fz (.ref p52) (td y31), fz v45 (td x40), fz v37 (td x9.b), fz (.ref p33) (td y31), fz (.ref p27) (td (cutL x9.a none (some x21))), ow p7 (td y22), fz v18 (td x9.a), fz v16 (td x9.a), fz v15 (td x9)] := s54
  refine w_cons ?_
  refine w_cb ?_
  refine w_cons ?_
  refine w_var rfl ?_
  refine w_nil ?_
  refine q_listL false s55 (i := 2) rfl fun p56 H57 s58 => ?_
  have s59 : S _ _ [fz (.ref p56) (td x9.b), fz (.ref p52) (td y31), fz v45 (td x40), fz v37 (td x9.b), fz (.ref p33) (td y31), fz (.ref p27) (td (cutL x9.a none (some x21))), ow p7 (td y22), fz v18 (td x9.a), fz v16 (td x9.a), fz v15 (td x9)] := s58
  refine w_nil ?_
  refine r_make (cn := "Question") s59 fun p60 H61 s62 => ?_
  have s63 : S _ _ [ow p60 (.obj "Question" []), fz (.ref p56) (td x9.b), fz (.ref p52) (td y31), fz v45 (td x40), fz v37 (td x9.b), fz (.ref p33) (td y31), fz (.ref p27) (td (cutL x9.a none (some x21))), ow p7 (td y22), fz v18 (td x9.a), fz v16 (td x9.a), fz v15 (td x9)] := s62
  have s64 := s63.pick (E' := [ow p60 (.obj "Question" []), fz (.ref p52) (td y31), fz (.ref p56) (td x9.b)] ++ [fz v45 (td x40), fz v37 (td x9.b), fz (.ref p33) (td y31), fz (.ref p27) (td (cutL x9.a none (some x21))), ow p7 (td y22), fz v18 (td x9.a), fz v16 (td x9.a), fz v15 (td x9)]) [0, 2, 1, 3, 4, 5, 6, 7, 8, 9, 10]
  obtain ⟨y65, h66, hm⟩ := bnd hm
  refine ⟨_, _, _, _, _, _, _, _, _, _, rfl, s64.enter, h66, fun H67 s68 => ?_⟩
  have s69 : S _ _ [ow p60 (td y65), fz (.ref p52) (td y31), fz (.ref p56) (td x9.b), fz v45 (td x40), fz v37 (td x9.b), fz (.ref p33) (td y31), fz (.ref p27) (td (cutL x9.a none (some x21))), ow p7 (td y22), fz v18 (td x9.a), fz v16 (td x9.a), fz v15 (td x9)] := s64.leave s68
  refine ⟨rfl, ?_⟩
  refine w_seq [some (.ref a_law_script), some (.ref p7), some (v15), some (.ref p33), some (v37), some (.str x47), some (.ref p60), none, none] rfl ?_
  refine w_forT ?_
  refine w_tup ?_
  refine w_cons ?_
  refine w_var rfl ?_
  refine w_cons ?_
  refine w_callG ?_
  refine w_cons ?_
  refine w_var rfl ?_
  refine w_cons ?_
  refine w_var rfl ?_
  refine w_nil ?_
  have s70 := s69.pick (E' := [fz (.ref p33) (td y31), fz v37 (td x9.b)] ++ [ow p60 (td y65), fz (.ref p52) (td y31), fz (.ref p56) (td x9.b), fz v45 (td x40), fz (.ref p27) (td (cutL x9.a none (some x21))), ow p7 (td y22), fz v18 (td x9.a), fz v16 (td x9.a), fz v15 (td x9)]) [5, 4, 0, 1, 2, 3, 6, 7, 8, 9, 10]
  obtain ⟨x71, h72, hm⟩ := bnd hm
  refine ⟨_, _, _, _, _, _, _, _, _, rfl, s70.enter, h72, fun H73 s74 => ?_⟩
  have s75 : S _ _ [fz (.ref p33) (td y31), fz v37 (td x9.b), ow p60 (td y65), fz (.ref p52) (td y31), fz (.ref p56) (td x9.b), fz v45 (td x40), fz (.ref p27) (td (cutL x9.a none (some x21))), ow p7 (td y22), fz v18 (td x9.a), fz v16 (td x9.a), fz v15 (td x9)] := s70.leave s74
  refine w_nil ?_
  refine r_tup s75 (.cons (.sc _) (.cons (.sc _) .nil)) (q := fun p76 H77 s78 => ?_)
  have s79 : S _ _ [fz (.ref p76) (td (x47, x71)), fz (.ref p33) (td y31), fz v37 (td x9.b), ow p60 (td y65), fz (.ref p52) (td y31), fz (.ref p56) (td x9.b), fz v45 (td x40), fz (.ref p27) (td (cutL x9.a none (some x21))), ow p7 (td y22), fz v18 (td x9.a), fz v16 (td x9.a), fz v15 (td x9)] := s78
  refine l_tup s79 (k := 0) (ds := List.map td [x47, x71]) rfl fun J hJ => ?_
  obtain ⟨r80, h81, hm⟩ := bnd hm
  refine forB (c := (mk K A.ce Z L H [])) ([x47, x71]) (w := .tup (.ref p76)) hJ (fun l88 σ85 H86 => ∃ (o83 : Option V) (o84 : Option V), σ85 = [some (.ref a_law_script), some (.ref p7), some (v15), some (.ref p33), some (v37), some (.str x47), some (.ref p60), o83, o84] ∧ S (mk K A.ce Z L H []) H86 [fz (.ref p76) (td (x47, x71)), fz (.ref p33) (td y31), fz v37 (td x9.b), ow p60 (td y65), fz (.ref p52) (td y31), fz (.ref p56) (td x9.b), fz v45 (td x40), fz (.ref p27) (td (cutL x9.a none (some x21))), ow p7 (td y22), fz v18 (td x9.a), fz v16 (td x9.a), fz v15 (td x9)] ∧ loopO l88 () (m_law_L1 x9 y31 x47) = some r80) ?_ ?_ ?_ ?_
  ·
    exact ⟨_, _, rfl, s79, h81⟩
  ·
    rintro _ _ _ ⟨o83, o84, rfl, s87, h89⟩; exact ⟨_, 0, _, s87, rfl⟩
  ·
    rintro d90 l88 w91 _ H86 ⟨o83, o84, rfl, s87, h89⟩ g92
    obtain ⟨q93, h94, h95, h96, h97⟩ := loop_cons h89
    have h82 := hm
    replace hm := h94
    obtain rfl : w91 = V.str d90 := (g92 _ 0 _ s87 rfl).ofSc
    refine w_name ?_
    refine w_seq [some (.ref a_law_script), some (.ref p7), some (v15), some (.ref p33), some (v37), some (.str x47), some (.ref p60), some (.str d90), o84] rfl ?_
    refine w_set ?_
    refine w_cm ?_
    refine w_c ?_
    refine ⟨rfl, ?_⟩
    refine w_cons ?_
    refine w_var rfl ?_
    refine w_nil ?_
    refine w_nil ?_
    refine ⟨rfl, rfl, ?_⟩
    have s98 := s87.pick (E' := [] ++ [fz (.ref p76) (td (x47, x71)), fz (.ref p33) (td y31), fz v37 (td x9.b), ow p60 (td y65), fz (.ref p52) (td y31), fz (.ref p56) (td x9.b), fz v45 (td x40), fz (.ref p27) (td (cutL x9.a none (some x21))), ow p7 (td y22), fz v18 (td x9.a), fz v16 (td x9.a), fz v15 (td x9)]) [0, 1, 2, 3, 4, 5, 6, 7, 8, 9, 10, 11]
    obtain ⟨x99, h100, hm⟩ := bnd hm
    refine ⟨_, _, _, _, rfl, s98.enter, h100, fun H101 p104 s102 => ?_⟩
    have s103 : S _ _ [ow p104 (td x99), fz (.ref p76) (td (x47, x71)), fz (.ref p33) (td y31), fz v37 (td x9.b), ow p60 (td y65), fz (.ref p52) (td y31), fz (.ref p56) (td x9.b), fz v45 (td x40), fz (.ref p27) (td (cutL x9.a none (some x21))), ow p7 (td y22), fz v18 (td x9.a), fz v16 (td x9.a), fz v15 (td x9)] := s98.leave s102
    refine w_seq [some (.ref a_law_script), some (.ref p7), some (v15), some (.ref p33), some (v37), some (.str x47), some (.ref p60), some (.str d90), some (.ref p104)] rfl ?_
    refine w_if ?_
    obtain ⟨b105, h106, hm⟩ := bnd hm
    refine cutT (P := fun v H9 => v = b105 ∧ S (mk K A.ce Z L H []) H9 [ow p104 (td x99), fz (.ref p76) (td (x47, x71)), fz (.ref p33) (td y31), fz v37 (td x9.b), ow p60 (td y65), fz (.ref p52) (td y31), fz (.ref p56) (td x9.b), fz v45 (td x40), fz (.ref p27) (td (cutL x9.a none (some x21))), ow p7 (td y22), fz v18 (td x9.a), fz v16 (td x9.a), fz v15 (td x9)]) (fun Q9 k9 => ?_) ?_
    ·
      replace hm := h106
      refine w_or ?_
      refine w_not ?_
      refine w_B ?_
      refine w_callG ?_
      refine w_cons ?_
      refine w_var rfl ?_
      refine w_cons ?_
      refine w_var rfl ?_
      refine w_cons ?_
      refine w_var rfl ?_
      refine w_nil ?_
      have s109 := s103.pick (E' := [ow p104 (td x99), fz (.ref p33) (td y31), fz v37 (td x9.b)] ++ [fz (.ref p76) (td (x47, x71)), ow p60 (td y65), fz (.ref p52) (td y31), fz (.ref p56) (td x9.b), fz v45 (td x40), fz (.ref p27) (td (cutL x9.a none (some x21))), ow p7 (td y22), fz v18 (td x9.a), fz v16 (td x9.a), fz v15 (td x9)]) [0, 2, 3, 1, 4, 5, 6, 7, 8, 9, 10, 11, 12]
      obtain ⟨x110, h111, hm⟩ := bnd hm
      refine ⟨_, _, _, _, _, _, _, _, _, _, _, _, rfl, s109.enter, h111, fun H112 s113 => ?_⟩
      have s114 : S _ _ [ow p104 (td x99), fz (.ref p33) (td y31), fz v37 (td x9.b), fz (.ref p76) (td (x47, x71)), ow p60 (td y65), fz (.ref p52) (td y31), fz (.ref p56) (td x9.b), fz v45 (td x40), fz (.ref p27) (td (cutL x9.a none (some x21))), ow p7 (td y22), fz v18 (td x9.a), fz v16 (td x9.a), fz v15 (td x9)] := s109.leave s113
      refine w_bl ?_
      refine w_ite (fun h115 => ?_) (fun h115 => ?_)
      ·
        replace hm := ifT h115 hm
        have s116 : S _ _ [ow p104 (td x99), fz (.ref p76) (td (x47, x71)), fz (.ref p33) (td y31), fz v37 (td x9.b), ow p60 (td y65), fz (.ref p52) (td y31), fz (.ref p56) (td x9.b), fz v45 (td x40), fz (.ref p27) (td (cutL x9.a none (some x21))), ow p7 (td y22), fz v18 (td x9.a), fz v16 (td x9.a), fz v15 (td x9)] := s114.pick [0, 3, 1, 2, 4, 5, 6, 7, 8, 9, 10, 11, 12]
        cases som hm
        exact k9 _ _ ⟨rfl, s116⟩
      ·
        replace hm := ifF h115 hm
        refine w_test ?_
        refine w_op ?_
        refine w_cb ?_
        refine w_cons ?_
        refine w_var rfl ?_
        refine w_nil ?_
        refine r_strO s114 (k := 0) rfl fun _ => ?_
        have s117 := s114.pick (E' := [ow p104 (td x99)] ++ [fz (.ref p33) (td y31), fz v37 (td x9.b), fz (.ref p76) (td (x47, x71)), ow p60 (td y65), fz (.ref p52) (td y31), fz (.ref p56) (td x9.b), fz v45 (td x40), fz (.ref p27) (td (cutL x9.a none (some x21))), ow p7 (td y22), fz v18 (td x9.a), fz v16 (td x9.a), fz v15 (td x9)]) [0, 1, 2, 3, 4, 5, 6, 7, 8, 9, 10, 11, 12]
        obtain ⟨x118, h119, hm⟩ := bnd hm
        refine ⟨_, _, _, _, _, _, rfl, s117.enter, h119, fun H120 s121 => ?_⟩
        have s122 : S _ _ [ow p104 (td x99), fz (.ref p33) (td y31), fz v37 (td x9.b), fz (.ref p76) (td (x47, x71)), ow p60 (td y65), fz (.ref p52) (td y31), fz (.ref p56) (td x9.b), fz v45 (td x40), fz (.ref p27) (td (cutL x9.a none (some x21))), ow p7 (td y22), fz v18 (td x9.a), fz v16 (td x9.a), fz v15 (td x9)] := s117.leave s121
        refine ⟨_, rfl, ?_⟩
        refine w_var rfl ?_
        refine r_neS ?_
        refine w_bl ?_
        have s123 : S _ _ [ow p104 (td x99), fz (.ref p76) (td (x47, x71)), fz (.ref p33) (td y31), fz v37 (td x9.b), ow p60 (td y65), fz (.ref p52) (td y31), fz (.ref p56) (td x9.b), fz v45 (td x40), fz (.ref p27) (td (cutL x9.a none (some x21))), ow p7 (td y22), fz v18 (td x9.a), fz v16 (td x9.a), fz v15 (td x9)] := s122.pick [0, 3, 1, 2, 4, 5, 6, 7, 8, 9, 10, 11, 12]
        cases som hm
        exact k9 _ _ ⟨rfl, s123⟩
    rintro _ H107 ⟨rfl, s108⟩
    refine w_ite (fun h124 => ?_) (fun h124 => ?_)
    ·
      replace hm := ifT h124 hm
      refine w_ret ?_
      refine w_c ?_
      have s125 : S _ _ [] := s108.pick []
      have e9 := h97 _ (som hm).symm
      rw [e9] at h82
      cases som h82
      exact kQ _ s125
    ·
      replace hm := ifF h124 hm
      refine w_next ?_
      refine w_seq [some (.ref a_law_script), some (.ref p7), some (v15), some (.ref p33), some (v37), some (.str x47), some (.ref p60), some (.str d90), some (.ref p104)] rfl ?_
      refine w_drop ?_
      refine w_meth ?_
      refine w_var rfl ?_
      refine r_meth s108 (k := 0) (ns := nm_Question) rfl rfl (by decide +kernel) ?_
      refine w_nil ?_
      refine r_star (ws := [.ref p104]) (xs := ([] : List Str)) s108 (.nil) (by simp) fun p126 H127 s128 => ?_
      have s129 : S _ _ [fz (.ref p126) (td (Tp.mk ([] : List Str))), ow p104 (td x99), fz (.ref p76) (td (x47, x71)), fz (.ref p33) (td y31), fz v37 (td x9.b), ow p60 (td y65), fz (.ref p52) (td y31), fz (.ref p56) (td x9.b), fz v45 (td x40), fz (.ref p27) (td (cutL x9.a none (some x21))), ow p7 (td y22), fz v18 (td x9.a), fz v16 (td x9.a), fz v15 (td x9)] := s128
      have s130 := s129.pick (E' := [ow p104 (td x99), fz (.ref p126) (td (Tp.mk ([] : List Str)))] ++ [fz (.ref p76) (td (x47, x71)), fz (.ref p33) (td y31), fz v37 (td x9.b), ow p60 (td y65), fz (.ref p52) (td y31), fz (.ref p56) (td x9.b), fz v45 (td x40), fz (.ref p27) (td (cutL x9.a none (some x21))), ow p7 (td y22), fz v18 (td x9.a), fz v16 (td x9.a), fz v15 (td x9)]) [1, 0, 2, 3, 4, 5, 6, 7, 8, 9, 10, 11, 12, 13]
      obtain ⟨y131, h132, hm⟩ := bnd hm
      refine ⟨_, _, _, _, _, _, _, rfl, s130.enter, h132, fun H133 s134 => ?_⟩
      have s135 : S _ _ [ow p104 (td y131), fz (.ref p126) (td (Tp.mk ([] : List Str))), fz (.ref p76) (td (x47, x71)), fz (.ref p33) (td y31), fz v37 (td x9.b), ow p60 (td y65), fz (.ref p52) (td y31), fz (.ref p56) (td x9.b), fz v45 (td x40), fz (.ref p27) (td (cutL x9.a none (some x21))), ow p7 (td y22), fz v18 (td x9.a), fz v16 (td x9.a), fz v15 (td x9)] := s130.leave s134
      refine w_if ?_
      refine w_not ?_
      refine w_B ?_
      refine w_callG ?_
      refine w_cons ?_
      refine w_cm ?_
      refine w_c ?_
      refine ⟨rfl, ?_⟩
      refine w_cons ?_
      refine w_var rfl ?_
      refine w_nil ?_
      refine w_nil ?_
      refine ⟨rfl, rfl, ?_⟩
      have s136 := s135.pick (E' := [] ++ [ow p104 (td y131), fz (.ref p126) (td (Tp.mk ([] : List Str))), fz (.ref p76) (td (x47, x71)), fz (.ref p33) (td y31), fz v37 (td x9.b), ow p60 (td y65), fz (.ref p52) (td y31), fz (.ref p56) (td x9.b), fz v45 (td x40), fz (.ref p27) (td (cutL x9.a none (some x21))), ow p7 (td y22), fz v18 (td x9.a), fz v16 (td x9.a), fz v15 (td x9)]) [0, 1, 2, 3, 4, 5, 6, 7, 8, 9, 10, 11, 12, 13]
      obtain ⟨x137, h138, hm⟩ := bnd hm
      refine ⟨_, _, _, _, rfl, s136.enter, h138, fun H139 p142 s140 => ?_⟩
      have s141 : S _ _ [ow p142 (td x137), ow p104 (td y131), fz (.ref p126) (td (Tp.mk ([] : List Str))), fz (.ref p76) (td (x47, x71)), fz (.ref p33) (td y31), fz v37 (td x9.b), ow p60 (td y65), fz (.ref p52) (td y31), fz (.ref p56) (td x9.b), fz v45 (td x40), fz (.ref p27) (td (cutL x9.a none (some x21))), ow p7 (td y22), fz v18 (td x9.a), fz v16 (td x9.a), fz v15 (td x9)] := s136.leave s140
      refine w_cons ?_
      refine w_var rfl ?_
      refine w_cons ?_
      refine w_var rfl ?_
      refine w_nil ?_
      have s143 := s141.pick (E' := [ow p142 (td x137), fz (.ref p33) (td y31), fz v37 (td x9.b)] ++ [ow p104 (td y131), fz (.ref p126) (td (Tp.mk ([] : List Str))), fz (.ref p76) (td (x47, x71)), ow p60 (td y65), fz (.ref p52) (td y31), fz (.ref p56) (td x9.b), fz v45 (td x40), fz (.ref p27) (td (cutL x9.a none (some x21))), ow p7 (td y22), fz v18 (td x9.a), fz v16 (td x9.a), fz v15 (td x9)]) [0, 4, 5, 1, 2, 3, 6, 7, 8, 9, 10, 11, 12, 13, 14]
      obtain ⟨x144, h145, hm⟩ := bnd hm
      refine ⟨_, _, _, _, _, _, _, _, _, _, _, _, rfl, s143.enter, h145, fun H146 s147 => ?_⟩
      have s148 : S _ _ [ow p142 (td x137), fz (.ref p33) (td y31), fz v37 (td x9.b), ow p104 (td y131), fz (.ref p126) (td (Tp.mk ([] : List Str))), fz (.ref p76) (td (x47, x71)), ow p60 (td y65), fz (.ref p52) (td y31), fz (.ref p56) (td x9.b), fz v45 (td x40), fz (.ref p27) (td (cutL x9.a none (some x21))), ow p7 (td y22), fz v18 (td x9.a), fz v16 (td x9.a), fz v15 (td x9)] := s143.leave s147
      refine w_bl ?_
      refine w_ite (fun h149 => ?_) (fun h149 => ?_)
      ·
        replace hm := ifT h149 hm
        refine w_ret ?_
        refine w_c ?_
        have s150 : S _ _ [] := s148.pick []
        have e9 := h97 _ (som hm).symm
        rw [e9] at h82
        cases som h82
        exact kQ _ s150
      ·
        replace hm := ifF h149 hm
        refine w_next ?_
        have s151 : S _ _ [fz (.ref p76) (td (x47, x71)), fz (.ref p33) (td y31), fz v37 (td x9.b), ow p60 (td y65), fz (.ref p52) (td y31), fz (.ref p56) (td x9.b), fz v45 (td x40), fz (.ref p27) (td (cutL x9.a none (some x21))), ow p7 (td y22), fz v18 (td x9.a), fz v16 (td x9.a), fz v15 (td x9)] := s148.pick [5, 1, 2, 6, 7, 8, 9, 10, 11, 12, 13, 14]
        exact ⟨_, _, rfl, s151, h95 _ (som hm).symm⟩
  ·
    rintro _ H86 ⟨o83, o84, rfl, s87, h89⟩
    have e9 := som h89; subst e9
    refine w_seq [some (.ref a_law_script), some (.ref p7), some (v15), some (.ref p33), some (v37), some (.str x47), some (.ref p60), o83, o84] rfl ?_
    refine w_if ?_
    refine w_test ?_
    refine w_op ?_
    refine w_cb ?_
    refine w_cons ?_
    refine w_var rfl ?_
    refine w_nil ?_
    refine r_strO s87 (k := 3) rfl fun _ => ?_
    have s152 := s87.pick (E' := [ow p60 (td y65)] ++ [fz (.ref p76) (td (x47, x71)), fz (.ref p33) (td y31), fz v37 (td x9.b), fz (.ref p52) (td y31), fz (.ref p56) (td x9.b), fz v45 (td x40), fz (.ref p27) (td (cutL x9.a none (some x21))), ow p7 (td y22), fz v18 (td x9.a), fz v16 (td x9.a), fz v15 (td x9)]) [3, 0, 1, 2, 4, 5, 6, 7, 8, 9, 10, 11]
    obtain ⟨x153, h154, hm⟩ := bnd hm
    refine ⟨_, _, _, _, _, _, rfl, s152.enter, h154, fun H155 s156 => ?_⟩
    have s157 : S _ _ [ow p60 (td y65), fz (.ref p76) (td (x47, x71)), fz (.ref p33) (td y31), fz v37 (td x9.b), fz (.ref p52) (td y31), fz (.ref p56) (td x9.b), fz v45 (td x40), fz (.ref p27) (td (cutL x9.a none (some x21))), ow p7 (td y22), fz v18 (td x9.a), fz v16 (td x9.a), fz v15 (td x9)] := s152.leave s156
    refine ⟨_, rfl, ?_⟩
    refine w_var rfl ?_
    refine r_neS ?_
    refine w_bl ?_
    refine w_ite (fun h158 => ?_) (fun h158 => ?_)
    ·
      replace hm := ifT h158 hm
      refine w_ret ?_
      refine w_c ?_
      have s159 : S _ _ [] := s157.pick []
      cases som hm
      exact kQ _ s159
    ·
      replace hm := ifF h158 hm
      refine w_next ?_
      refine w_seq [some (.ref a_law_script), some (.ref p7), some (v15), some (.ref p33), some (v37), some (.str x47), some (.ref p60), o83, o84] rfl ?_
      refine w_drop ?_
      refine w_meth ?_
      refine w_var rfl ?_
      refine r_meth s157 (k := 0) (ns := nm_Question) rfl rfl (by decide +kernel) ?_
      refine w_nil ?_
      refine r_star (ws := [.ref p60]) (xs := ([] : List Str)) s157 (.nil) (by simp) fun p160 H161 s162 => ?_
      have s163 : S _ _ [fz (.ref p160) (td (Tp.mk ([] : List Str))), ow p60 (td y65), fz (.ref p76) (td (x47, x71)), fz (.ref p33) (td y31), fz v37 (td x9.b), fz (.ref p52) (td y31), fz (.ref p56) (td x9.b), fz v45 (td x40), fz (.ref p27) (td (cutL x9.a none (some x21))), ow p7 (td y22), fz v18 (td x9.a), fz v16 (td x9.a), fz v15 (td x9)] := s162
      have s164 := s163.pick (E' := [ow p60 (td y65), fz (.ref p160) (td (Tp.mk ([] : List Str)))] ++ [fz (.ref p76) (td (x47, x71)), fz (.ref p33) (td y31), fz v37 (td x9.b), fz (.ref p52) (td y31), fz (.ref p56) (td x9.b), fz v45 (td x40), fz (.ref p27) (td (cutL x9.a none (some x21))), ow p7 (td y22), fz v18 (td x9.a), fz v16 (td x9.a), fz v15 (td x9)]) [1, 0, 2, 3, 4, 5, 6, 7, 8, 9, 10, 11, 12]
      obtain ⟨y165, h166, hm⟩ := bnd hm
      refine ⟨_, _, _, _, _, _, _, rfl, s164.enter, h166, fun H167 s168 => ?_⟩
      have s169 : S _ _ [ow p60 (td y165), fz (.ref p160) (td (Tp.mk ([] : List Str))), fz (.ref p76) (td (x47, x71)), fz (.ref p33) (td y31), fz v37 (td x9.b), fz (.ref p52) (td y31), fz (.ref p56) (td x9.b), fz v45 (td x40), fz (.ref p27) (td (cutL x9.a none (some x21))), ow p7 (td y22), fz v18 (td x9.a), fz v16 (td x9.a), fz v15 (td x9)] := s164.leave s168
      refine w_ret ?_
      refine w_op ?_
      refine w_cb ?_
      refine w_cons ?_
      refine w_var rfl ?_
      refine w_nil ?_
      refine r_strO s169 (k := 0) rfl fun _ => ?_
      have s170 := s169.pick (E' := [ow p60 (td y165)] ++ [fz (.ref p160) (td (Tp.mk ([] : List Str))), fz (.ref p76) (td (x47, x71)), fz (.ref p33) (td y31), fz v37 (td x9.b), fz (.ref p52) (td y31), fz (.ref p56) (td x9.b), fz v45 (td x40), fz (.ref p27) (td (cutL x9.a none (some x21))), ow p7 (td y22), fz v18 (td x9.a), fz v16 (td x9.a), fz v15 (td x9)]) [0, 1, 2, 3, 4, 5, 6, 7, 8, 9, 10, 11, 12]
      obtain ⟨x171, h172, hm⟩ := bnd hm
      refine ⟨_, _, _, _, _, _, rfl, s170.enter, h172, fun H173 s174 => ?_⟩
      have s175 : S _ _ [ow p60 (td y165), fz (.ref p160) (td (Tp.mk ([] : List Str))), fz (.ref p76) (td (x47, x71)), fz (.ref p33) (td y31), fz v37 (td x9.b), fz (.ref p52) (td y31), fz (.ref p56) (td x9.b), fz v45 (td x40), fz (.ref p27) (td (cutL x9.a none (some x21))), ow p7 (td y22), fz v18 (td x9.a), fz v16 (td x9.a), fz v15 (td x9)] := s170.leave s174
      refine ⟨_, rfl, ?_⟩
      refine w_callG ?_
      refine w_cons ?_
      refine w_callG ?_
      refine w_cons ?_
      refine w_var rfl ?_
      refine w_nil ?_
      have s176 := s175.pick (E' := [fz (.ref p33) (td y31)] ++ [ow p60 (td y165), fz (.ref p160) (td (Tp.mk ([] : List Str))), fz (.ref p76) (td (x47, x71)), fz v37 (td x9.b), fz (.ref p52) (td y31), fz (.ref p56) (td x9.b), fz v45 (td x40), fz (.ref p27) (td (cutL x9.a none (some x21))), ow p7 (td y22), fz v18 (td x9.a), fz v16 (td x9.a), fz v15 (td x9)]) [3, 0, 1, 2, 4, 5, 6, 7, 8, 9, 10, 11, 12]
      obtain ⟨x177, h178, hm⟩ := bnd hm
      refine ⟨_, _, _, _, _, _, rfl, s176.enter, h178, fun H179 v182 s180 => ?_⟩
      have s181 : S _ _ [fz v182 (td x177), fz (.ref p33) (td y31), ow p60 (td y165), fz (.ref p160) (td (Tp.mk ([] : List Str))), fz (.ref p76) (td (x47, x71)), fz v37 (td x9.b), fz (.ref p52) (td y31), fz (.ref p56) (td x9.b), fz v45 (td x40), fz (.ref p27) (td (cutL x9.a none (some x21))), ow p7 (td y22), fz v18 (td x9.a), fz v16 (td x9.a), fz v15 (td x9)] := s176.leave s180
      refine w_cons ?_
      refine w_lst ?_
      refine w_nil ?_
      refine r_lst s181 (.nil) (q := fun p183 H184 s185 => ?_)
      have s186 : S _ _ [fz (.ref p183) (td ([] : List Str)), fz v182 (td x177), fz (.ref p33) (td y31), ow p60 (td y165), fz (.ref p160) (td (Tp.mk ([] : List Str))), fz (.ref p76) (td (x47, x71)), fz v37 (td x9.b), fz (.ref p52) (td y31), fz (.ref p56) (td x9.b), fz v45 (td x40), fz (.ref p27) (td (cutL x9.a none (some x21))), ow p7 (td y22), fz v18 (td x9.a), fz v16 (td x9.a), fz v15 (td x9)] := s185
      refine w_nil ?_
      have s187 := s186.pick (E' := [fz v182 (td x177), fz (.ref p183) (td ([] : List Str))] ++ [fz (.ref p33) (td y31), ow p60 (td y165), fz (.ref p160) (td (Tp.mk ([] : List Str))), fz (.ref p76) (td (x47, x71)), fz v37 (td x9.b), fz (.ref p52) (td y31), fz (.ref p56) (td x9.b), fz v45 (td x40), fz (.ref p27) (td (cutL x9.a none (some x21))), ow p7 (td y22), fz v18 (td x9.a), fz v16 (td x9.a), fz v15 (td x9)]) [1, 0, 2, 3, 4, 5, 6, 7, 8, 9, 10, 11, 12, 13, 14]
      obtain ⟨x188, h189, hm⟩ := bnd hm
      refine ⟨_, _, _, _, _, _, _, _, _, rfl, s187.enter, h189, fun H190 s191 => ?_⟩
      have s192 : S _ _ [fz v182 (td x177), fz (.ref p183) (td ([] : List Str)), fz (.ref p33) (td y31), ow p60 (td y165), fz (.ref p160) (td (Tp.mk ([] : List Str))), fz (.ref p76) (td (x47, x71)), fz v37 (td x9.b), fz (.ref p52) (td y31), fz (.ref p56) (td x9.b), fz v45 (td x40), fz (.ref p27) (td (cutL x9.a none (some x21))), ow p7 (td y22), fz v18 (td x9.a), fz v16 (td x9.a), fz v15 (td x9)] := s187.leave s191
      refine r_eqS ?_
      have s193 : S _ _ [] := s192.pick []
      cases som hm
      exact kQ _ s193
end My

namespace My
open PySem L2 FB
theorem all_mk {l : PySem.W.OpenLaw} {w : World} {K : PySem.W.Frag} {h : Heap} {mg : Str → Option Value} {fa : Addr} (X : K.In h) (G : h.Ns mainGlobals mg) (hfa : mg "law" = some (.ref fa))
    {C0 : Addr}
    (aC0 : PySem.W.nsIn K mainGlobals "Question" = some (some (.ref C0)))
    {f0 : Addr} {od0 an0 : Option Addr} {sl0 : Array (Option Value)} {oc0 kV0 dc0 pm0 cd0 ct0 : Value}
    (a0 : PySem.W.nsIn K mainGlobals "_law_pool" = some (some (.ref f0)))
    (l0 : K.lookup f0 = some ⟨oc0, od0, .func (PySem.W.fnOf "_law_pool" "_law_pool" (defArgs s_law_pool) (defBody s_law_pool) (defScope s_law_pool) .none kV0 dc0 pm0 an0 cd0 ct0), sl0⟩)
    (c0 : PySem.W.codeIn K cd0 "_law_pool" = true)
    (k0 : PySem.W.keepIn K (.ref f0) = true)
    {f1 : Addr} {od1 an1 : Option Addr} {sl1 : Array (Option Value)} {oc1 kV1 dc1 pm1 cd1 ct1 : Value}
    (a1 : PySem.W.nsIn K mainGlobals "_law_take" = some (some (.ref f1)))
    (l1 : K.lookup f1 = some ⟨oc1, od1, .func (PySem.W.fnOf "_law_take" "_law_take" (defArgs s_law_take) (defBody s_law_take) (defScope s_law_take) .none kV1 dc1 pm1 an1 cd1 ct1), sl1⟩)
    (c1 : PySem.W.codeIn K cd1 "_law_take" = true)
    (k1 : PySem.W.keepIn K (.ref f1) = true)
    {f2 : Addr} {od2 an2 : Option Addr} {sl2 : Array (Option Value)} {oc2 kV2 dc2 pm2 cd2 ct2 : Value}
    (a2 : PySem.W.nsIn K mainGlobals "_law_word" = some (some (.ref f2)))
    (l2 : K.lookup f2 = some ⟨oc2, od2, .func (PySem.W.fnOf "_law_word" "_law_word" (defArgs s_law_word) (defBody s_law_word) (defScope s_law_word) .none kV2 dc2 pm2 an2 cd2 ct2), sl2⟩)
    (c2 : PySem.W.codeIn K cd2 "_law_word" = true)
    (k2 : PySem.W.keepIn K (.ref f2) = true)
    {f3 : Addr} {od3 an3 : Option Addr} {sl3 : Array (Option Value)} {oc3 kV3 dc3 pm3 cd3 ct3 : Value}
    (a3 : PySem.W.nsIn K mainGlobals "_law_words" = some (some (.ref f3)))
    (l3 : K.lookup f3 = some ⟨oc3, od3, .func (PySem.W.fnOf "_law_words" "_law_words" (defArgs s_law_words) (defBody s_law_words) (defScope s_law_words) .none kV3 dc3 pm3 an3 cd3 ct3), sl3⟩)
    (c3 : PySem.W.codeIn K cd3 "_law_words" = true)
    (k3 : PySem.W.keepIn K (.ref f3) = true)
    {f4 : Addr} {od4 an4 : Option Addr} {sl4 : Array (Option Value)} {oc4 kV4 dc4 pm4 cd4 ct4 : Value}
    (a4 : PySem.W.nsIn K mainGlobals "_law_tables" = some (some (.ref f4)))
    (l4 : K.lookup f4 = some ⟨oc4, od4, .func (PySem.W.fnOf "_law_tables" "_law_tables" (defArgs s_law_tables) (defBody s_law_tables) (defScope s_law_tables) .none kV4 dc4 pm4 an4 cd4 ct4), sl4⟩)
    (c4 : PySem.W.codeIn K cd4 "_law_tables" = true)
    (k4 : PySem.W.keepIn K (.ref f4) = true)
    {f5 : Addr} {od5 an5 : Option Addr} {sl5 : Array (Option Value)} {oc5 kV5 dc5 pm5 cd5 ct5 : Value}
    (a5 : PySem.W.nsIn K mainGlobals "_law_ties" = some (some (.ref f5)))
    (l5 : K.lookup f5 = some ⟨oc5, od5, .func (PySem.W.fnOf "_law_ties" "_law_ties" (defArgs s_law_ties) (defBody s_law_ties) (defScope s_law_ties) .none kV5 dc5 pm5 an5 cd5 ct5), sl5⟩)
    (c5 : PySem.W.codeIn K cd5 "_law_ties" = true)
    (k5 : PySem.W.keepIn K (.ref f5) = true)
    {f6 : Addr} {od6 an6 : Option Addr} {sl6 : Array (Option Value)} {oc6 kV6 dc6 pm6 cd6 ct6 : Value}
    (a6 : PySem.W.nsIn K mainGlobals "_law_met" = some (some (.ref f6)))
    (l6 : K.lookup f6 = some ⟨oc6, od6, .func (PySem.W.fnOf "_law_met" "_law_met" (defArgs s_law_met) (defBody s_law_met) (defScope s_law_met) .none kV6 dc6 pm6 an6 cd6 ct6), sl6⟩)
    (c6 : PySem.W.codeIn K cd6 "_law_met" = true)
    (k6 : PySem.W.keepIn K (.ref f6) = true)
    {f7 : Addr} {od7 an7 : Option Addr} {sl7 : Array (Option Value)} {oc7 kV7 dc7 pm7 cd7 ct7 : Value}
    (a7 : PySem.W.nsIn K mainGlobals "_law_head" = some (some (.ref f7)))
    (l7 : K.lookup f7 = some ⟨oc7, od7, .func (PySem.W.fnOf "_law_head" "_law_head" (defArgs s_law_head) (defBody s_law_head) (defScope s_law_head) .none kV7 dc7 pm7 an7 cd7 ct7), sl7⟩)
    (c7 : PySem.W.codeIn K cd7 "_law_head" = true)
    (k7 : PySem.W.keepIn K (.ref f7) = true)
    {f8 : Addr} {od8 an8 : Option Addr} {sl8 : Array (Option Value)} {oc8 kV8 dc8 pm8 cd8 ct8 : Value}
    (a8 : PySem.W.nsIn K mainGlobals "_law_question" = some (some (.ref f8)))
    (l8 : K.lookup f8 = some ⟨oc8, od8, .func (PySem.W.fnOf "_law_question" "_law_question" (defArgs s_law_question) (defBody s_law_question) (defScope s_law_question) .none kV8 dc8 pm8 an8 cd8 ct8), sl8⟩)
    (c8 : PySem.W.codeIn K cd8 "_law_question" = true)
    (k8 : PySem.W.keepIn K (.ref f8) = true)
    {f9 : Addr} {od9 an9 : Option Addr} {sl9 : Array (Option Value)} {oc9 kV9 dc9 pm9 cd9 ct9 : Value}
    (a9 : PySem.W.nsIn K mainGlobals "_law_rank" = some (some (.ref f9)))
    (l9 : K.lookup f9 = some ⟨oc9, od9, .func (PySem.W.fnOf "_law_rank" "_law_rank" (defArgs s_law_rank_T) (defBody s_law_rank_T) (defScope s_law_rank_T) .none kV9 dc9 pm9 an9 cd9 ct9), sl9⟩)
    (c9 : PySem.W.codeIn K cd9 "_law_rank" = true)
    (k9 : PySem.W.keepIn K (.ref f9) = true)
    {f10 : Addr} {od10 an10 : Option Addr} {sl10 : Array (Option Value)} {oc10 kV10 dc10 pm10 cd10 ct10 : Value}
    (a10 : PySem.W.nsIn K mainGlobals "_law_text" = some (some (.ref f10)))
    (l10 : K.lookup f10 = some ⟨oc10, od10, .func (PySem.W.fnOf "_law_text" "_law_text" (defArgs s_law_text) (defBody s_law_text) (defScope s_law_text) .none kV10 dc10 pm10 an10 cd10 ct10), sl10⟩)
    (c10 : PySem.W.codeIn K cd10 "_law_text" = true)
    (k10 : PySem.W.keepIn K (.ref f10) = true)
    {f11 : Addr} {od11 an11 : Option Addr} {sl11 : Array (Option Value)} {oc11 kV11 dc11 pm11 cd11 ct11 : Value}
    (a11 : PySem.W.nsIn K mainGlobals "is_table" = some (some (.ref f11)))
    (l11 : K.lookup f11 = some ⟨oc11, od11, .func (PySem.W.fnOf "is_table" "is_table" (defArgs s_is_table) (defBody s_is_table) (defScope s_is_table) .none kV11 dc11 pm11 an11 cd11 ct11), sl11⟩)
    (c11 : PySem.W.codeIn K cd11 "is_table" = true)
    (k11 : PySem.W.keepIn K (.ref f11) = true)
    {f12 : Addr} {od12 an12 : Option Addr} {sl12 : Array (Option Value)} {oc12 kV12 dc12 pm12 cd12 ct12 : Value}
    (a12 : PySem.W.nsIn K mainGlobals "is_name" = some (some (.ref f12)))
    (l12 : K.lookup f12 = some ⟨oc12, od12, .func (PySem.W.fnOf "is_name" "is_name" (defArgs s_is_name) (defBody s_is_name) (defScope s_is_name) .none kV12 dc12 pm12 an12 cd12 ct12), sl12⟩)
    (c12 : PySem.W.codeIn K cd12 "is_name" = true)
    (k12 : PySem.W.keepIn K (.ref f12) = true)
    {f13 : Addr} {od13 an13 : Option Addr} {sl13 : Array (Option Value)} {oc13 kV13 dc13 pm13 cd13 ct13 : Value}
    (a13 : PySem.W.nsIn K mainGlobals "_check_words" = some (some (.ref f13)))
    (l13 : K.lookup f13 = some ⟨oc13, od13, .func (PySem.W.fnOf "_check_words" "_check_words" (defArgs s_check_words) (defBody s_check_words) (defScope s_check_words) .none kV13 dc13 pm13 an13 cd13 ct13), sl13⟩)
    (c13 : PySem.W.codeIn K cd13 "_check_words" = true)
    (k13 : PySem.W.keepIn K (.ref f13) = true)
    {f14 : Addr} {od14 an14 : Option Addr} {sl14 : Array (Option Value)} {oc14 kV14 dc14 pm14 cd14 ct14 : Value}
    (a14 : PySem.W.nsIn K mainGlobals "ascending" = some (some (.ref f14)))
    (l14 : K.lookup f14 = some ⟨oc14, od14, .func (PySem.W.fnOf "ascending" "ascending" (defArgs s_ascending_T) (defBody s_ascending_T) (defScope s_ascending_T) .none kV14 dc14 pm14 an14 cd14 ct14), sl14⟩)
    (c14 : PySem.W.codeIn K cd14 "ascending" = true)
    (k14 : PySem.W.keepIn K (.ref f14) = true)
    {f15 : Addr} {od15 an15 : Option Addr} {sl15 : Array (Option Value)} {oc15 kV15 dc15 pm15 cd15 ct15 : Value}
    (a15 : PySem.W.nsIn K mainGlobals "_names_of" = some (some (.ref f15)))
    (l15 : K.lookup f15 = some ⟨oc15, od15, .func (PySem.W.fnOf "_names_of" "_names_of" (defArgs s_names_of) (defBody s_names_of) (defScope s_names_of) .none kV15 dc15 pm15 an15 cd15 ct15), sl15⟩)
    (c15 : PySem.W.codeIn K cd15 "_names_of" = true)
    (k15 : PySem.W.keepIn K (.ref f15) = true)
    {f16 : Addr} {od16 an16 : Option Addr} {sl16 : Array (Option Value)} {oc16 kV16 dc16 pm16 cd16 ct16 : Value}
    (a16 : PySem.W.nsIn K mainGlobals "_check_head" = some (some (.ref f16)))
    (l16 : K.lookup f16 = some ⟨oc16, od16, .func (PySem.W.fnOf "_check_head" "_check_head" (defArgs s_check_head) (defBody s_check_head) (defScope s_check_head) .none kV16 dc16 pm16 an16 cd16 ct16), sl16⟩)
    (c16 : PySem.W.codeIn K cd16 "_check_head" = true)
    (k16 : PySem.W.keepIn K (.ref f16) = true)
    {f17 : Addr} {od17 an17 : Option Addr} {sl17 : Array (Option Value)} {oc17 kV17 dc17 pm17 cd17 ct17 : Value}
    (a17 : PySem.W.findIn K (.ref C0) "__init__" = some (some (.ref f17)))
    (i17 : PySem.W.isFn K (.ref f17) = true)
    {T17 U17 : Addr} {ot17 : Value} {dt17 du17 : Option Addr} {nt17 nu17 : Nat} {st17 su17 : Array (Option Value)}
    (l17 : K.lookup f17 = some ⟨oc17, od17, .func (PySem.W.fnOf "__init__" "Question.__init__" (defArgs s_Question___init__) (defBody s_Question___init__) (defScope s_Question___init__) (.ref T17) kV17 dc17 pm17 an17 cd17 ct17), sl17⟩)
    (c17 : PySem.W.codeIn K cd17 "Question.__init__" = true)
    (k17 : PySem.W.keepIn K (.ref f17) = true)
    (lt17 : K.lookup T17 = some ⟨ot17, dt17, .seq #[.ref U17] nt17, st17⟩)
    (lu17 : K.lookup U17 = some ⟨.type "tuple", du17, .seq #[] nu17, su17⟩)
    {f18 : Addr} {od18 an18 : Option Addr} {sl18 : Array (Option Value)} {oc18 kV18 dc18 pm18 cd18 ct18 : Value}
    (a18 : PySem.W.nsIn K mainGlobals "read_tie" = some (some (.ref f18)))
    (l18 : K.lookup f18 = some ⟨oc18, od18, .func (PySem.W.fnOf "read_tie" "read_tie" (defArgs s_read_tie) (defBody s_read_tie) (defScope s_read_tie) .none kV18 dc18 pm18 an18 cd18 ct18), sl18⟩)
    (c18 : PySem.W.codeIn K cd18 "read_tie" = true)
    (k18 : PySem.W.keepIn K (.ref f18) = true)
    {f19 : Addr} {od19 an19 : Option Addr} {sl19 : Array (Option Value)} {oc19 kV19 dc19 pm19 cd19 ct19 : Value}
    {p19 : Addr} {rs19 : List Value}
    (a19 : PySem.W.findCls K (.ref C0) (.type "type") "read" = some (.get (.builtin "classmethod.__get__") (.ref p19) .none (.ref C0)))
    (pc19 : PySem.W.recIn K p19 "classmethod" = some (.ref f19 :: rs19))
    (i19 : PySem.W.fnIn K f19 = true)
    (l19 : K.lookup f19 = some ⟨oc19, od19, .func (PySem.W.fnOf "read" "Question.read" (defArgs s_Question_read) (defBody s_Question_read) (defScope s_Question_read) .none kV19 dc19 pm19 an19 cd19 ct19), sl19⟩)
    (c19 : PySem.W.codeIn K cd19 "Question.read" = true)
    (k19 : PySem.W.keepIn K (.ref f19) = true)
    {f20 : Addr} {od20 an20 : Option Addr} {sl20 : Array (Option Value)} {oc20 kV20 dc20 pm20 cd20 ct20 : Value}
    {p20 : Addr} {rs20 : List Value}
    (a20 : PySem.W.findIn K (.ref C0) "names" = some (some (.ref p20)))
    (pa20 : PySem.W.specialIn K (.ref p20) "__get__" = some (some (.builtin "property.__get__")))
    (pb20 : PySem.W.takesIn K (.ref p20) = some true)
    (pc20 : PySem.W.recIn K p20 "property" = some (.ref f20 :: rs20))
    (l20 : K.lookup f20 = some ⟨oc20, od20, .func (PySem.W.fnOf "names" "Question.names" (defArgs s_Question_names) (defBody s_Question_names) (defScope s_Question_names) .none kV20 dc20 pm20 an20 cd20 ct20), sl20⟩)
    (c20 : PySem.W.codeIn K cd20 "Question.names" = true)
    (k20 : PySem.W.keepIn K (.ref f20) = true)
    {f21 : Addr} {od21 an21 : Option Addr} {sl21 : Array (Option Value)} {oc21 kV21 dc21 pm21 cd21 ct21 : Value}
    {p21 : Addr} {rs21 : List Value}
    (a21 : PySem.W.findIn K (.ref C0) "tables" = some (some (.ref p21)))
    (pa21 : PySem.W.specialIn K (.ref p21) "__get__" = some (some (.builtin "property.__get__")))
    (pb21 : PySem.W.takesIn K (.ref p21) = some true)
    (pc21 : PySem.W.recIn K p21 "property" = some (.ref f21 :: rs21))
    (l21 : K.lookup f21 = some ⟨oc21, od21, .func (PySem.W.fnOf "tables" "Question.tables" (defArgs s_Question_tables) (defBody s_Question_tables) (defScope s_Question_tables) .none kV21 dc21 pm21 an21 cd21 ct21), sl21⟩)
    (c21 : PySem.W.codeIn K cd21 "Question.tables" = true)
    (k21 : PySem.W.keepIn K (.ref f21) = true)
    {f22 : Addr} {od22 an22 : Option Addr} {sl22 : Array (Option Value)} {oc22 kV22 dc22 pm22 cd22 ct22 : Value}
    {p22 : Addr} {rs22 : List Value}
    (a22 : PySem.W.findIn K (.ref C0) "head" = some (some (.ref p22)))
    (pa22 : PySem.W.specialIn K (.ref p22) "__get__" = some (some (.builtin "property.__get__")))
    (pb22 : PySem.W.takesIn K (.ref p22) = some true)
    (pc22 : PySem.W.recIn K p22 "property" = some (.ref f22 :: rs22))
    (l22 : K.lookup f22 = some ⟨oc22, od22, .func (PySem.W.fnOf "head" "Question.head" (defArgs s_Question_head) (defBody s_Question_head) (defScope s_Question_head) .none kV22 dc22 pm22 an22 cd22 ct22), sl22⟩)
    (c22 : PySem.W.codeIn K cd22 "Question.head" = true)
    (k22 : PySem.W.keepIn K (.ref f22) = true)
    {f23 : Addr} {od23 an23 : Option Addr} {sl23 : Array (Option Value)} {oc23 kV23 dc23 pm23 cd23 ct23 : Value}
    (a23 : PySem.W.nsIn K mainGlobals "_law_same" = some (some (.ref f23)))
    (l23 : K.lookup f23 = some ⟨oc23, od23, .func (PySem.W.fnOf "_law_same" "_law_same" (defArgs s_law_same_Q) (defBody s_law_same_Q) (defScope s_law_same_Q) .none kV23 dc23 pm23 an23 cd23 ct23), sl23⟩)
    (c23 : PySem.W.codeIn K cd23 "_law_same" = true)
    (k23 : PySem.W.keepIn K (.ref f23) = true)
    {f24 : Addr} {od24 an24 : Option Addr} {sl24 : Array (Option Value)} {oc24 kV24 dc24 pm24 cd24 ct24 : Value}
    {p24 : Addr} {rs24 : List Value}
    (a24 : PySem.W.findIn K (.ref C0) "ties" = some (some (.ref p24)))
    (pa24 : PySem.W.specialIn K (.ref p24) "__get__" = some (some (.builtin "property.__get__")))
    (pb24 : PySem.W.takesIn K (.ref p24) = some true)
    (pc24 : PySem.W.recIn K p24 "property" = some (.ref f24 :: rs24))
    (l24 : K.lookup f24 = some ⟨oc24, od24, .func (PySem.W.fnOf "ties" "Question.ties" (defArgs s_Question_ties) (defBody s_Question_ties) (defScope s_Question_ties) .none kV24 dc24 pm24 an24 cd24 ct24), sl24⟩)
    (c24 : PySem.W.codeIn K cd24 "Question.ties" = true)
    (k24 : PySem.W.keepIn K (.ref f24) = true)
    {f25 : Addr} {od25 an25 : Option Addr} {sl25 : Array (Option Value)} {oc25 kV25 dc25 pm25 cd25 ct25 : Value}
    (a25 : PySem.W.nsIn K mainGlobals "_law_is" = some (some (.ref f25)))
    (l25 : K.lookup f25 = some ⟨oc25, od25, .func (PySem.W.fnOf "_law_is" "_law_is" (defArgs s_law_is) (defBody s_law_is) (defScope s_law_is) .none kV25 dc25 pm25 an25 cd25 ct25), sl25⟩)
    (c25 : PySem.W.codeIn K cd25 "_law_is" = true)
    (k25 : PySem.W.keepIn K (.ref f25) = true)
    {f26 : Addr} {od26 an26 : Option Addr} {sl26 : Array (Option Value)} {oc26 kV26 dc26 pm26 cd26 ct26 : Value}
    (a26 : PySem.W.nsIn K mainGlobals "write_tie" = some (some (.ref f26)))
    (l26 : K.lookup f26 = some ⟨oc26, od26, .func (PySem.W.fnOf "write_tie" "write_tie" (defArgs s_write_tie) (defBody s_write_tie) (defScope s_write_tie) .none kV26 dc26 pm26 an26 cd26 ct26), sl26⟩)
    (c26 : PySem.W.codeIn K cd26 "write_tie" = true)
    (k26 : PySem.W.keepIn K (.ref f26) = true)
    {f27 : Addr} {od27 an27 : Option Addr} {sl27 : Array (Option Value)} {oc27 kV27 dc27 pm27 cd27 ct27 : Value}
    (a27 : PySem.W.findIn K (.ref C0) "__str__" = some (some (.ref f27)))
    (i27 : PySem.W.isFn K (.ref f27) = true)
    (l27 : K.lookup f27 = some ⟨oc27, od27, .func (PySem.W.fnOf "__str__" "Question.__str__" (defArgs s_Question___str__) (defBody s_Question___str__) (defScope s_Question___str__) .none kV27 dc27 pm27 an27 cd27 ct27), sl27⟩)
    (c27 : PySem.W.codeIn K cd27 "Question.__str__" = true)
    (k27 : PySem.W.keepIn K (.ref f27) = true)
    {f28 : Addr} {od28 an28 : Option Addr} {sl28 : Array (Option Value)} {oc28 kV28 dc28 pm28 cd28 ct28 : Value}
    {p28 : Addr} {rs28 : List Value} {ra28 : Value}
    (a28 : PySem.W.takerIn K C0 "head" = some (some (.ref p28)))
    (pa28 : PySem.W.typeIn K (.ref p28) = some (.type "property"))
    (pc28 : PySem.W.recIn K p28 "property" = some (ra28 :: .ref f28 :: rs28))
    (l28 : K.lookup f28 = some ⟨oc28, od28, .func (PySem.W.fnOf "head" "Question.head" (defArgs s_Question_head_setter) (defBody s_Question_head_setter) (defScope s_Question_head_setter) .none kV28 dc28 pm28 an28 cd28 ct28), sl28⟩)
    (c28 : PySem.W.codeIn K cd28 "Question.head" = true)
    (k28 : PySem.W.keepIn K (.ref f28) = true)
    {f29 : Addr} {od29 an29 : Option Addr} {sl29 : Array (Option Value)} {oc29 kV29 dc29 pm29 cd29 ct29 : Value}
    (a29 : PySem.W.findIn K (.ref C0) "ask" = some (some (.ref f29)))
    (i29 : PySem.W.isFn K (.ref f29) = true)
    (l29 : K.lookup f29 = some ⟨oc29, od29, .func (PySem.W.fnOf "ask" "Question.ask" (defArgs s_Question_ask) (defBody s_Question_ask) (defScope s_Question_ask) .none kV29 dc29 pm29 an29 cd29 ct29), sl29⟩)
    (c29 : PySem.W.codeIn K cd29 "Question.ask" = true)
    (k29 : PySem.W.keepIn K (.ref f29) = true)
    {f30 : Addr} {od30 an30 : Option Addr} {sl30 : Array (Option Value)} {oc30 kV30 dc30 pm30 cd30 ct30 : Value}
    (a30 : PySem.W.nsIn K mainGlobals "law" = some (some (.ref f30)))
    (l30 : K.lookup f30 = some ⟨oc30, od30, .func (PySem.W.fnOf "law" "law" (defArgs s_law) (defBody s_law) (defScope s_law) .none kV30 dc30 pm30 an30 cd30 ct30), sl30⟩)
    (c30 : PySem.W.codeIn K cd30 "law" = true)
    (k30 : PySem.W.keepIn K (.ref f30) = true)
    (pg0 : PySem.W.plainGet K C0 Str.empty = true)
    (hd0 : PySem.W.hasDictIn K C0 = true)
    (po0 : PySem.W.plainOver K C0 = true)
    (sa0 : PySem.W.findIn K (.ref C0) "__setattr__" = some (some (.builtin "object.__setattr__")))
    (mkC0 : PySem.W.makesIn K C0 = true)
    (kC0 : PySem.W.keepIn K (.ref C0) = true)
    (ia0 : PySem.W.findIn K (.ref C0) "__class__" = some (some (.builtin "object.__class__")))
    (ib0 : PySem.W.specialIn K (.builtin "object.__class__") "__get__" = some (some (.builtin "getset_descriptor.__get__")))
    (ic0 : PySem.W.takesIn K (.builtin "object.__class__") = some true)
    (id0 : PySem.W.mroIn K C0 (.type "object") = some true)
    (na0_0 : PySem.W.findIn K (.ref C0) "_ties" = some none)
    (na0_1 : PySem.W.findIn K (.ref C0) "_head" = some none)
    (ra0 : PySem.W.readsIn K C0 (.type "type") = true)
    (rb0 : PySem.W.specialIn K (.ref C0) "__getattribute__" = some (some (.builtin "type.__getattribute__")))
    {y0 : Tok}
    (ya0 : PySem.W.findIn K (.ref C0) "MOST_HEAD" = some (some (.int 4 y0)))
    (yb0 : PySem.W.specialIn K (.int 4 y0) "__get__" = some none)
    {y1 : Tok}
    (ya1 : PySem.W.findIn K (.ref C0) "MOST_NAMES" = some (some (.int 6 y1)))
    (yb1 : PySem.W.specialIn K (.int 6 y1) "__get__" = some none)
    {y2 : Tok}
    (ya2 : PySem.W.findIn K (.ref C0) "MOST_TIES" = some (some (.int 12 y2)))
    (yb2 : PySem.W.specialIn K (.int 12 y2) "__get__" = some none)
    (z0 : PySem.W.nsIn K mainGlobals "abs" = some none)
    (z1 : PySem.W.nsIn K mainGlobals "all" = some none)
    (z2 : PySem.W.nsIn K mainGlobals "int" = some none)
    (z3 : PySem.W.nsIn K mainGlobals "isinstance" = some none)
    (z4 : PySem.W.nsIn K mainGlobals "len" = some none)
    (z5 : PySem.W.nsIn K mainGlobals "list" = some none)
    (z6 : PySem.W.nsIn K mainGlobals "range" = some none)
    (z7 : PySem.W.nsIn K mainGlobals "sorted" = some none)
    (z8 : PySem.W.nsIn K mainGlobals "str" = some none)
    (z9 : PySem.W.nsIn K mainGlobals "tuple" = some none)
    {t0 : Tok}
    (e0 : PySem.W.nsIn K mainGlobals "LETTERS" = some (some (.str c_LETTERS t0)))
    {t1 : Tok}
    (e1 : PySem.W.nsIn K mainGlobals "CAPITALS" = some (some (.str c_CAPITALS t1)))
    {t2 : Tok}
    (e2 : PySem.W.nsIn K mainGlobals "SIGNS" = some (some (.str c_SIGNS t2)))
    : ∃ (A : Ad) (fd : FuncData), (∀ (s : Shared) (v : Value), BindsTo s fd ⟨[v], []⟩ [("_law_script", v)]) ∧ ∀ base : Heap, K.In base → base.Ns mainGlobals mg → FnB l.prog w K mg base 9 fa fd ["_law_script"] (sp_law K A.ce) := by
  have e := hfa.symm.trans (PySem.W.mg_of X G a30)
  cases e
  obtain ⟨ce, hce⟩ : ∃ ce : Str → Addr, ce = fun s => if s = ("Question" : Str) then C0 else 0 := ⟨_, rfl⟩
  have E0 : ce "Question" = C0 := by rw [hce]; show (if ("Question" : Str) = ("Question" : Str) then C0 else 0) = _;  rw [if_pos rfl]
  have F0 := fun_mk (st := s_law_pool) l0 c0 k0
  have b0 := F0.binds (ps := ["_law_script"]) fun _ _ _ _ _ _ us hl => match us, hl with | [_], _ => rfl
  have F1 := fun_mk (st := s_law_take) l1 c1 k1
  have b1 := F1.binds (ps := ["_law_pool_here", "_law_many"]) fun _ _ _ _ _ _ us hl => match us, hl with | [_, _], _ => rfl
  have F2 := fun_mk (st := s_law_word) l2 c2 k2
  have b2 := F2.binds (ps := ["_law_pool_here", "_law_size"]) fun _ _ _ _ _ _ us hl => match us, hl with | [_, _], _ => rfl
  have F3 := fun_mk (st := s_law_words) l3 c3 k3
  have b3 := F3.binds (ps := ["_law_pool_here", "_law_many"]) fun _ _ _ _ _ _ us hl => match us, hl with | [_, _], _ => rfl
  have F4 := fun_mk (st := s_law_tables) l4 c4 k4
  have b4 := F4.binds (ps := ["_law_pool_here", "_law_many"]) fun _ _ _ _ _ _ us hl => match us, hl with | [_, _], _ => rfl
  have F5 := fun_mk (st := s_law_ties) l5 c5 k5
  have b5 := F5.binds (ps := ["_law_pool_here", "_law_names", "_law_tables_here", "_law_many"]) fun _ _ _ _ _ _ us hl => match us, hl with | [_, _, _, _], _ => rfl
  have F6 := fun_mk (st := s_law_met) l6 c6 k6
  have b6 := F6.binds (ps := ["_law_ties_here"]) fun _ _ _ _ _ _ us hl => match us, hl with | [_], _ => rfl
  have F7 := fun_mk (st := s_law_head) l7 c7 k7
  have b7 := F7.binds (ps := ["_law_pool_here", "_law_ties_here"]) fun _ _ _ _ _ _ us hl => match us, hl with | [_, _], _ => rfl
  have F8 := fun_mk (st := s_law_question) l8 c8 k8
  have b8 := F8.binds (ps := ["_law_pool_here", "_law_most"]) fun _ _ _ _ _ _ us hl => match us, hl with | [_, _], _ => rfl
  have F9 := fun_mk (st := s_law_rank_T) l9 c9 k9
  have b9 := F9.binds (ps := ["_law_things"]) fun _ _ _ _ _ _ us hl => match us, hl with | [_], _ => rfl
  have F10 := fun_mk (st := s_law_text) l10 c10 k10
  have b10 := F10.binds (ps := ["_law_ties_here", "_law_head_here"]) fun _ _ _ _ _ _ us hl => match us, hl with | [_, _], _ => rfl
  have F11 := fun_mk (st := s_is_table) l11 c11 k11
  have b11 := F11.binds (ps := ["text"]) fun _ _ _ _ _ _ us hl => match us, hl with | [_], _ => rfl
  have F12 := fun_mk (st := s_is_name) l12 c12 k12
  have b12 := F12.binds (ps := ["text"]) fun _ _ _ _ _ _ us hl => match us, hl with | [_], _ => rfl
  have F13 := fun_mk (st := s_check_words) l13 c13 k13
  have b13 := F13.binds (ps := ["ties", "head"]) fun _ _ _ _ _ _ us hl => match us, hl with | [_, _], _ => rfl
  have F14 := fun_mk (st := s_ascending_T) l14 c14 k14
  have b14 := F14.binds (ps := ["things"]) fun _ _ _ _ _ _ us hl => match us, hl with | [_], _ => rfl
  have F15 := fun_mk (st := s_names_of) l15 c15 k15
  have b15 := F15.binds (ps := ["ties"]) fun _ _ _ _ _ _ us hl => match us, hl with | [_], _ => rfl
  have F16 := fun_mk (st := s_check_head) l16 c16 k16
  have b16 := F16.binds (ps := ["head", "names", "most"]) fun _ _ _ _ _ _ us hl => match us, hl with | [_, _, _], _ => rfl
  have F17 : FunD K "__init__" "Question.__init__" (defArgs s_Question___init__) (defBody s_Question___init__) (defScope s_Question___init__) [.ref U17] [] f17 (PySem.W.fnOf "__init__" "Question.__init__" (defArgs s_Question___init__) (defBody s_Question___init__) (defScope s_Question___init__) (.ref T17) kV17 dc17 pm17 an17 cd17 ct17) := ⟨⟨_, _, _, _, _, _, _, _, _, _, rfl, l17, c17, .inr ⟨by simp, T17, _, [.ref U17], _, rfl, lt17, rfl, .cons rfl .nil⟩, .inl rfl⟩, k17⟩
  have bd17 := F17.binds1 (ps := ["self", "ties", "head"]) 2 0 (by simp) rfl fun T kV doc pm an cdv ct us its hl hi => match us, hl, its, hi with | [_, _], _, [_], _ => ⟨_, rfl, rfl⟩
  have b17 := F17.binds1 (ps := ["self", "ties", "head"]) 3 1 (by simp) rfl fun T kV doc pm an cdv ct us its hl hi => match us, hl, its, hi with | [_, _, _], _, [_], _ => ⟨_, rfl, rfl⟩
  have b17 := binds_nil b17
  have F18 := fun_mk (st := s_read_tie) l18 c18 k18
  have b18 := F18.binds (ps := ["text"]) fun _ _ _ _ _ _ us hl => match us, hl with | [_], _ => rfl
  have F19 := fun_mk (st := s_Question_read) l19 c19 k19
  have b19 := F19.binds (ps := ["cls", "text"]) fun _ _ _ _ _ _ us hl => match us, hl with | [_, _], _ => rfl
  have F20 := fun_mk (st := s_Question_names) l20 c20 k20
  have b20 := F20.binds (ps := ["self"]) fun _ _ _ _ _ _ us hl => match us, hl with | [_], _ => rfl
  have F21 := fun_mk (st := s_Question_tables) l21 c21 k21
  have b21 := F21.binds (ps := ["self"]) fun _ _ _ _ _ _ us hl => match us, hl with | [_], _ => rfl
  have F22 := fun_mk (st := s_Question_head) l22 c22 k22
  have b22 := F22.binds (ps := ["self"]) fun _ _ _ _ _ _ us hl => match us, hl with | [_], _ => rfl
  have F23 := fun_mk (st := s_law_same_Q) l23 c23 k23
  have b23 := F23.binds (ps := ["_law_actual", "_law_expected"]) fun _ _ _ _ _ _ us hl => match us, hl with | [_, _], _ => rfl
  have F24 := fun_mk (st := s_Question_ties) l24 c24 k24
  have b24 := F24.binds (ps := ["self"]) fun _ _ _ _ _ _ us hl => match us, hl with | [_], _ => rfl
  have F25 := fun_mk (st := s_law_is) l25 c25 k25
  have b25 := F25.binds (ps := ["_law_question_here", "_law_ties_here", "_law_head_here"]) fun _ _ _ _ _ _ us hl => match us, hl with | [_, _, _], _ => rfl
  have F26 := fun_mk (st := s_write_tie) l26 c26 k26
  have b26 := F26.binds (ps := ["tie"]) fun _ _ _ _ _ _ us hl => match us, hl with | [_], _ => rfl
  have F27 := fun_mk (st := s_Question___str__) l27 c27 k27
  have b27 := F27.binds (ps := ["self"]) fun _ _ _ _ _ _ us hl => match us, hl with | [_], _ => rfl
  have F28 := fun_mk (st := s_Question_head_setter) l28 c28 k28
  have b28 := F28.binds (ps := ["self", "names"]) fun _ _ _ _ _ _ us hl => match us, hl with | [_, _], _ => rfl
  have F29 := fun_mk (st := s_Question_ask) l29 c29 k29
  have b29 : ∀ us rest : List Value, us.length = 1 → bindArgs (PySem.W.fnOf "ask" "Question.ask" (defArgs s_Question_ask) (defBody s_Question_ask) (defScope s_Question_ask) .none kV29 dc29 pm29 an29 cd29 ct29) ⟨us ++ rest, []⟩ = (newTuple rest >>= fun t => pure ((["self"] : List Str).zip us ++ [(("names" : Str), t)])) := fun us rest hl => match us, hl with | [_], _ => match rest with | [] => rfl | _ :: _ => rfl
  have F30 := fun_mk (st := s_law) l30 c30 k30
  have b30 := F30.binds (ps := ["_law_script"]) fun _ _ _ _ _ _ us hl => match us, hl with | [_], _ => rfl
  have T : Txt l.prog K mg ⟨ce, f0, _, f1, _, f2, _, f3, _, f4, _, f5, _, f6, _, f7, _, f8, _, f9, _, f10, _, f11, _, f12, _, f13, _, f14, _, f15, _, f16, _, f17, _, U17, f18, _, f19, _, p19, f20, _, p20, f21, _, p21, f22, _, p22, f23, _, f24, _, p24, f25, _, f26, _, f27, _, f28, _, p28, f29, _, fa, _⟩ := ⟨F0, PySem.W.mg_of X G a0, k0, b0, F1, PySem.W.mg_of X G a1, k1, b1, F2, PySem.W.mg_of X G a2, k2, b2, F3, PySem.W.mg_of X G a3, k3, b3, F4, PySem.W.mg_of X G a4, k4, b4, F5, PySem.W.mg_of X G a5, k5, b5, F6, PySem.W.mg_of X G a6, k6, b6, F7, PySem.W.mg_of X G a7, k7, b7, F8, PySem.W.mg_of X G a8, k8, b8, F9, PySem.W.mg_of X G a9, k9, b9, F10, PySem.W.mg_of X G a10, k10, b10, F11, PySem.W.mg_of X G a11, k11, b11, F12, PySem.W.mg_of X G a12, k12, b12, F13, PySem.W.mg_of X G a13, k13, b13, F14, PySem.W.mg_of X G a14, k14, b14, F15, PySem.W.mg_of X G a15, k15, b15, F16, PySem.W.mg_of X G a16, k16, b16, F17, .inr ⟨_, _, _, lu17, rfl, rfl, Nat.zero_le _, .nil⟩, bd17, (by (try dsimp only); rw [E0]; exact ⟨mkC0, a17, i17, kC0⟩), b17, F18, PySem.W.mg_of X G a18, k18, b18, F19, (by (try dsimp only); rw [E0]; exact ⟨a19, ⟨_, pc19⟩, i19⟩), b19, F20, (by (try dsimp only); rw [E0]; exact ⟨a20, pa20, pb20, _, pc20⟩), b20, F21, (by (try dsimp only); rw [E0]; exact ⟨a21, pa21, pb21, _, pc21⟩), b21, F22, (by (try dsimp only); rw [E0]; exact ⟨a22, pa22, pb22, _, pc22⟩), b22, F23, PySem.W.mg_of X G a23, k23, b23, F24, (by (try dsimp only); rw [E0]; exact ⟨a24, pa24, pb24, _, pc24⟩), b24, F25, PySem.W.mg_of X G a25, k25, b25, F26, PySem.W.mg_of X G a26, k26, b26, F27, (by (try dsimp only); rw [E0]; exact ⟨a27, i27⟩), b27, F28, (by (try dsimp only); rw [E0]; exact ⟨sa0, po0, a28, pa28, _, _, pc28⟩), b28, F29, (by (try dsimp only); rw [E0]; exact ⟨a29, i29, k29⟩), b29, F30, PySem.W.mg_of X G a30, k30, b30, (by (try dsimp only); rw [E0]; exact ⟨⟨pg0, hd0, po0, sa0⟩, ia0, ib0, ic0, id0⟩), (by (try dsimp only); rw [E0]; exact ⟨pg0, hd0, po0, sa0⟩), (by (try dsimp only); rw [E0]; exact PySem.W.mg_of X G aC0), (by (try dsimp only); rw [E0]; exact na0_0), (by (try dsimp only); rw [E0]; exact na0_1), (by (try dsimp only); rw [E0]; exact ⟨ra0, rb0⟩), (by (try dsimp only); rw [E0]; exact ⟨_, ya0, ⟨_, rfl⟩, yb0, by decide +kernel⟩), (by (try dsimp only); rw [E0]; exact ⟨_, ya1, ⟨_, rfl⟩, yb1, by decide +kernel⟩), (by (try dsimp only); rw [E0]; exact ⟨_, ya2, ⟨_, rfl⟩, yb2, by decide +kernel⟩), PySem.W.mg_none_of X G z0, PySem.W.mg_none_of X G z1, PySem.W.mg_none_of X G z2, PySem.W.mg_none_of X G z3, PySem.W.mg_none_of X G z4, PySem.W.mg_none_of X G z5, PySem.W.mg_none_of X G z6, PySem.W.mg_none_of X G z7, PySem.W.mg_none_of X G z8, PySem.W.mg_none_of X G z9, ⟨_, PySem.W.mg_of X G e0⟩, ⟨_, PySem.W.mg_of X G e1⟩, ⟨_, PySem.W.mg_of X G e2⟩⟩
  exact ⟨_, _, fun s v => .of_eq rfl, fun base _ _ => ok_law T⟩
/-- the law of plain Lean is all that is left -/
theorem walk {l : PySem.W.OpenLaw} {q : Program} {loose : List Str} {XP : (Str → Option Value) → Heap → Prop} {YP : World → Heap → Prop} {d : DefRec} {K : Params → PySem.W.Frag} (hn : l.most = some 63) (hdf : d.params.defaults = [])
    (hY : ∀ (w : World) (h : Heap), YP w h → (K w.params).In h)
    (F : ∀ (w : World) (mg : Str → Option Value) (fa : Addr) (h : Heap), (K w.params).In h → h.Ns mainGlobals mg → mg d.name = some (.ref fa) →
      ∃ (A : Ad) (fd : FuncData), (∀ (s : Shared) (u : Value), BindsTo s fd ⟨[u], []⟩ [("_law_script", u)]) ∧ ∀ base : Heap, (K w.params).In base → base.Ns mainGlobals mg → FnB l.prog w (K w.params) mg base 9 fa fd ["_law_script"] (sp_law (K w.params) A.ce)) :
    PySem.W.WalkO q loose XP YP l.row.toRowW d [] (fun f vs => PySem.call f vs) := by
  refine walkG_of (n := 63) (k := 9) (x := "_law_script") (K := K) (sp := fun w vs H Q E => ∀ ce, sp_law (K w.params) ce vs H Q E) hn (by decide) hdf ⟨⟨rfl, by decide, by decide⟩, rfl⟩ hY (fun w mg fa h X G hm => ?_) (fun w H a ns hl _ hS ce => ?_)
  · obtain ⟨A, fd, hb, hF⟩ := F w mg fa h X G hm
    exact ⟨fd, hb, fun base h1 h2 => (hF base h1 h2).imp fun vs H Q E h => h A.ce⟩
  · exact ⟨fun _ => False, [], a, ns, true, rfl, hS, S.nil, law_true ns hl, fun H' _ => rfl⟩
end My
open PySem PySem.W PyProof.Rows
set_option maxRecDepth 100000 in
set_option maxHeartbeats 0 in
theorem PySem.Challenge.cw_foldbelow_k06_question_text_holds : PySem.Challenge.rw_foldbelow_k06_question_text.Holds := by
  w_on; o_law; k_head; (case hw => w_witness2)
  k_fill
  refine My.walk (l := PySem.Challenge.rw_foldbelow_k06_question_text) rfl rfl (fun w h Y => PySem.W.kIn_of Y) ?F
  case F =>
    intro w mg fa h KX G hmg
    refine' My.all_mk KX G hmg ?aC0 ?a0 ?l0 ?c0 ?k0 ?a1 ?l1 ?c1 ?k1 ?a2 ?l2 ?c2 ?k2 ?a3 ?l3 ?c3 ?k3 ?a4 ?l4 ?c4 ?k4 ?a5 ?l5 ?c5 ?k5 ?a6 ?l6 ?c6 ?k6 ?a7 ?l7 ?c7 ?k7 ?a8 ?l8 ?c8 ?k8 ?a9 ?l9 ?c9 ?k9 ?a10 ?l10 ?c10 ?k10 ?a11 ?l11 ?c11 ?k11 ?a12 ?l12 ?c12 ?k12 ?a13 ?l13 ?c13 ?k13 ?a14 ?l14 ?c14 ?k14 ?a15 ?l15 ?c15 ?k15 ?a16 ?l16 ?c16 ?k16 ?a17 ?i17 ?l17 ?c17 ?k17 ?lt17 ?lu17 ?a18 ?l18 ?c18 ?k18 ?a19 ?pc19 ?i19 ?l19 ?c19 ?k19 ?a20 ?pa20 ?pb20 ?pc20 ?l20 ?c20 ?k20 ?a21 ?pa21 ?pb21 ?pc21 ?l21 ?c21 ?k21 ?a22 ?pa22 ?pb22 ?pc22 ?l22 ?c22 ?k22 ?a23 ?l23 ?c23 ?k23 ?a24 ?pa24 ?pb24 ?pc24 ?l24 ?c24 ?k24 ?a25 ?l25 ?c25 ?k25 ?a26 ?l26 ?c26 ?k26 ?a27 ?i27 ?l27 ?c27 ?k27 ?a28 ?pa28 ?pc28 ?l28 ?c28 ?k28 ?a29 ?i29 ?l29 ?c29 ?k29 ?a30 ?l30 ?c30 ?k30 ?pg0 ?hd0 ?po0 ?sa0 ?mkC0 ?kC0 ?ia0 ?ib0 ?ic0 ?id0 ?na0_0 ?na0_1 ?ra0 ?rb0 ?ya0 ?yb0 ?ya1 ?yb1 ?ya2 ?yb2 ?z0 ?z1 ?z2 ?z3 ?z4 ?z5 ?z6 ?z7 ?z8 ?z9 ?e0 ?e1 ?e2
    (case aC0 => k_is)
    (case a0 => k_is)
    (case l0 => k_is)
    (case c0 => k_is)
    (case k0 => k_is)
    (case a1 => k_is)
    (case l1 => k_is)
    (case c1 => k_is)
    (case k1 => k_is)
    (case a2 => k_is)
    (case l2 => k_is)
    (case c2 => k_is)
    (case k2 => k_is)
    (case a3 => k_is)
    (case l3 => k_is)
    (case c3 => k_is)
    (case k3 => k_is)
    (case a4 => k_is)
    (case l4 => k_is)
    (case c4 => k_is)
    (case k4 => k_is)
    (case a5 => k_is)
    (case l5 => k_is)
    (case c5 => k_is)
    (case k5 => k_is)
    (case a6 => k_is)
    (case l6 => k_is)
    (case c6 => k_is)
    (case k6 => k_is)
    (case a7 => k_is)
    (case l7 => k_is)
    (case c7 => k_is)
    (case k7 => k_is)
    (case a8 => k_is)
    (case l8 => k_is)
    (case c8 => k_is)
    (case k8 => k_is)
    (case a9 => k_is)
    (case l9 => k_is)
    (case c9 => k_is)
    (case k9 => k_is)
    (case a10 => k_is)
    (case l10 => k_is)
    (case c10 => k_is)
    (case k10 => k_is)
    (case a11 => k_is)
    (case l11 => k_is)
    (case c11 => k_is)
    (case k11 => k_is)
    (case a12 => k_is)
    (case l12 => k_is)
    (case c12 => k_is)
    (case k12 => k_is)
    (case a13 => k_is)
    (case l13 => k_is)
    (case c13 => k_is)
    (case k13 => k_is)
    (case a14 => k_is)
    (case l14 => k_is)
    (case c14 => k_is)
    (case k14 => k_is)
    (case a15 => k_is)
    (case l15 => k_is)
    (case c15 => k_is)
    (case k15 => k_is)
    (case a16 => k_is)
    (case l16 => k_is)
    (case c16 => k_is)
    (case k16 => k_is)
    (case a17 => k_is)
    (case i17 => k_is)
    (case l17 => k_is)
    (case c17 => k_is)
    (case k17 => k_is)
    (case lt17 => k_is)
    (case lu17 => k_is)
    (case a18 => k_is)
    (case l18 => k_is)
    (case c18 => k_is)
    (case k18 => k_is)
    (case a19 => k_is)
    (case pc19 => k_is)
    (case i19 => k_is)
    (case l19 => k_is)
    (case c19 => k_is)
    (case k19 => k_is)
    (case a20 => k_is)
    (case pa20 => k_is)
    (case pb20 => k_is)
    (case pc20 => k_is)
    (case l20 => k_is)
    (case c20 => k_is)
    (case k20 => k_is)
    (case a21 => k_is)
    (case pa21 => k_is)
    (case pb21 => k_is)
    (case pc21 => k_is)
    (case l21 => k_is)
    (case c21 => k_is)
    (case k21 => k_is)
    (case a22 => k_is)
    (case pa22 => k_is)
    (case pb22 => k_is)
    (case pc22 => k_is)
    (case l22 => k_is)
    (case c22 => k_is)
    (case k22 => k_is)
    (case a23 => k_is)
    (case l23 => k_is)
    (case c23 => k_is)
    (case k23 => k_is)
    (case a24 => k_is)
    (case pa24 => k_is)
    (case pb24 => k_is)
    (case pc24 => k_is)
    (case l24 => k_is)
    (case c24 => k_is)
    (case k24 => k_is)
    (case a25 => k_is)
    (case l25 => k_is)
    (case c25 => k_is)
    (case k25 => k_is)
    (case a26 => k_is)
    (case l26 => k_is)
    (case c26 => k_is)
    (case k26 => k_is)
    (case a27 => k_is)
    (case i27 => k_is)
    (case l27 => k_is)
    (case c27 => k_is)
    (case k27 => k_is)
    (case a28 => k_is)
    (case pa28 => k_is)
    (case pc28 => k_is)
    (case l28 => k_is)
    (case c28 => k_is)
    (case k28 => k_is)
    (case a29 => k_is)
    (case i29 => k_is)
    (case l29 => k_is)
    (case c29 => k_is)
    (case k29 => k_is)
    (case a30 => k_is)
    (case l30 => k_is)
    (case c30 => k_is)
    (case k30 => k_is)
    (case pg0 => k_is)
    (case hd0 => k_is)
    (case po0 => k_is)
    (case sa0 => k_is)
    (case mkC0 => k_is)
    (case kC0 => k_is)
    (case ia0 => k_is)
    (case ib0 => k_is)
    (case ic0 => k_is)
    (case id0 => k_is)
    (case na0_0 => k_is)
    (case na0_1 => k_is)
    (case ra0 => k_is)
    (case rb0 => k_is)
    (case ya0 => k_is)
    (case yb0 => k_is)
    (case ya1 => k_is)
    (case yb1 => k_is)
    (case ya2 => k_is)
    (case yb2 => k_is)
    (case z0 => k_is)
    (case z1 => k_is)
    (case z2 => k_is)
    (case z3 => k_is)
    (case z4 => k_is)
    (case z5 => k_is)
    (case z6 => k_is)
    (case z7 => k_is)
    (case z8 => k_is)
    (case z9 => k_is)
    (case e0 => k_is)
    (case e1 => k_is)
    (case e2 => k_is)
