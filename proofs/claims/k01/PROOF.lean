import PyProof.Rows.All
import Wide.All
import OpenK.AllK
import Wide.FinOn
import HandS.ForMost
import HandS.Evl
import PySem.Str
import PySem.PyData
import HandS.Steps
import HandS.Walk
import HandS.IsInst
import PyProof.StrBlock2
import PySem.Challenge.RW_foldbelow_k01_names_and_tables
set_option Elab.async false
set_option maxRecDepth 100000
set_option maxHeartbeats 4000000
set_option linter.all false
namespace FB
open PySem L2

/-- plain data that a value stands for -/
inductive D where
  | sc (v : V)
  | tup (ds : List D)
  | lst (ds : List D)
  | dk (kvs : List (Key × D))
  | dt (kvs : List (List Key × D))
  | obj (c : Str) (fs : List (Str × D))

mutual
/-- the value v stands for the data d, read only; its lists, dicts and objects stand where ok -/
inductive Da (K : PySem.W.Frag) (ce : Str → Addr) (H : Hp) (ok : Addr → Prop) : V → D → Prop
  | sc (v : V) : Da K ce H ok v (.sc v)
  | tup {a : Addr} {vs : List V} {ds : List D} : SqT K H a vs → vs.length ≤ sizeLine → DaL K ce H ok vs ds → Da K ce H ok (.ref a) (.tup ds)
  | lst {a : Addr} {vs : List V} {ds : List D} : ok a → H a = some (.lst vs) → vs.length ≤ sizeLine → DaL K ce H ok vs ds → Da K ce H ok (.ref a) (.lst ds)
  | dk {a : Addr} {kvs : List (Key × V)} {kds : List (Key × D)} : ok a → Rd H a (.dK kvs) → kvs.length ≤ sizeLine → kvs.map Prod.fst = kds.map Prod.fst → DaL K ce H ok (kvs.map Prod.snd) (kds.map Prod.snd) → Da K ce H ok (.ref a) (.dk kds)
  | dt {a : Addr} {kvs : List (List Key × V)} {kds : List (List Key × D)} : ok a → Rd H a (.dT kvs) → kvs.length ≤ sizeLine → kvs.map Prod.fst = kds.map Prod.fst → DaL K ce H ok (kvs.map Prod.snd) (kds.map Prod.snd) → Da K ce H ok (.ref a) (.dt kds)
  | obj {a dx : Addr} {c : Str} {fs : List (Str × V)} {fds : List (Str × D)} : ok a → H a = some (.ins (ce c) dx fs) → fs.length ≤ 100 → fs.map Prod.fst = fds.map Prod.fst → DaL K ce H ok (fs.map Prod.snd) (fds.map Prod.snd) → Da K ce H ok (.ref a) (.obj c fds)
inductive DaL (K : PySem.W.Frag) (ce : Str → Addr) (H : Hp) (ok : Addr → Prop) : List V → List D → Prop
  | nil : DaL K ce H ok [] []
  | cons {v : V} {vs : List V} {d : D} {ds : List D} : Da K ce H ok v d → DaL K ce H ok vs ds → DaL K ce H ok (v :: vs) (d :: ds)
end

/-- a list or an instance: never locked -/
def LI : HO → Prop
  | .lst _ => True
  | .ins _ _ _ => True
  | _ => False
/-- what is kept from H to H' where ok -/
structure Kp (ok : Addr → Prop) (H H' : Hp) : Prop where
  rd : ∀ a u, ok a → Rd H a u → Rd H' a u
  ob : ∀ a o, ok a → LI o → H a = some o → H' a = some o
  tp : ∀ a xs, Rd H a (.tup xs) → Rd H' a (.tup xs)

section
variable {K : PySem.W.Frag} {ce : Str → Addr} {H H' : Hp} {ok ok' : Addr → Prop}
theorem Rd.live {a : Addr} {u : HO} (h : Rd H a u) : H a ≠ none := by
  rcases h with h | ⟨_, h⟩ <;> rw [h] <;> exact fun z => nomatch z
theorem SqT.kp {a : Addr} {xs : List V} (h : SqT K H a xs) (k : ∀ a xs, Rd H a (.tup xs) → Rd H' a (.tup xs)) : SqT K H' a xs := by
  rcases h with h | h
  · exact .inl (k a xs h)
  · exact .inr h
theorem Da.mono {v : V} {d : D} (h : Da K ce H ok v d) (k : Kp ok H H') (hk : ∀ a, ok a → H a ≠ none → ok' a) : Da K ce H' ok' v d :=
  Da.rec (motive_1 := fun v d _ => Da K ce H' ok' v d) (motive_2 := fun vs ds _ => DaL K ce H' ok' vs ds)
    (fun v => .sc v)
    (fun h z _ ih => .tup (SqT.kp h k.tp) z ih)
    (fun o r z _ ih => .lst (hk _ o (by rw [r]; exact fun z => nomatch z)) (k.ob _ _ o trivial r) z ih)
    (fun o r z e _ ih => .dk (hk _ o (Rd.live r)) (k.rd _ _ o r) z e ih)
    (fun o r z e _ ih => .dt (hk _ o (Rd.live r)) (k.rd _ _ o r) z e ih)
    (fun o r z e _ ih => .obj (hk _ o (by rw [r]; exact fun z => nomatch z)) (k.ob _ _ o trivial r) z e ih)
    .nil (fun _ _ i1 i2 => .cons i1 i2) h
theorem DaL.mono {vs : List V} {ds : List D} (h : DaL K ce H ok vs ds) (k : Kp ok H H') (hk : ∀ a, ok a → H a ≠ none → ok' a) : DaL K ce H' ok' vs ds := by
  induction ds generalizing vs with
  | nil => cases h; exact .nil
  | cons d ds ih => cases h with | cons h1 h2 => exact .cons (h1.mono k hk) (ih h2)
theorem Kp.refl : Kp ok H H := ⟨fun _ _ _ h => h, fun _ _ _ _ h => h, fun _ _ h => h⟩
theorem Da.weak {v : V} {d : D} (h : Da K ce H ok v d) (hk : ∀ a, ok a → H a ≠ none → ok' a) : Da K ce H ok' v d := h.mono Kp.refl hk
theorem DaL.weak {vs : List V} {ds : List D} (h : DaL K ce H ok vs ds) (hk : ∀ a, ok a → H a ≠ none → ok' a) : DaL K ce H ok' vs ds := h.mono Kp.refl hk
theorem DaL.length {vs : List V} {ds : List D} (h : DaL K ce H ok vs ds) : vs.length = ds.length := by
  induction ds generalizing vs with
  | nil => cases h; rfl
  | cons d ds ih => cases h with | cons h1 h2 => simp [ih h2]
theorem DaL.get {vs : List V} {ds : List D} {i : Nat} {d : D} (h : DaL K ce H ok vs ds) (e : ds[i]? = some d) : ∃ v, vs[i]? = some v ∧ Da K ce H ok v d := by
  induction ds generalizing vs i with
  | nil => simp at e
  | cons d0 ds ih =>
    cases h with
    | cons h1 h2 =>
      cases i with
      | zero => simp at e; subst e; exact ⟨_, rfl, h1⟩
      | succ i => simp at e; obtain ⟨v, h3, h4⟩ := ih h2 e; exact ⟨v, by simpa using h3, h4⟩
theorem DaL.get' {vs : List V} {ds : List D} {i : Nat} {v : V} (h : DaL K ce H ok vs ds) (e : vs[i]? = some v) : ∃ d, ds[i]? = some d ∧ Da K ce H ok v d := by
  have hl := h.length
  obtain ⟨hi, _⟩ := List.getElem?_eq_some_iff.mp e
  have hd : ds[i]? = some ds[i] := by simp [← hl, hi]
  obtain ⟨v', h1, h2⟩ := h.get hd
  rw [e] at h1; cases h1
  exact ⟨_, hd, h2⟩
theorem DaL.append {vs ws : List V} {ds es : List D} (h : DaL K ce H ok vs ds) (h' : DaL K ce H ok ws es) : DaL K ce H ok (vs ++ ws) (ds ++ es) := by
  induction ds generalizing vs with
  | nil => cases h; exact h'
  | cons d ds ih => cases h with | cons h1 h2 => exact .cons h1 (ih h2)
theorem DaL.one {v : V} {d : D} (h : Da K ce H ok v d) : DaL K ce H ok [v] [d] := .cons h .nil
theorem DaL.take {vs : List V} {ds : List D} (h : DaL K ce H ok vs ds) (n : Nat) : DaL K ce H ok (vs.take n) (ds.take n) := by
  induction ds generalizing vs n with
  | nil => cases h; simp; exact .nil
  | cons d ds ih => cases h with | cons h1 h2 => cases n with
    | zero => exact .nil
    | succ n => exact .cons h1 (ih h2 n)
theorem DaL.drop {vs : List V} {ds : List D} (h : DaL K ce H ok vs ds) (n : Nat) : DaL K ce H ok (vs.drop n) (ds.drop n) := by
  induction ds generalizing vs n with
  | nil => cases h; simp; exact .nil
  | cons d ds ih => cases n with
    | zero => exact h
    | succ n => cases h with | cons h1 h2 => exact ih h2 n
theorem DaL.set {vs : List V} {ds : List D} {v : V} {d : D} (h : DaL K ce H ok vs ds) (h' : Da K ce H ok v d) (n : Nat) : DaL K ce H ok (vs.set n v) (ds.set n d) := by
  induction ds generalizing vs n with
  | nil => cases h; exact .nil
  | cons d ds ih => cases h with | cons h1 h2 => cases n with
    | zero => exact .cons h' h2
    | succ n => exact .cons h1 (ih h2 n)
theorem DaL.eraseIdx {vs : List V} {ds : List D} (h : DaL K ce H ok vs ds) (n : Nat) : DaL K ce H ok (vs.eraseIdx n) (ds.eraseIdx n) := by
  induction ds generalizing vs n with
  | nil => cases h; exact .nil
  | cons d ds ih => cases h with | cons h1 h2 => cases n with
    | zero => exact h2
    | succ n => exact .cons h1 (ih h2 n)
/-- scalars alone -/
theorem DaL.scs {vs : List V} {ws : List V} (h : DaL K ce H ok vs (ws.map D.sc)) : vs = ws := by
  induction ws generalizing vs with
  | nil => cases h; rfl
  | cons w ws ih => cases h with | cons h1 h2 => cases h1; rw [ih h2]
theorem DaL.of_scs (ws : List V) : DaL K ce H ok ws (ws.map D.sc) := by
  induction ws with
  | nil => exact .nil
  | cons w ws ih => exact .cons (.sc w) ih
end

/-! ### the state: what is known of the heap, owned or read only -/
structure Ent where
  v : V
  d : D
  own : Bool
abbrev fz (v : V) (d : D) : Ent := ⟨v, d, false⟩
abbrev ow (a : Addr) (d : D) : Ent := ⟨.ref a, d, true⟩
def adr : V → List Addr
  | .ref a => [a]
  | _ => []
def keys (E : List Ent) : List Addr := E.flatMap fun e => if e.own = true then adr e.v else []
structure Cfg where
  K : PySem.W.Frag
  ce : Str → Addr
  Z : Addr → Prop
  H0 : Hp
  M0 : List Addr
def okA (c : Cfg) (E : List Ent) (a : Addr) : Prop := a ∉ keys E ∧ ¬ c.Z a
/-- the object at a holds d, its parts read only -/
inductive Ow (K : PySem.W.Frag) (ce : Str → Addr) (H : Hp) (ok : Addr → Prop) : Addr → D → Prop
  | lst {a : Addr} {vs : List V} {ds : List D} : H a = some (.lst vs) → vs.length ≤ sizeLine → DaL K ce H ok vs ds → Ow K ce H ok a (.lst ds)
  | dk {a : Addr} {kvs : List (Key × V)} {kds : List (Key × D)} : H a = some (.dK kvs) → kvs.length ≤ sizeLine → kvs.map Prod.fst = kds.map Prod.fst → DaL K ce H ok (kvs.map Prod.snd) (kds.map Prod.snd) → Ow K ce H ok a (.dk kds)
  | dt {a : Addr} {kvs : List (List Key × V)} {kds : List (List Key × D)} : H a = some (.dT kvs) → kvs.length ≤ sizeLine → kvs.map Prod.fst = kds.map Prod.fst → DaL K ce H ok (kvs.map Prod.snd) (kds.map Prod.snd) → Ow K ce H ok a (.dt kds)
  | obj {a dx : Addr} {c : Str} {fs : List (Str × V)} {fds : List (Str × D)} : H a = some (.ins (ce c) dx fs) → fs.length ≤ 100 → fs.map Prod.fst = fds.map Prod.fst → DaL K ce H ok (fs.map Prod.snd) (fds.map Prod.snd) → Ow K ce H ok a (.obj c fds)
def Good (c : Cfg) (H : Hp) (ok : Addr → Prop) (e : Ent) : Prop :=
  if e.own = true then ∃ a, e.v = .ref a ∧ Ow c.K c.ce H ok a e.d else Da c.K c.ce H ok e.v e.d
structure S (c : Cfg) (H : Hp) (E : List Ent) : Prop where
  nd : (keys E).Nodup
  z : ∀ a ∈ keys E, ¬ c.Z a
  org : ∀ a ∈ keys E, a ∈ c.M0 ∨ c.H0 a = none
  it : ∀ e ∈ E, Good c H (okA c E) e
  zx : ∀ a, c.Z a → H a = c.H0 a
  ex : ∀ a u, a ∉ c.M0 → Rd c.H0 a u → Rd H a u
  ei : ∀ a o, a ∉ c.M0 → LI o → c.H0 a = some o → H a = some o
  tp : ∀ a xs, Rd c.H0 a (.tup xs) → Rd H a (.tup xs)
  lv : ∀ a, c.H0 a ≠ none → H a ≠ none
  zl : ∀ a, c.Z a → c.H0 a ≠ none

theorem mem_keys {E : List Ent} {a : Addr} : a ∈ keys E ↔ ∃ e ∈ E, e.own = true ∧ e.v = .ref a := by
  unfold keys
  rw [List.mem_flatMap]
  constructor
  · rintro ⟨e, he, h⟩
    by_cases ho : e.own = true
    · rw [if_pos ho] at h
      refine ⟨e, he, ho, ?_⟩
      cases hv : e.v <;> rw [hv] at h <;> simp [adr] at h
      rw [h]
    · rw [if_neg ho] at h; cases h
  · rintro ⟨e, he, ho, hv⟩
    exact ⟨e, he, by rw [if_pos ho, hv]; simp [adr]⟩
theorem keys_cons (e : Ent) (E : List Ent) : keys (e :: E) = (if e.own = true then adr e.v else []) ++ keys E := rfl
theorem keys_append (E F : List Ent) : keys (E ++ F) = keys E ++ keys F := by unfold keys; rw [List.flatMap_append]
theorem keys_ix : ∀ {E : List Ent} {i j : Nat} {a : Addr} {d d' : D}, (keys E).Nodup → E[i]? = some (ow a d) → E[j]? = some (ow a d') → i = j
  | [], i, j, a, d, d', _, h, _ => by simp at h
  | e :: E, i, j, a, d, d', hn, hi, hj => by
    rw [keys_cons] at hn
    have hn' := List.nodup_append.mp hn
    cases i with
    | zero =>
      simp at hi
      cases j with
      | zero => rfl
      | succ j =>
        simp at hj
        exfalso
        have h1 : a ∈ keys E := mem_keys.mpr ⟨_, List.mem_of_getElem? hj, rfl, rfl⟩
        subst hi
        exact hn'.2.2 a (by simp [adr]) a h1 rfl
    | succ i =>
      simp at hi
      cases j with
      | zero =>
        simp at hj
        exfalso
        have h1 : a ∈ keys E := mem_keys.mpr ⟨_, List.mem_of_getElem? hi, rfl, rfl⟩
        subst hj
        exact hn'.2.2 a (by simp [adr]) a h1 rfl
      | succ j =>
        simp at hj
        rw [keys_ix hn'.2.1 hi hj]

section
variable {c : Cfg} {H H' : Hp} {E E' : List Ent}
theorem Ow.live {K ce ok} {a : Addr} {d : D} (h : Ow K ce H ok a d) : H a ≠ none := by
  cases h with
  | lst h => rw [h]; exact fun z => nomatch z
  | dk h => rw [h]; exact fun z => nomatch z
  | dt h => rw [h]; exact fun z => nomatch z
  | obj h => rw [h]; exact fun z => nomatch z
theorem Ow.notTup {K ce ok} {a : Addr} {d : D} (h : Ow K ce H ok a d) (xs : List V) : ¬ Rd H a (.tup xs) := by
  rintro (z | ⟨o, z⟩)
  all_goals cases h with
  | lst h => rw [h] at z; cases z
  | dk h => rw [h] at z; cases z
  | dt h => rw [h] at z; cases z
  | obj h => rw [h] at z; cases z
theorem S.owns (s : S c H E) {a : Addr} (h : a ∈ keys E) : ∃ d, Ow c.K c.ce H (okA c E) a d := by
  obtain ⟨e, he, ho, hv⟩ := mem_keys.mp h
  have g := s.it e he
  unfold Good at g
  rw [if_pos ho] at g
  obtain ⟨b, hb, w⟩ := g
  rw [hv] at hb; cases hb
  exact ⟨_, w⟩
theorem S.key_live (s : S c H E) {a : Addr} (h : a ∈ keys E) : H a ≠ none := by
  obtain ⟨d, w⟩ := s.owns h
  exact w.live
/-- how data is carried over a step that touches T alone -/
theorem S.tr (s : S c H E) {T : List Addr} (hT : ∀ a ∈ T, a ∈ keys E) (keep : ∀ a o, a ∉ T → H a = some o → H' a = some o) : Kp (okA c E) H H' where
  rd := fun a u ok r => by
    have hn : a ∉ T := fun z => ok.1 (hT a z)
    rcases r with r | ⟨o, r⟩
    · exact .inl (keep a _ hn r)
    · exact .inr ⟨o, keep a _ hn r⟩
  ob := fun a o ok _ r => keep a _ (fun z => ok.1 (hT a z)) r
  tp := fun a xs r => by
    have hn : a ∉ T := fun z => by
      obtain ⟨d, w⟩ := s.owns (hT a z)
      exact w.notTup xs r
    rcases r with r | ⟨o, r⟩
    · exact .inl (keep a _ hn r)
    · exact .inr ⟨o, keep a _ hn r⟩
theorem S.okm (s : S c H E) (hK' : ∀ a ∈ keys E', a ∈ keys E ∨ H a = none) : ∀ a, okA c E a → H a ≠ none → okA c E' a := fun a ok l =>
  ⟨fun z => (hK' a z).elim ok.1 l, ok.2⟩
theorem Ow.mono {K ce ok ok'} {a : Addr} {d : D} (h : Ow K ce H ok a d) (k : Kp ok H H') (hk : ∀ a, ok a → H a ≠ none → ok' a) (e : H' a = H a) : Ow K ce H' ok' a d := by
  cases h with
  | lst h z l => exact .lst (e.trans h) z (l.mono k hk)
  | dk h z f l => exact .dk (e.trans h) z f (l.mono k hk)
  | dt h z f l => exact .dt (e.trans h) z f (l.mono k hk)
  | obj h z f l => exact .obj (e.trans h) z f (l.mono k hk)
/-- THE STEP -/
theorem S.go (s : S c H E) {T : List Addr} (hT : ∀ a ∈ T, a ∈ keys E) (keep : ∀ a o, a ∉ T → H a = some o → H' a = some o) (lv : ∀ a ∈ T, H' a ≠ none)
    (nd : (keys E').Nodup) (hK' : ∀ a ∈ keys E', a ∈ keys E ∨ H a = none)
    (it : ∀ e ∈ E', (e ∈ E ∧ (e.own = true → ∀ a, e.v = .ref a → a ∉ T)) ∨ Good c H' (okA c E') e) : S c H' E' where
  nd := nd
  z := fun a h z => by
    rcases hK' a h with q | q
    · exact s.z a q z
    · rw [s.zx a z] at q; exact s.zl a z q
  org := fun a h => by
    rcases hK' a h with q | q
    · exact s.org a q
    · right
      cases hq : c.H0 a with
      | none => rfl
      | some o => exact absurd q (s.lv a (by rw [hq]; exact fun z => nomatch z))
  it := fun e he => by
    rcases it e he with ⟨h1, h2⟩ | g
    · have g := s.it e h1
      unfold Good at g ⊢
      by_cases ho : e.own = true
      · rw [if_pos ho] at g ⊢
        obtain ⟨a, hv, w⟩ := g
        refine ⟨a, hv, w.mono (s.tr hT keep) (s.okm hK') ?_⟩
        cases q : H a with
        | none => exact absurd q w.live
        | some o => exact keep a o (h2 ho a hv) q
      · rw [if_neg ho] at g ⊢
        exact g.mono (s.tr hT keep) (s.okm hK')
    · exact g
  zx := fun a z => by
    have h1 := s.zx a z
    cases q : c.H0 a with
    | none => exact absurd q (s.zl a z)
    | some o =>
      rw [q] at h1
      exact keep a o (fun ht => s.z a (hT a ht) z) h1
  ex := fun a u hm r => by
    have hn : a ∉ T := fun z => by
      rcases s.org a (hT a z) with q | q
      · exact hm q
      · exact Rd.live r q
    rcases s.ex a u hm r with r | ⟨o, r⟩
    · exact .inl (keep a _ hn r)
    · exact .inr ⟨o, keep a _ hn r⟩
  ei := fun a o hm l r => by
    have hn : a ∉ T := fun z => by
      rcases s.org a (hT a z) with q | q
      · exact hm q
      · rw [r] at q; cases q
    exact keep a _ hn (s.ei a o hm l r)
  tp := fun a xs r => (s.tr hT keep).tp a xs (s.tp a xs r)
  lv := fun a h => by
    by_cases hm : a ∈ T
    · exact lv a hm
    · cases q : H a with
      | none => exact absurd q (s.lv a h)
      | some o => rw [keep a o hm q]; exact fun z => nomatch z
  zl := s.zl
theorem S.keepNew {p : Addr} {o : HO} (hp : H p = none) : ∀ a u, a ∉ ([] : List Addr) → H a = some u → upd H p o a = some u := fun a u _ h => by
  rw [upd_ne (ne_of_none h hp)]; exact h
theorem S.newOk (s : S c H E) {p : Addr} (hp : H p = none) : okA c E p :=
  ⟨fun z => s.key_live z hp, fun z => by rw [s.zx p z] at hp; exact s.zl p z hp⟩
/-- a new tuple -/
theorem S.tup (s : S c H E) {p : Addr} {vs : List V} {ds : List D} (hp : H p = none) (h : DaL c.K c.ce H (okA c E) vs ds) (hz : vs.length ≤ sizeLine) : S c (upd H p (.tup vs)) (fz (.ref p) (.tup ds) :: E) := by
  refine s.go (T := []) (fun _ z => nomatch z) (S.keepNew hp) (fun _ z => nomatch z) s.nd (fun a h => .inl h) fun e he => ?_
  rcases List.mem_cons.mp he with rfl | he
  · refine .inr ?_
    exact Da.tup (.inl (.inl upd_same)) hz (h.mono (s.tr (T := []) (fun _ z => nomatch z) (S.keepNew hp)) fun a ok _ => ok)
  · exact .inl ⟨he, fun _ _ _ z => nomatch z⟩
/-- a new list, read only from now on -/
theorem S.lstF (s : S c H E) {p : Addr} {vs : List V} {ds : List D} (hp : H p = none) (h : DaL c.K c.ce H (okA c E) vs ds) (hz : vs.length ≤ sizeLine) : S c (upd H p (.lst vs)) (fz (.ref p) (.lst ds) :: E) := by
  refine s.go (T := []) (fun _ z => nomatch z) (S.keepNew hp) (fun _ z => nomatch z) s.nd (fun a h => .inl h) fun e he => ?_
  rcases List.mem_cons.mp he with rfl | he
  · refine .inr ?_
    exact Da.lst (s.newOk hp) upd_same hz (h.mono (s.tr (T := []) (fun _ z => nomatch z) (S.keepNew hp)) fun a ok _ => ok)
  · exact .inl ⟨he, fun _ _ _ z => nomatch z⟩
theorem S.newKey (s : S c H E) {p : Addr} {d : D} (hp : H p = none) : (keys (ow p d :: E)).Nodup ∧ ∀ a ∈ keys (ow p d :: E), a ∈ keys E ∨ H a = none := by
  rw [keys_cons]
  refine ⟨List.nodup_append.mpr ⟨by simp [adr], s.nd, fun a ha b hb e => ?_⟩, fun a h => ?_⟩
  · have e1 : a = p := by simpa [adr] using ha
    subst e1; subst e
    exact s.key_live hb hp
  · rcases List.mem_append.mp h with h | h
    · have e : a = p := by simpa [adr] using h
      subst e; exact .inr hp
    · exact .inl h
/-- a new object that is owned -/
theorem S.newO (s : S c H E) {p : Addr} {o : HO} {d : D} (hp : H p = none) (w : ∀ ok, (∀ a, okA c E a → H a ≠ none → ok a) → Ow c.K c.ce (upd H p o) ok p d) : S c (upd H p o) (ow p d :: E) := by
  have hk := s.newKey (d := d) hp
  refine s.go (T := []) (fun _ z => nomatch z) (S.keepNew hp) (fun _ z => nomatch z) hk.1 hk.2 fun e he => ?_
  rcases List.mem_cons.mp he with rfl | he
  · exact .inr ⟨p, rfl, w _ (s.okm hk.2)⟩
  · exact .inl ⟨he, fun _ _ _ z => nomatch z⟩
theorem S.lstO (s : S c H E) {p : Addr} {vs : List V} {ds : List D} (hp : H p = none) (h : DaL c.K c.ce H (okA c E) vs ds) (hz : vs.length ≤ sizeLine) : S c (upd H p (.lst vs)) (ow p (.lst ds) :: E) :=
  s.newO hp fun ok hk => .lst upd_same hz (h.mono (s.tr (T := []) (fun _ z => nomatch z) (S.keepNew hp)) hk)
theorem S.own (s : S c H E) {k : Nat} {a : Addr} {d : D} (h : E[k]? = some (ow a d)) : Ow c.K c.ce H (okA c E) a d := by
  have g := s.it _ (List.mem_of_getElem? h)
  unfold Good at g
  rw [if_pos rfl] at g
  obtain ⟨b, hb, w⟩ := g
  cases hb
  exact w
theorem S.fz (s : S c H E) {k : Nat} {v : V} {d : D} (h : E[k]? = some (fz v d)) : Da c.K c.ce H (okA c E) v d := by
  have g := s.it _ (List.mem_of_getElem? h)
  unfold Good at g
  rw [if_neg Bool.false_ne_true] at g
  exact g
theorem keys_set {E : List Ent} {k : Nat} {a : Addr} {d d' : D} (h : E[k]? = some (ow a d)) : keys (E.set k (ow a d')) = keys E := by
  induction E generalizing k with
  | nil => simp at h
  | cons e E ih =>
    cases k with
    | zero => simp at h; subst h; rfl
    | succ k => simp at h; rw [List.set_cons_succ, keys_cons, keys_cons, ih h]
/-- an owned object is written -/
theorem S.put (s : S c H E) {k : Nat} {a : Addr} {d d' : D} {o : HO} (h : E[k]? = some (ow a d)) (w : Ow c.K c.ce (upd H a o) (okA c E) a d') : S c (upd H a o) (E.set k (ow a d')) := by
  have hks := keys_set (d' := d') h
  have ha : a ∈ keys E := mem_keys.mpr ⟨_, List.mem_of_getElem? h, rfl, rfl⟩
  have hok : okA c (E.set k (ow a d')) = okA c E := by funext b; unfold okA; rw [hks]
  refine s.go (T := [a]) (fun b z => by rw [List.mem_singleton.mp z]; exact ha) (fun b u hb e => by rw [upd_ne (by simpa using hb)]; exact e) (fun b z => by rw [List.mem_singleton.mp z, upd_same]; exact fun z => nomatch z)
    (by rw [hks]; exact s.nd) (fun b hb => .inl (by rw [hks] at hb; exact hb)) fun e he => ?_
  obtain ⟨j, hj⟩ := List.mem_iff_getElem?.mp he
  by_cases hjk : j = k
  · subst hjk
    have hl := (List.getElem?_eq_some_iff.mp h).1
    rw [List.getElem?_set_self hl] at hj
    cases hj
    exact .inr ⟨a, rfl, by rw [hok]; exact w⟩
  · rw [List.getElem?_set_ne (Ne.symm hjk)] at hj
    refine .inl ⟨List.mem_of_getElem? hj, fun ho b hv hb => ?_⟩
    have e1 : b = a := by simpa using hb
    subst e1
    obtain ⟨v, d1, o1⟩ := e
    simp only at ho hv
    subst ho; subst hv
    exact hjk (keys_ix s.nd hj h)
theorem S.keepOwn {a : Addr} {o : HO} (s : S c H E) {k : Nat} {d : D} (h : E[k]? = some (ow a d)) : Kp (okA c E) H (upd H a o) :=
  s.tr (T := [a]) (fun b z => by rw [List.mem_singleton.mp z]; exact mem_keys.mpr ⟨_, List.mem_of_getElem? h, rfl, rfl⟩) (fun b u hb e => by rw [upd_ne (by simpa using hb)]; exact e)
/-- fewer entries, in another order -/
theorem S.sub (s : S c H E) (nd : (keys E').Nodup) (h : ∀ e ∈ E', e ∈ E ∨ Good c H (okA c E') e) (hk : ∀ a ∈ keys E', a ∈ keys E) : S c H E' :=
  s.go (T := []) (fun _ z => nomatch z) (fun _ _ _ h => h) (fun _ z => nomatch z) nd (fun a z => .inl (hk a z)) fun e he => (h e he).elim (fun q => .inl ⟨q, fun _ _ _ z => nomatch z⟩) .inr
theorem keys_pick_nodup {E : List Ent} (hn : (keys E).Nodup) : ∀ {idx : List Nat} {E' : List Ent}, idx.Nodup → idx.map (fun i => E[i]?) = E'.map some → (keys E').Nodup
  | [], E', _, h => by cases E' with | nil => exact List.nodup_nil | cons _ _ => cases h
  | i :: idx, E', hi, h => by
    cases E' with
    | nil => cases h
    | cons e E' =>
      simp only [List.map_cons, List.cons.injEq] at h
      obtain ⟨h1, h2⟩ := h
      have hi' := List.nodup_cons.mp hi
      have ih := keys_pick_nodup hn hi'.2 h2
      rw [keys_cons]
      refine List.nodup_append.mpr ⟨?_, ih, fun a ha b hb eab => ?_⟩
      · by_cases ho : e.own = true
        · rw [if_pos ho]; cases e.v <;> simp [adr]
        · rw [if_neg ho]; exact List.nodup_nil
      · subst eab
        by_cases ho : e.own = true
        · rw [if_pos ho] at ha
          obtain ⟨e2, he2, ho2, hv2⟩ := mem_keys.mp hb
          obtain ⟨j, hj⟩ := List.mem_iff_getElem?.mp he2
          have hj2 : (idx.map (fun i => E[i]?))[j]? = some (some e2) := by rw [h2, List.getElem?_map, hj]; rfl
          rw [List.getElem?_map] at hj2
          cases hx : idx[j]? with
          | none => rw [hx] at hj2; cases hj2
          | some m =>
            rw [hx] at hj2
            have hm : E[m]? = some e2 := by simpa using hj2
            have hmi : m ≠ i := fun q => hi'.1 (q ▸ List.mem_of_getElem? hx)
            obtain ⟨v, d, o⟩ := e
            obtain ⟨v2, d2, o2⟩ := e2
            simp only at ho ho2 hv2 ha
            subst ho; subst ho2; subst hv2
            have hva : v = .ref a := by cases v <;> simp [adr] at ha; rw [ha]
            subst hva
            exact hmi (keys_ix hn hm h1)
        · rw [if_neg ho] at ha; cases ha
theorem S.pick (s : S c H E) (idx : List Nat) (he : idx.map (fun i => E[i]?) = E'.map some := by rfl) (hn : idx.Nodup := by decide) : S c H E' := by
  have hm : ∀ e ∈ E', e ∈ E := fun e h => by
    obtain ⟨j, hj⟩ := List.mem_iff_getElem?.mp h
    have hj2 : (idx.map (fun i => E[i]?))[j]? = some (some e) := by rw [he, List.getElem?_map, hj]; rfl
    rw [List.getElem?_map] at hj2
    cases hx : idx[j]? with
    | none => rw [hx] at hj2; cases hj2
    | some m => rw [hx] at hj2; exact List.mem_of_getElem? (i := m) (by simpa using hj2)
  refine s.sub (keys_pick_nodup s.nd hn he) (fun e h => .inl (hm e h)) fun a h => ?_
  obtain ⟨e, h1, h2⟩ := mem_keys.mp h
  exact mem_keys.mpr ⟨e, hm e h1, h2⟩
/-- an owned object is only read from now on -/
theorem S.freeze (s : S c H E) {a : Addr} {d : D} {E1 : List Ent} (he : E = ow a d :: E1) : S c H (FB.fz (.ref a) d :: E1) := by
  subst he
  have hn := s.nd
  rw [keys_cons] at hn
  have hn' := List.nodup_append.mp hn
  have hks : keys (FB.fz (.ref a) d :: E1) = keys E1 := rfl
  have haE : a ∉ keys E1 := fun z => hn'.2.2 a (by simp [adr]) a z rfl
  have hw := s.own (k := 0) rfl
  have haz : ¬ c.Z a := s.z a (by rw [keys_cons]; exact List.mem_append_left _ (by simp [adr]))
  have hok : ∀ b, okA c (ow a d :: E1) b → H b ≠ none → okA c (FB.fz (.ref a) d :: E1) b := fun b ⟨h1, h2⟩ _ => ⟨fun z => h1 (by rw [keys_cons]; exact List.mem_append_right _ z), h2⟩
  refine s.sub (by rw [hks]; exact hn'.2.1) (fun e h => ?_) fun b hb => by rw [keys_cons]; exact List.mem_append_right _ (by rw [hks] at hb; exact hb)
  rcases List.mem_cons.mp h with rfl | h
  · refine .inr ?_
    show Da c.K c.ce H _ (.ref a) d
    have oka : okA c (FB.fz (.ref a) d :: E1) a := ⟨by rw [hks]; exact haE, haz⟩
    clear h
    cases hw with
    | lst h z l => exact .lst oka h z (l.weak hok)
    | dk h z e l => exact .dk oka (.inl h) z e (l.weak hok)
    | dt h z e l => exact .dt oka (.inl h) z e (l.weak hok)
    | obj h z e l => exact .obj oka h z e (l.weak hok)
  · exact .inl (List.mem_cons_of_mem _ h)
end

/-! ### a call: the callee's state over its own entries, the caller's behind it -/
/-- the callee's configuration -/
def Cfg.sub (c : Cfg) (H : Hp) (E0 E1 : List Ent) : Cfg := { K := c.K, ce := c.ce, Z := fun a => c.Z a ∨ a ∈ keys E1, H0 := H, M0 := keys E0 }
section
variable {c : Cfg} {H H' : Hp} {E E0 E1 E0' : List Ent}
theorem S.enter (s : S c H (E0 ++ E1)) : S (c.sub H E0 E1) H E0 := by
  have hn := s.nd
  rw [keys_append] at hn
  have hn' := List.nodup_append.mp hn
  have hz : ∀ a, (c.sub H E0 E1).Z a → a ∉ keys E0 := fun a z h => by
    rcases z with z | z
    · exact s.z a (by rw [keys_append]; exact List.mem_append_left _ h) z
    · exact hn'.2.2 a h a z rfl
  have hok : ∀ a, okA c (E0 ++ E1) a → H a ≠ none → okA (c.sub H E0 E1) E0 a := fun a ⟨h1, h2⟩ _ => by
    rw [keys_append] at h1
    exact ⟨fun z => h1 (List.mem_append_left _ z), fun z => z.elim h2 fun q => h1 (List.mem_append_right _ q)⟩
  refine ⟨hn'.1, fun a h z => hz a z h, fun a h => .inl h, fun e he => ?_, fun _ _ => rfl, fun _ _ _ h => h, fun _ _ _ _ h => h, fun _ _ h => h, fun _ h => h, fun a z => ?_⟩
  · have g := s.it e (List.mem_append_left _ he)
    unfold Good at g ⊢
    by_cases ho : e.own = true
    · rw [if_pos ho] at g ⊢
      obtain ⟨a, hv, w⟩ := g
      exact ⟨a, hv, w.mono Kp.refl hok rfl⟩
    · rw [if_neg ho] at g ⊢
      exact g.weak hok
  · rcases z with z | z
    · show H a ≠ none
      rw [s.zx a z]; exact s.zl a z
    · exact s.key_live (by rw [keys_append]; exact List.mem_append_right _ z)
theorem S.leave (s : S c H (E0 ++ E1)) (s' : S (c.sub H E0 E1) H' E0') : S c H' (E0' ++ E1) := by
  have hn := s.nd
  rw [keys_append] at hn
  have hn' := List.nodup_append.mp hn
  have hd : ∀ a ∈ keys E0', a ∉ keys E1 := fun a h z => s'.z a h (.inr z)
  have h1in : ∀ a, a ∈ keys E1 → a ∈ keys (E0 ++ E1) := fun a h => by rw [keys_append]; exact List.mem_append_right _ h
  have h0in : ∀ a, a ∈ keys E0 → a ∈ keys (E0 ++ E1) := fun a h => by rw [keys_append]; exact List.mem_append_left _ h
  have hrd : ∀ a u, a ∉ keys E0 → Rd H a u → Rd H' a u := fun a u h r => s'.ex a u h r
  have hz : ∀ a, a ∈ keys E1 → H' a = H a := fun a h => s'.zx a (.inr h)
  have fresh : ∀ a, a ∈ keys E0' → a ∈ keys E0 ∨ H a = none := fun a h => s'.org a h
  have kp : Kp (okA c (E0 ++ E1)) H H' := ⟨fun a u ok r => hrd a u (fun z => ok.1 (h0in a z)) r, fun a o ok l r => s'.ei a o (fun z => ok.1 (h0in a z)) l r, s'.tp⟩
  have hok : ∀ a, okA c (E0 ++ E1) a → H a ≠ none → okA c (E0' ++ E1) a := fun a ⟨h1, h2⟩ l => by
    refine ⟨fun z => ?_, h2⟩
    rw [keys_append] at z
    rcases List.mem_append.mp z with z | z
    · rcases fresh a z with q | q
      · exact h1 (h0in a q)
      · exact l q
    · exact h1 (h1in a z)
  refine ⟨?_, fun a h => ?_, fun a h => ?_, fun e he => ?_, fun a z => ?_, fun a u hm r => ?_, fun a o hm l r => ?_, fun a xs r => s'.tp a xs (s.tp a xs r), fun a h => s'.lv a (s.lv a h), s.zl⟩
  · rw [keys_append]
    exact List.nodup_append.mpr ⟨s'.nd, hn'.2.1, fun a ha b hb e => hd a ha (e ▸ hb)⟩
  · rw [keys_append] at h
    rcases List.mem_append.mp h with h | h
    · exact fun z => s'.z a h (.inl z)
    · exact s.z a (h1in a h)
  · rw [keys_append] at h
    rcases List.mem_append.mp h with h | h
    · rcases fresh a h with q | q
      · exact s.org a (h0in a q)
      · right
        cases hq : c.H0 a with
        | none => rfl
        | some o => exact absurd q (s.lv a (by rw [hq]; exact fun z => nomatch z))
    · exact s.org a (h1in a h)
  · rcases List.mem_append.mp he with he | he
    · have g := s'.it e he
      have hk2 : ∀ a, okA (c.sub H E0 E1) E0' a → H' a ≠ none → okA c (E0' ++ E1) a := fun a ⟨h1, h2⟩ _ => by
        refine ⟨fun z => ?_, fun z => h2 (.inl z)⟩
        rw [keys_append] at z
        rcases List.mem_append.mp z with z | z
        · exact h1 z
        · exact h2 (.inr z)
      unfold Good at g ⊢
      by_cases ho : e.own = true
      · rw [if_pos ho] at g ⊢
        obtain ⟨a, hv, w⟩ := g
        exact ⟨a, hv, w.mono Kp.refl hk2 rfl⟩
      · rw [if_neg ho] at g ⊢
        exact g.weak hk2
    · have g := s.it e (List.mem_append_right _ he)
      unfold Good at g ⊢
      by_cases ho : e.own = true
      · rw [if_pos ho] at g ⊢
        obtain ⟨a, hv, w⟩ := g
        exact ⟨a, hv, w.mono kp hok (hz a (mem_keys.mpr ⟨e, he, ho, hv⟩))⟩
      · rw [if_neg ho] at g ⊢
        exact g.mono kp hok
  · have h1 := s.zx a z
    rw [← h1]
    exact s'.zx a (.inl z)
  · have r1 := s.ex a u hm r
    by_cases h0 : a ∈ keys E0
    · rcases s.org a (h0in a h0) with q | q
      · exact absurd q hm
      · exact absurd q (Rd.live r)
    · exact hrd a u h0 r1
  · have r1 := s.ei a o hm l r
    by_cases h0 : a ∈ keys E0
    · rcases s.org a (h0in a h0) with q | q
      · exact absurd q hm
      · rw [r] at q; cases q
    · exact s'.ei a o h0 l r1
end
end FB

/-! the mirror's own words: plain Lean, no machine in sight -/
namespace FB
open PySem

/-- how a loop's body or a branch ends -/
inductive Fl (ρ σ : Type) where
  | go (s : σ) | brk (s : σ) | ret (r : ρ)
/-- a loop whose body neither leaves nor breaks -/
def foldO {α σ : Type} : List α → σ → (α → σ → Option σ) → Option σ
  | [], s, _ => some s
  | x :: xs, s, f => Option.bind (f x s) fun s => foldO xs s f
/-- a loop that may break or leave -/
def loopO {α ρ σ : Type} : List α → σ → (α → σ → Option (Fl ρ σ)) → Option (Fl ρ σ)
  | [], s, _ => some (.go s)
  | x :: xs, s, f => Option.bind (f x s) fun r => match r with
    | .go s => loopO xs s f
    | .brk s => some (.brk s)
    | .ret v => some (.ret v)
/-- a comprehension: each item gives none (left out) or a new item -/
def compO {α β : Type} : List α → (α → Option (Option β)) → Option (List β)
  | [], _ => some []
  | x :: xs, f => Option.bind (f x) fun o => Option.bind (compO xs f) fun r => some (match o with | some y => y :: r | none => r)
/-- the largest size of a list or a text -/
def LINE : Nat := 16777216
def addS (a b : Str) : Option Str := if a.length + b.length ≤ LINE then some (a ++ b) else none
def mulS (a : Str) (k : Int) : Option Str := if a.length * k.toNat ≤ LINE ∧ -(2 ^ 63) ≤ k ∧ k < 2 ^ 63 then some ⟨(List.replicate k.toNat a.cps.toList).flatten.toArray⟩ else none
def catL {α : Type} (a b : List α) : Option (List α) := if a.length + b.length ≤ LINE then some (a ++ b) else none
def pushL {α : Type} (a : List α) (x : α) : Option (List α) := if a.length < LINE then some (a ++ [x]) else none
def mulL {α : Type} (a : List α) (k : Int) : Option (List α) := if a.length * k.toNat ≤ LINE ∧ -(2 ^ 63) ≤ k ∧ k < 2 ^ 63 then some (List.replicate k.toNat a).flatten else none
/-- the place that a Python index names -/
def ixI (n : Nat) (i : Int) : Option Nat := if 0 ≤ i then (if i < n then some i.toNat else none) else if -(n : Int) ≤ i then some (i + n).toNat else none
def getI {α : Type} (xs : List α) (i : Int) : Option α := (ixI xs.length i).bind fun j => xs[j]?
def setI {α : Type} (xs : List α) (i : Int) (v : α) : Option (List α) := (ixI xs.length i).bind fun j => some (xs.set j v)
def popI {α : Type} (xs : List α) (i : Int) : Option (α × List α) := (ixI xs.length i).bind fun j => (xs[j]?).bind fun v => some (v, xs.eraseIdx j)
def getS (s : Str) (i : Int) : Option Str := if s.length ≤ LINE then (getI s.cps.toList i).bind fun c => some ⟨#[c]⟩ else none
def lenS (s : Str) : Option Int := if s.length ≤ LINE then some (s.length : Int) else none
/-- one sign in a text -/
def inS (c : Str) (z : Str) : Option Bool := if c.length = 1 then some (decide (c.cps.getD 0 0 ∈ z.cps.toList)) else none
def modI (a b : Int) : Option Int := if 0 < b then some (a % b) else none
def fdivI (a b : Int) : Option Int := if 0 < b ∧ b < 1073741824 then some (a / b) else none
def mulI (a b : Int) : Option Int := if (-(2 ^ 64) < a ∧ a < 2 ^ 64) ∨ (-(2 ^ 64) < b ∧ b < 2 ^ 64) then some (a * b) else none
def rangeI (a b : Int) : List Int := (List.range (b - a).toNat).map fun (i : Nat) => a + (i : Int)
/-- range's ends lie within a line of the machine -/
def rngO (a b : Int) : Option (List Int) := if -(2 ^ 62) ≤ a ∧ a < 2 ^ 62 ∧ -(2 ^ 62) ≤ b ∧ b < 2 ^ 62 ∧ (b - a).toNat ≤ LINE then some (rangeI a b) else none
def absI (i : Int) : Int := if i < 0 then -i else i
def signs (s : Str) : List Str := s.cps.toList.map fun c => ⟨#[c]⟩
def sixI (n d : Nat) : Option Int → Nat
  | none => d
  | some j => if j < 0 then (j + (n : Int)).toNat else min j.toNat n
def cutL {α : Type} (xs : List α) (lo hi : Option Int) : List α := (xs.drop (sixI xs.length 0 lo)).take (sixI xs.length xs.length hi - sixI xs.length 0 lo)
def cutS (s : Str) (lo hi : Option Int) : Str := ⟨(cutL s.cps.toList lo hi).toArray⟩
def cutSO (s : Str) (lo hi : Option Int) : Option Str := if s.length ≤ LINE then some (cutS s lo hi) else none
def signsO (s : Str) : Option (List Str) := if s.length ≤ LINE then some (signs s) else none
end FB

namespace FB
open PySem L2

/-! ### data of Lean's types -/
class TD (α : Type) where
  td : α → D
abbrev td {α : Type} [TD α] (x : α) : D := TD.td x
class Sc (α : Type) extends TD α where
  sv : α → V
  sc : ∀ x : α, TD.td x = .sc (sv x)
instance : Sc Int := { td := fun i => .sc (.int i), sv := .int, sc := fun _ => rfl }
instance : Sc Str := { td := fun i => .sc (.str i), sv := .str, sc := fun _ => rfl }
instance : Sc Bool := { td := fun i => .sc (.bl i), sv := .bl, sc := fun _ => rfl }
instance : Sc Unit := { td := fun _ => .sc .non, sv := fun _ => .non, sc := fun _ => rfl }
instance {α : Type} [TD α] : TD (List α) := ⟨fun xs => .lst (xs.map td)⟩
instance {α β : Type} [TD α] [TD β] : TD (α × β) := ⟨fun p => .tup [td p.1, td p.2]⟩
/-- a tuple of three -/
structure T3 (α β γ : Type) where
  a : α
  b : β
  c : γ
  deriving DecidableEq
instance {α β γ : Type} [TD α] [TD β] [TD γ] : TD (T3 α β γ) := ⟨fun p => .tup [td p.a, td p.b, td p.c]⟩
/-- a tuple of any length, its items of one kind -/
structure Tp (α : Type) where
  l : List α
  deriving DecidableEq
instance {α : Type} [TD α] : TD (Tp α) := ⟨fun p => .tup (p.l.map td)⟩
/-- a written list of two (of three) unlike items -/
structure L2' (α β : Type) where
  a : α
  b : β
instance {α β : Type} [TD α] [TD β] : TD (L2' α β) := ⟨fun p => .lst [td p.a, td p.b]⟩

/-! ### the ends of hypotheses about the mirror -/
theorem bnd {α β : Type} {m : Option α} {f : α → Option β} {r : β} (h : Option.bind m f = some r) : ∃ a, m = some a ∧ f a = some r := by
  cases m with
  | none => cases h
  | some a => exact ⟨a, rfl, h⟩
theorem ifT {α : Type} {b : Bool} {x y r : α} (hb : b = true) (h : (if b = true then x else y) = r) : x = r := by rw [if_pos hb] at h; exact h
theorem ifF {α : Type} {b : Bool} {x y r : α} (hb : b = false) (h : (if b = true then x else y) = r) : y = r := by
  rw [if_neg (by rw [hb]; exact Bool.false_ne_true)] at h; exact h
theorem som {α : Type} {x y : α} (h : some x = some y) : x = y := Option.some.inj h

/-! ### continuations that keep their names -/
def BQ (QB : Bool → Hp → Prop) : VK := fun x H' => ∃ k, x = .bl k ∧ QB k H'
def IfQ (A B : Hp → Prop) : Bool → Hp → Prop := fun b H1 => if b = true then A H1 else B H1
def NewT (Q : VK) : List V → Hp → Prop := fun xs H1 => xs.length ≤ sizeLine ∧ ∀ p, H1 p = none → Q (.ref p) (upd H1 p (.tup xs))
def NewL (Q : VK) : List V → Hp → Prop := fun xs H1 => xs.length ≤ sizeLine ∧ ∀ p, H1 p = none → Q (.ref p) (upd H1 p (.lst xs))
def PartQ (Q : Option Int → Hp → Prop) : VK := fun x H1 => ∃ i, x = .int i ∧ Q (some i) H1
/-! ### statements -/
section
variable {t u : TS} {nx bk ct : St → Hp → Prop} {rt : VK} {σ σ' : St} {H : Hp} {te ta tb : TE} {c : TT} {i : Nat} {v : V} {Q : VK} {QB : Bool → Hp → Prop} {b : Bool} {A B : Prop}
theorem w_seq (σ' : St) (hσ : σ = σ') (h : t ⟨u ⟨nx, rt, bk, ct⟩, rt, bk, ct⟩ σ' H) : tSeq t u ⟨nx, rt, bk, ct⟩ σ H := by subst hσ; exact h
theorem w_at (σ' : St) (hσ : σ = σ') (h : t ⟨nx, rt, bk, ct⟩ σ' H) : t ⟨nx, rt, bk, ct⟩ σ H := by subst hσ; exact h
theorem w_cut (σ' : St) (hσ : σ = σ') (Mid : St → Hp → Prop) (h : t ⟨Mid, rt, bk, ct⟩ σ' H) (k : ∀ σ1 H1, Mid σ1 H1 → u ⟨nx, rt, bk, ct⟩ σ1 H1) : Evl.tCut t u ⟨nx, rt, bk, ct⟩ σ H := by subst hσ; exact ⟨Mid, h, k⟩
theorem w_set (h : te σ H (fun x H1 => nx (σ.set i (some x)) H1)) : tAsg te (gName i) ⟨nx, rt, bk, ct⟩ σ H := h
theorem w_drop (h : te σ H (fun _ H1 => nx σ H1)) : tDrop te ⟨nx, rt, bk, ct⟩ σ H := h
theorem w_ret (h : te σ H rt) : tRet te ⟨nx, rt, bk, ct⟩ σ H := h
theorem w_retN (h : rt .non H) : tRetN ⟨nx, rt, bk, ct⟩ σ H := h
theorem w_if (h : c σ H (IfQ (fun H1 => t ⟨nx, rt, bk, ct⟩ σ H1) fun H1 => u ⟨nx, rt, bk, ct⟩ σ H1)) : tIfS c t u ⟨nx, rt, bk, ct⟩ σ H := h
theorem w_next (h : nx σ H) : tNext ⟨nx, rt, bk, ct⟩ σ H := h
theorem w_brk (h : bk σ H) : tBreak ⟨nx, rt, bk, ct⟩ σ H := h
theorem w_ct (h : ct σ H) : tCont ⟨nx, rt, bk, ct⟩ σ H := h
theorem w_ite {A B : Hp → Prop} (h1 : b = true → A H) (h2 : b = false → B H) : IfQ A B b H := by
  unfold IfQ
  cases b with
  | true => rw [if_pos rfl]; exact h1 rfl
  | false => rw [if_neg Bool.false_ne_true]; exact h2 rfl
theorem w_var (h : σ[i]? = some (some v)) (q : Q v H) : tVar i σ H Q := ⟨v, h, q⟩
theorem w_c (q : Q v H) : tC v σ H Q := q
theorem w_op {r : R2} (h : ta σ H fun x H1 => tb σ H1 fun y H2 => r x y H2 Q) : tOp r ta tb σ H Q := h
theorem w_un {r : V → Hp → VK → Prop} (h : ta σ H fun x H1 => r x H1 Q) : tUn r ta σ H Q := h
theorem w_test (h : te σ H (BQ QB)) : tTest te σ H QB := h
theorem w_B (h : te σ H (BQ QB)) : tB te σ H QB := h
theorem w_bl (h : QB b H) : BQ QB (.bl b) H := ⟨b, rfl, h⟩
theorem w_not (h : c σ H fun b H1 => QB (!b) H1) : tNot c σ H QB := h
theorem w_notV (h : te σ H (BQ fun b H1 => Q (.bl (!b)) H1)) : tNotV te σ H Q := h
theorem w_and {c d : TT} (h : c σ H (IfQ (fun H1 => d σ H1 QB) fun H1 => QB false H1)) : tAnd c d σ H QB := h
theorem w_or {c d : TT} (h : c σ H (IfQ (fun H1 => QB true H1) fun H1 => d σ H1 QB)) : tOr c d σ H QB := h
theorem w_andV (h : ta σ H (BQ (IfQ (fun H1 => tb σ H1 Q) fun H1 => Q (.bl false) H1))) : tAndV ta tb σ H Q := h
theorem w_orV (h : ta σ H (BQ (IfQ (fun H1 => Q (.bl true) H1) fun H1 => tb σ H1 Q))) : tOrV ta tb σ H Q := h
theorem w_ifx {c : TT} (h : c σ H (IfQ (fun H1 => ta σ H1 Q) fun H1 => tb σ H1 Q)) : tIf c ta tb σ H Q := h
theorem w_name {Q : St → Hp → Prop} (h : Q (σ.set i (some v)) H) : gName i v σ H Q := h
theorem w_nil {Q : List V → Hp → Prop} (h : Q [] H) : tNil σ H Q := h
theorem w_cons {ta : TE} {tr : TA} {Q : List V → Hp → Prop} (h : ta σ H fun x H1 => tr σ H1 fun xs H2 => Q (x :: xs) H2) : tCons ta tr σ H Q := h
theorem w_chain {r r' : R2} {tc : TE} (h : ta σ H fun x H1 => tb σ H1 fun y H2 => r x y H2 (BQ (IfQ (fun H3 => tc σ H3 fun w' H4 => r' y w' H4 Q) fun H3 => Q (.bl false) H3))) : tChain r r' ta tb tc σ H Q := h
theorem w_yes (h : QB true H) : tYes σ H QB := h
theorem w_tt {A B : Hp → Prop} (h : A H) : IfQ A B true H := by unfold IfQ; rw [if_pos rfl]; exact h
theorem w_cb {r : List V → Hp → VK → Prop} {t : TA} (h : t σ H fun vs H1 => r vs H1 Q) : tCB r t σ H Q := h
theorem w_bm {K : PySem.W.Frag} {T : String} {r : V → List V → Hp → VK → Prop} {to : TE} {t : TA} (h : to σ H fun x H1 => tyV K T x H1 ∧ t σ H1 fun xs H2 => r x xs H2 Q) : tBM K T r to t σ H Q := h
theorem w_bm0 {K : PySem.W.Frag} {T : String} {r : V → List V → Hp → VK → Prop} {to : TE} (h : to σ H fun x H1 => tyV K T x H1 ∧ r x [] H1 Q) : tBM0 K T r to σ H Q := h
theorem w_call {sp : Sp} {dvs : List V} {E : XK} {t : TA} (h : t σ H fun vs H1 => sp (vs ++ dvs) H1 Q E) : tCall sp dvs E t σ H Q := h
theorem w_tup {t : TA} (h : t σ H (NewT Q)) : tTup t σ H Q := h
theorem w_lst {t : TA} (h : t σ H (NewL Q)) : tLst t σ H Q := h
theorem w_sl {r : V → Option Int → Option Int → Hp → VK → Prop} {tl th : TO} (h : te σ H fun x H1 => tl σ H1 fun l H2 => th σ H2 fun u H3 => r x l u H3 Q) : tSl r te tl th σ H Q := h
theorem w_noPart {Q : Option Int → Hp → Prop} (h : Q none H) : tNoPart σ H Q := h
theorem w_part {Q : Option Int → Hp → Prop} (h : te σ H (PartQ Q)) : tPart te σ H Q := h
theorem w_int {i : Int} {Q : Option Int → Hp → Prop} (h : Q (some i) H) : PartQ Q (.int i) H := ⟨i, rfl, h⟩
theorem w_asgS {to ti : TE} {ts : TSet} (h : te σ H fun v H0 => to σ H0 fun o H1 => ti σ H1 fun i H2 => ts o i v H2 fun H3 => nx σ H3) : tAsg te (gSub to ti ts) ⟨nx, rt, bk, ct⟩ σ H := h
/-- a piece of a test, of an expression, whose ways meet: shown once for every continuation -/
theorem cutT {P : Bool → Hp → Prop} (h : ∀ Q', (∀ b H1, P b H1 → Q' b H1) → c σ H Q') (k : ∀ b H1, P b H1 → QB b H1) : c σ H QB := h QB k
theorem cutE {P : V → Hp → Prop} (h : ∀ Q' : VK, (∀ b H1, P b H1 → Q' b H1) → te σ H Q') (k : ∀ b H1, P b H1 → Q b H1) : te σ H Q := h Q k
end

/-! ### what is read off the state -/
section
variable {c : Cfg} {H H' : Hp} {E E' : List Ent} {k : Nat} {v : V} {b : Bool} {Q : VK}
theorem S.lst (s : S c H E) {ds : List D} (hk : E[k]? = some ⟨v, .lst ds, b⟩) : ∃ a vs, v = .ref a ∧ H a = some (.lst vs) ∧ vs.length ≤ sizeLine ∧ DaL c.K c.ce H (okA c E) vs ds := by
  cases b with
  | true =>
    have g := s.it _ (List.mem_of_getElem? hk)
    unfold Good at g
    rw [if_pos rfl] at g
    obtain ⟨a, hv, w⟩ := g
    cases w with
    | lst h z l => exact ⟨a, _, hv, h, z, l⟩
  | false =>
    have w := s.fz hk
    cases w with
    | lst o h z l => exact ⟨_, _, rfl, h, z, l⟩
theorem S.tupl (s : S c H E) {ds : List D} (hk : E[k]? = some ⟨v, .tup ds, b⟩) : ∃ a vs, v = .ref a ∧ SqT c.K H a vs ∧ vs.length ≤ sizeLine ∧ DaL c.K c.ce H (okA c E) vs ds := by
  cases b with
  | true =>
    have g := s.it _ (List.mem_of_getElem? hk)
    unfold Good at g
    rw [if_pos rfl] at g
    obtain ⟨a, hv, w⟩ := g
    cases w
  | false =>
    have w := s.fz hk
    cases w with
    | tup h z l => exact ⟨_, _, rfl, h, z, l⟩
theorem S.add (s : S c H E) {w : V} {d : D} (h : Da c.K c.ce H (okA c E) w d) : S c H (FB.fz w d :: E) :=
  s.sub s.nd (fun e he => by
    rcases List.mem_cons.mp he with rfl | he
    · exact .inr h
    · exact .inl he) fun a h => h
theorem ixI_eq (n : Nat) (i : Int) : ixI n i = ixN n i := rfl
theorem getI_eq {α : Type} (xs : List α) (i : Int) : getI xs i = atI xs i := rfl
theorem getI_map {α β : Type} {f : α → β} {xs : List α} {i : Int} {x : α} (h : getI xs i = some x) : getI (xs.map f) i = some (f x) := by
  unfold getI at h ⊢
  rw [List.length_map]
  cases e : ixI xs.length i with
  | none => rw [e] at h; cases h
  | some j =>
    rw [e] at h
    have h' : xs[j]? = some x := h
    show (xs.map f)[j]? = _
    rw [List.getElem?_map, h']; rfl
theorem DaL.getI {K ce ok} {vs : List V} {ds : List D} {i : Int} {d : D} (h : DaL K ce H ok vs ds) (e : FB.getI ds i = some d) : ∃ v, FB.getI vs i = some v ∧ Da K ce H ok v d := by
  unfold FB.getI at e ⊢
  rw [h.length]
  cases e2 : ixI ds.length i with
  | none => rw [e2] at e; cases e
  | some j =>
    rw [e2] at e
    exact h.get (i := j) e
theorem Da.ofSc {K ce ok} {v w : V} (h : Da K ce H ok v (.sc w)) : v = w := by cases h; rfl

/-! #### items -/
section
variable {α : Type} [TD α] {xs : List α} {x : α} {i : Int}
theorem r_ixL (s : S c H E) (hk : E[k]? = some ⟨v, td xs, b⟩) (hx : getI xs i = some x) (q : ∀ w, S c H (fz w (td x) :: E) → Q w H) : rIxL c.K v (.int i) H Q := by
  obtain ⟨a, vs, rfl, h, z, l⟩ := s.lst (ds := xs.map td) hk
  obtain ⟨w, h1, h2⟩ := l.getI (getI_map (f := td) hx)
  exact ⟨a, vs, i, w, rfl, rfl, .of h, h1, q w (s.add h2)⟩
theorem r_ixT (s : S c H E) {xs : Tp α} (hk : E[k]? = some ⟨v, td xs, b⟩) (hx : getI xs.l i = some x) (q : ∀ w, S c H (fz w (td x) :: E) → Q w H) : rIxT c.K v (.int i) H Q := by
  obtain ⟨a, vs, rfl, h, z, l⟩ := s.tupl (ds := xs.l.map td) hk
  obtain ⟨w, h1, h2⟩ := l.getI (getI_map (f := td) hx)
  exact ⟨a, vs, i, w, rfl, rfl, h, h1, q w (s.add h2)⟩
/-- an item of a list of known places -/
theorem r_ixLd (s : S c H E) {ds : List D} {d : D} (hk : E[k]? = some ⟨v, .lst ds, b⟩) (hx : getI ds i = some d) (q : ∀ w, S c H (fz w d :: E) → Q w H) : rIxL c.K v (.int i) H Q := by
  obtain ⟨a, vs, rfl, h, z, l⟩ := s.lst hk
  obtain ⟨w, h1, h2⟩ := l.getI hx
  exact ⟨a, vs, i, w, rfl, rfl, .of h, h1, q w (s.add h2)⟩
theorem r_ixTd (s : S c H E) {ds : List D} {d : D} (hk : E[k]? = some ⟨v, .tup ds, b⟩) (hx : getI ds i = some d) (q : ∀ w, S c H (fz w d :: E) → Q w H) : rIxT c.K v (.int i) H Q := by
  obtain ⟨a, vs, rfl, h, z, l⟩ := s.tupl hk
  obtain ⟨w, h1, h2⟩ := l.getI hx
  exact ⟨a, vs, i, w, rfl, rfl, h, h1, q w (s.add h2)⟩
theorem r_ixLdv (s : S c H E) {ds : List D} {u : V} (hk : E[k]? = some ⟨v, .lst ds, b⟩) (hx : getI ds i = some (.sc u)) (q : Q u H) : rIxL c.K v (.int i) H Q := by
  obtain ⟨a, vs, rfl, h, z, l⟩ := s.lst hk
  obtain ⟨w, h1, h2⟩ := l.getI hx
  rw [h2.ofSc] at h1
  exact ⟨a, vs, i, u, rfl, rfl, .of h, h1, q⟩
theorem r_ixTdv (s : S c H E) {ds : List D} {u : V} (hk : E[k]? = some ⟨v, .tup ds, b⟩) (hx : getI ds i = some (.sc u)) (q : Q u H) : rIxT c.K v (.int i) H Q := by
  obtain ⟨a, vs, rfl, h, z, l⟩ := s.tupl hk
  obtain ⟨w, h1, h2⟩ := l.getI hx
  rw [h2.ofSc] at h1
  exact ⟨a, vs, i, u, rfl, rfl, h, h1, q⟩
end
theorem r_ixLi {xs : List Int} {x i : Int} (s : S c H E) (hk : E[k]? = some ⟨v, td xs, b⟩) (hx : getI xs i = some x) (q : Q (.int x) H) : rIxL c.K v (.int i) H Q :=
  r_ixLdv s (ds := xs.map td) hk (getI_map (f := td) hx) q
theorem r_ixLs {xs : List Str} {x : Str} {i : Int} (s : S c H E) (hk : E[k]? = some ⟨v, td xs, b⟩) (hx : getI xs i = some x) (q : Q (.str x) H) : rIxL c.K v (.int i) H Q :=
  r_ixLdv s (ds := xs.map td) hk (getI_map (f := td) hx) q
theorem r_ixTi {xs : Tp Int} {x i : Int} (s : S c H E) (hk : E[k]? = some ⟨v, td xs, b⟩) (hx : getI xs.l i = some x) (q : Q (.int x) H) : rIxT c.K v (.int i) H Q :=
  r_ixTdv s (ds := xs.l.map td) hk (getI_map (f := td) hx) q
theorem r_ixTs {xs : Tp Str} {x : Str} {i : Int} (s : S c H E) (hk : E[k]? = some ⟨v, td xs, b⟩) (hx : getI xs.l i = some x) (q : Q (.str x) H) : rIxT c.K v (.int i) H Q :=
  r_ixTdv s (ds := xs.l.map td) hk (getI_map (f := td) hx) q
theorem getS_of {z x : Str} {i : Int} (h : getS z i = some x) : z.length ≤ LINE ∧ ∃ c, atI z.cps.toList i = some c ∧ x = ⟨#[c]⟩ := by
  unfold getS at h
  split at h
  · obtain ⟨c, h1, h2⟩ := bnd h
    exact ⟨by assumption, c, h1, (som h2).symm⟩
  · cases h
theorem LINE_eq : LINE = sizeLine := by decide
theorem r_ixS {z x : Str} {i : Int} (hx : getS z i = some x) (q : Q (.str x) H) : rIxS (.str z) (.int i) H Q := by
  obtain ⟨hz, c, h1, rfl⟩ := getS_of hx
  exact ⟨z, i, c, rfl, rfl, LINE_eq ▸ hz, h1, q⟩
/-! #### ints -/
theorem r_I0 {g : Int → Int → V} {i j : Int} (q : Q (g i j) H) : rI0 g (.int i) (.int j) H Q := ⟨i, j, rfl, rfl, q⟩
theorem r_I {C : Int → Int → Prop} {g : Int → Int → V} {i j : Int} (h : C i j) (q : Q (g i j) H) : rI C g (.int i) (.int j) H Q := ⟨i, j, rfl, rfl, h, q⟩
theorem r_U {g : Int → V} {i : Int} (q : Q (g i) H) : rU g (.int i) H Q := ⟨i, rfl, q⟩
theorem r_modI {i j x : Int} (h : modI i j = some x) (q : Q (.int x) H) : rI (fun _ j => 0 < j) (fun i j => .int (i % j)) (.int i) (.int j) H Q := by
  unfold modI at h
  split at h
  · cases h; exact ⟨i, j, rfl, rfl, by assumption, q⟩
  · cases h
theorem r_fdivI {i j x : Int} (h : fdivI i j = some x) (q : Q (.int x) H) : rI CDiv (fun i j => .int (i / j)) (.int i) (.int j) H Q := by
  unfold fdivI at h
  split at h
  · cases h; exact ⟨i, j, rfl, rfl, by assumption, q⟩
  · cases h
theorem r_mulI {i j x : Int} (h : mulI i j = some x) (q : Q (.int x) H) : rI CMul (fun i j => .int (i * j)) (.int i) (.int j) H Q := by
  unfold mulI at h
  split at h
  · cases h; exact ⟨i, j, rfl, rfl, by assumption, q⟩
  · cases h
/-! #### scalars compared -/
theorem r_eq {x y : V} (h : scal x y = true) (q : Q (.bl (decide (x = y))) H) : rEq x y H Q := ⟨h, q⟩
theorem r_eqI {x y : Int} (q : Q (.bl (decide (x = y))) H) : rEq (.int x) (.int y) H Q := ⟨rfl, by
  rw [show decide (V.int x = V.int y) = decide (x = y) by by_cases e : x = y <;> simp [e]]; exact q⟩
theorem r_eqS {x y : Str} (q : Q (.bl (decide (x = y))) H) : rEq (.str x) (.str y) H Q := ⟨rfl, by
  rw [show decide (V.str x = V.str y) = decide (x = y) by by_cases e : x = y <;> simp [e]]; exact q⟩
theorem r_eqB {x y : Bool} (q : Q (.bl (decide (x = y))) H) : rEq (.bl x) (.bl y) H Q := ⟨rfl, by
  rw [show decide (V.bl x = V.bl y) = decide (x = y) by by_cases e : x = y <;> simp [e]]; exact q⟩
theorem r_neI {x y : Int} (q : Q (.bl (!decide (x = y))) H) : rNe (.int x) (.int y) H Q := ⟨rfl, by
  rw [show decide (V.int x = V.int y) = decide (x = y) by by_cases e : x = y <;> simp [e]]; exact q⟩
theorem r_neS {x y : Str} (q : Q (.bl (!decide (x = y))) H) : rNe (.str x) (.str y) H Q := ⟨rfl, by
  rw [show decide (V.str x = V.str y) = decide (x = y) by by_cases e : x = y <;> simp [e]]; exact q⟩
theorem r_neB {x y : Bool} (q : Q (.bl (!decide (x = y))) H) : rNe (.bl x) (.bl y) H Q := ⟨rfl, by
  rw [show decide (V.bl x = V.bl y) = decide (x = y) by by_cases e : x = y <;> simp [e]]; exact q⟩
/-! #### texts -/
def rAddT : R2 := fun x y H Q => ∃ i j, x = .str i ∧ y = .str j ∧ i.length + j.length ≤ sizeLine ∧ Q (.str (i ++ j)) H
theorem op_addT {X : Cx} : OpR X (binaryOp .Add) rAddT := op_add_str
theorem r_addS {x y z : Str} (h : addS x y = some z) (q : Q (.str z) H) : rAddT (.str x) (.str y) H Q := by
  unfold addS at h
  split at h
  · cases h; exact ⟨x, y, rfl, rfl, LINE_eq ▸ by assumption, q⟩
  · cases h
def rLenT : List V → Hp → VK → Prop := fun xs H Q => ∃ z, xs = [.str z] ∧ z.length ≤ sizeLine ∧ Q (.int z.length) H
theorem call_lenT {X : Cx} : CallR X (.builtin "len") rLenT := call_len_str
theorem r_lenS {z : Str} {n : Int} (h : lenS z = some n) (q : Q (.int n) H) : rLenT [.str z] H Q := by
  unfold lenS at h
  split at h
  · cases som h; exact ⟨z, rfl, LINE_eq ▸ by assumption, q⟩
  · cases h
theorem one_sign {c : Str} (h : c.length = 1) : c = ⟨#[c.cps.getD 0 0]⟩ := by
  obtain ⟨⟨l⟩⟩ := c
  have h' : l.length = 1 := h
  match l, h' with
  | [x], _ => rfl
theorem r_inS {x z : Str} {b : Bool} (h : inS x z = some b) (q : Q (.bl b) H) : rInS (.str x) (.str z) H Q := by
  unfold inS at h
  split at h
  · rename_i h1
    refine ⟨x.cps.getD 0 0, z, by rw [← one_sign h1], rfl, ?_⟩
    rw [som h]; exact q
  · cases h
theorem r_notInS {x z : Str} {b : Bool} (h : inS x z = some b) (q : Q (.bl (!b)) H) : rNotInS (.str x) (.str z) H Q := by
  unfold inS at h
  split at h
  · rename_i h1
    refine ⟨x.cps.getD 0 0, z, by rw [← one_sign h1], rfl, ?_⟩
    rw [som h]; exact q
  · cases h
def rMulT : R2 := fun x y H Q => ∃ (i : Str) (k : Int), x = .str i ∧ y = .int k ∧ MulOk i k ∧ Q (.str (Txt.mul i k)) H
theorem op_mulT {X : Cx} : OpR X (binaryOp .Mult) rMulT := by
  intro pins s σ H x y v u Q I rx ry h
  obtain ⟨i, j, rfl, rfl, hz, q⟩ := h
  obtain ⟨t, rfl⟩ := rx
  obtain ⟨t', rfl⟩ := ry
  exact SB.mul hz fun t' k => ⟨.str (Txt.mul i j), H, I.tok _, ⟨_, rfl⟩, q⟩
theorem foldl_app (x : Array Nat) : ∀ (n : Nat) (acc : Array Nat), (List.replicate n x).foldl (· ++ ·) acc = acc ++ ((List.replicate n x.toList).flatten).toArray
  | 0, acc => by simp
  | n + 1, acc => by
    rw [List.replicate_succ, List.foldl_cons, foldl_app x n, List.replicate_succ, List.flatten_cons, Array.append_assoc]
    congr 1
    apply Array.ext'
    simp
theorem r_mulS {x z : Str} {k : Int} (h : mulS x k = some z) (q : Q (.str z) H) : rMulT (.str x) (.int k) H Q := by
  unfold mulS at h
  split at h
  · rename_i hc
    obtain ⟨h1, h2, h3⟩ := hc
    cases som h
    have hz : x.length * k.toNat ≤ sizeLine := LINE_eq ▸ h1
    refine ⟨x, k, rfl, rfl, ⟨by simp only [Bool.or_eq_false_iff, decide_eq_false_iff_not]; omega, fun hk _ => ?_, fun hk _ => ?_⟩, ?_⟩
    · have hk1 : 0 < k := by omega
      intro hgt
      have e1 : (x.length : Int) * k ≤ 16777216 := by
        have e2 : ((x.length * k.toNat : Nat) : Int) ≤ 16777216 := by
          have : x.length * k.toNat ≤ 16777216 := h1
          omega
        rw [Int.natCast_mul, Int.toNat_of_nonneg (by omega)] at e2
        exact e2
      have e3 := (Int.ediv_lt_iff_lt_mul hk1).mp hgt
      omega
    · simp only [Builtin.Str.tooLong, decide_eq_false_iff_not]
      omega
    · have e : Txt.mul x k = (⟨(List.replicate k.toNat x.cps.toList).flatten.toArray⟩ : Str) := by
        unfold Txt.mul
        split
        · have : k.toNat = 0 := by omega
          rw [this]; rfl
        · split
          · rename_i h5 h6
            simp only [Bool.or_eq_true, beq_iff_eq] at h6
            rcases h6 with h6 | h6
            · subst h6
              show x = _
              simp
            · have hx : x.cps.toList = [] := by
                have : x.cps.size = 0 := h6
                simpa [Array.toList_eq_nil_iff] using Array.eq_empty_of_size_eq_zero this
              rw [hx]
              obtain ⟨⟨l⟩⟩ := x
              simp only at hx
              subst hx
              simp
          · rw [foldl_app]; simp
      rw [e]; exact q
  · cases h
theorem r_cutS {z x : Str} {lo hi : Option Int} (h : cutSO z lo hi = some x) (q : Q (.str x) H) : rSlS (.str z) lo hi H Q := by
  unfold cutSO at h
  split at h
  · cases som h; exact ⟨z, rfl, LINE_eq ▸ by assumption, q⟩
  · cases h
/-! #### truth values, classes -/
theorem r_all {bs : List Bool} (s : S c H E) (hk : E[k]? = some ⟨v, td bs, b⟩) (q : Q (.bl (bs.all id)) H) : rAll c.K [v] H Q := by
  obtain ⟨a, vs, rfl, h, z, l⟩ := s.lst (ds := bs.map td) hk
  have e : vs = bs.map V.bl := DaL.scs (ws := bs.map V.bl) (by rw [List.map_map]; exact l)
  exact ⟨a, bs, rfl, .of (by rw [h, e]), q⟩
theorem r_any {bs : List Bool} (s : S c H E) (hk : E[k]? = some ⟨v, td bs, b⟩) (q : Q (.bl (bs.any id)) H) : rAny c.K [v] H Q := by
  obtain ⟨a, vs, rfl, h, z, l⟩ := s.lst (ds := bs.map td) hk
  have e : vs = bs.map V.bl := DaL.scs (ws := bs.map V.bl) (by rw [List.map_map]; exact l)
  exact ⟨a, bs, rfl, .of (by rw [h, e]), q⟩
theorem r_isi {K : PySem.W.Frag} {x : V} {T U : String} {b : Bool} (ht : TyOf K H x (.type T)) (hk : kitB T U = some b) (q : Q (.bl b) H) : rIsi K [x, .ty U] H Q :=
  ⟨x, .ty U, .type T, .type U, b, rfl, .ty U, .base ht, kit_ty hk, q⟩
/-! #### lists -/
theorem r_lenL {α : Type} [TD α] {xs : List α} (s : S c H E) (hk : E[k]? = some ⟨v, td xs, b⟩) (q : Q (.int (xs.length : Int)) H) :
    (fun (ys : List V) (H : Hp) (Q : VK) => ∃ p zs, ys = [.ref p] ∧ (SqL c.K H p zs ∨ SqT c.K H p zs) ∧ Q (.int zs.length) H) [v] H Q := by
  obtain ⟨a, vs, rfl, h, z, l⟩ := s.lst (ds := xs.map td) hk
  have e : (vs.length : Int) = (xs.length : Int) := by rw [l.length, List.length_map]
  exact ⟨a, vs, rfl, .inl (.of h), by rw [e]; exact q⟩
def rLenQ (K : PySem.W.Frag) : List V → Hp → VK → Prop := fun xs H Q => ∃ p ys, xs = [.ref p] ∧ (SqL K H p ys ∨ SqT K H p ys) ∧ Q (.int ys.length) H
theorem call_lenQ {X : Cx} : CallR X (.builtin "len") (rLenQ X.K) := call_len_seq
theorem r_lenQ {α : Type} [TD α] {xs : List α} (s : S c H E) (hk : E[k]? = some ⟨v, td xs, b⟩) (q : Q (.int (xs.length : Int)) H) : rLenQ c.K [v] H Q := r_lenL s hk q
theorem r_lenTp {α : Type} [TD α] {xs : Tp α} (s : S c H E) (hk : E[k]? = some ⟨v, td xs, b⟩) (q : Q (.int (xs.l.length : Int)) H) : rLenQ c.K [v] H Q := by
  obtain ⟨a, vs, rfl, h, z, l⟩ := s.tupl (ds := xs.l.map td) hk
  have e : (vs.length : Int) = (xs.l.length : Int) := by rw [l.length, List.length_map]
  exact ⟨a, vs, rfl, .inr h, by rw [e]; exact q⟩
theorem S.tyL (s : S c H E) {ds : List D} (hk : E[k]? = some ⟨v, .lst ds, b⟩) : tyV c.K "list" v H := by
  obtain ⟨a, vs, rfl, h, z, l⟩ := s.lst hk
  exact .inl ⟨rfl, _, SqL.of h⟩
/-- setting an item of an owned list -/
theorem r_setL {α : Type} [TD α] {xs ys : List α} {x : α} {i : Int} {a : Addr} {w : V} {Q : Hp → Prop} (s : S c H E) (hk : E[k]? = some (ow a (td xs))) (hw : Da c.K c.ce H (okA c E) w (td x)) (h : setI xs i x = some ys)
    (q : ∀ H', S c H' (E.set k (ow a (td ys))) → Q H') : rSetL (.ref a) (.int i) w H Q := by
  unfold setI at h
  obtain ⟨j, h1, h2⟩ := bnd h
  cases som h2
  have o := s.own hk
  cases o with
  | @lst vs _ ha hz l =>
    have hl : vs.length = xs.length := by rw [l.length, List.length_map]
    refine ⟨a, vs, i, j, rfl, rfl, ha, by rw [hl]; exact h1, q _ (s.put hk (.lst upd_same (by rw [List.length_set]; exact hz) ?_))⟩
    have l2 := (l.set hw j).mono (s.keepOwn (o := .lst (vs.set j w)) hk) (ok' := okA c E) fun a o _ => o
    rw [List.map_set]
    exact l2
theorem r_appL {α : Type} [TD α] {xs ys : List α} {x : α} {a : Addr} {w : V} (s : S c H E) (hk : E[k]? = some (ow a (td xs))) (hw : Da c.K c.ce H (okA c E) w (td x)) (h : pushL xs x = some ys)
    (q : ∀ H', S c H' (E.set k (ow a (td ys))) → Q .non H') : rAppend (.ref a) [w] H Q := by
  unfold pushL at h
  split at h
  · rename_i hz
    cases som h
    have o := s.own hk
    cases o with
    | @lst vs _ ha hz' l =>
      have hl : vs.length = xs.length := by rw [l.length, List.length_map]
      rw [LINE_eq] at hz
      refine ⟨a, vs, w, rfl, rfl, ha, by omega, q _ (s.put hk (.lst upd_same (by rw [List.length_append, List.length_singleton]; omega) ?_))⟩
      have l2 := (l.append (DaL.one hw)).mono (s.keepOwn (o := .lst (vs ++ [w])) hk) (ok' := okA c E) fun a o _ => o
      rw [List.map_append]
      exact l2
  · cases h
theorem map_eraseIdx {α β : Type} (f : α → β) : ∀ (xs : List α) (j : Nat), (xs.eraseIdx j).map f = (xs.map f).eraseIdx j
  | [], _ => rfl
  | x :: xs, 0 => rfl
  | x :: xs, j + 1 => by simp [map_eraseIdx f xs j]
/-- xs.pop(i), the value a scalar -/
theorem r_popLi {xs ys : List Int} {x : Int} {i : Int} {a : Addr} (s : S c H E) (hk : E[k]? = some (ow a (td xs))) (h : popI xs i = some (x, ys)) (hi : -(2 ^ 63) ≤ i ∧ i < 2 ^ 63)
    (q : ∀ H', S c H' (E.set k (ow a (td ys))) → Q (.int x) H') : rPopAt (.ref a) [.int i] H Q := by
  unfold popI at h
  obtain ⟨j, h1, h2⟩ := bnd h
  obtain ⟨y, h3, h4⟩ := bnd h2
  cases som h4
  have o := s.own hk
  cases o with
  | @lst vs _ ha hz l =>
    have hl : vs.length = xs.length := by rw [l.length, List.length_map]
    obtain ⟨w, g1, g2⟩ := l.get (i := j) (d := td x) (by rw [List.getElem?_map, h3]; rfl)
    rw [g2.ofSc] at g1
    have hs := (ixN_seq (n := vs.length) (i := i) (j := j) (by rw [hl]; exact h1)).1
    refine ⟨a, vs, i, j, _, rfl, rfl, ha, hi.1, hi.2, hs, g1, q _ (s.put hk (.lst upd_same (Nat.le_trans (len_erase vs j) hz) ?_))⟩
    have l2 := (l.eraseIdx j).mono (s.keepOwn (o := .lst (vs.eraseIdx j)) hk) (ok' := okA c E) fun a o _ => o
    rw [map_eraseIdx]
    exact l2
/-! #### making -/
theorem r_tup {vs : List V} {ds : List D} (s : S c H E) (h : DaL c.K c.ce H (okA c E) vs ds) (hz : vs.length ≤ sizeLine := by exact Nat.le_of_ble_eq_true rfl) (q : ∀ p H', S c H' (fz (.ref p) (.tup ds) :: E) → Q (.ref p) H') :
    NewT Q vs H := ⟨hz, fun p hp => q p _ (s.tup hp h hz)⟩
theorem r_lst {vs : List V} {ds : List D} (s : S c H E) (h : DaL c.K c.ce H (okA c E) vs ds) (hz : vs.length ≤ sizeLine := by exact Nat.le_of_ble_eq_true rfl) (q : ∀ p H', S c H' (fz (.ref p) (.lst ds) :: E) → Q (.ref p) H') :
    NewL Q vs H := ⟨hz, fun p hp => q p _ (s.lstF hp h hz)⟩
theorem r_lstO {vs : List V} {ds : List D} (s : S c H E) (h : DaL c.K c.ce H (okA c E) vs ds) (hz : vs.length ≤ sizeLine := by exact Nat.le_of_ble_eq_true rfl) (q : ∀ p H', S c H' (ow p (.lst ds) :: E) → Q (.ref p) H') :
    NewL Q vs H := ⟨hz, fun p hp => q p _ (s.lstO hp h hz)⟩
end
end FB

namespace FB
open PySem L2

/-! ### loops -/
def ForB (J : It) (g : TG) (tb : TS) (D : Ends) (σ : St) (H : Hp) : Prop := ∃ W : Nat → Nat → St → Hp → Prop, (∃ m, W 0 m σ H) ∧ ∀ i m σ H, W i m σ H →
  (J.stop i H ∧ D.nx σ H) ∨ (J.go i H ∧ ∃ N : St → Hp → Prop, (∀ σ' H', N σ' H' → ∃ m', m' < m ∧ W (i + 1) m' σ' H') ∧ ∀ x H', J.yld i H x H' → g x σ H' fun σ2 H2 => tb { D with nx := N, ct := N, bk := D.nx } σ2 H2)
def LcB (J : It) (g : TG) (tt : TT) (te : TE) (vs : List Nat) (σ : St) (H1 : Hp) (Q : VK) : Prop := ∀ D, H1 D = none → ∃ W : Nat → Nat → Hp → Prop, (∃ m, W 0 m (upd H1 D (.lst []))) ∧ ∀ i m H, W i m H →
  (J.stop i H ∧ Q (.ref D) H) ∨ (J.go i H ∧ ∃ Nx : Hp → Prop, (∀ H', Nx H' → ∃ m', m' < m ∧ W (i + 1) m' H') ∧ ∀ x H', J.yld i H x H' → g x (wipe σ vs) H' fun σ2 H2 => wipe σ2 vs = wipe σ vs ∧ tt σ2 H2 fun b H3 =>
    if b = true then te σ2 H3 fun y H4 => ∃ acc, H4 D = some (.lst acc) ∧ acc.length < sizeLine ∧ Nx (upd H4 D (.lst (acc ++ [y]))) else Nx H3)
/-- what a loop walks: a list at a value, a tuple, a text's signs, ints -/
inductive Way where
  | lst (v : V) | tup (v : V) | str (z : Str) | rng (lo hi : Int) | scr (a : Addr) (ns : List Int)
def Way.Is (K : PySem.W.Frag) : Way → L2.It → Prop
  | .lst v, J => ∃ a, v = .ref a ∧ J = Itl K a
  | .tup v, J => ∃ a, v = .ref a ∧ J = Itt K a
  | .str z, J => J = Its z
  | .rng lo hi, J => J = Itr lo (hi - lo).toNat
  | .scr a _, J => J = Itl K a
/-- in a state where it stands, the way gives ds -/
def Way.At (c : Cfg) (ds : List D) : Way → Hp → Prop
  | .lst v, H => ∃ (E : List Ent) (k : Nat) (b : Bool), S c H E ∧ E[k]? = some ⟨v, .lst ds, b⟩
  | .tup v, H => ∃ (E : List Ent) (k : Nat) (b : Bool), S c H E ∧ E[k]? = some ⟨v, .tup ds, b⟩
  | .str z, _ => ds = (signs z).map fun x => .sc (.str x)
  | .rng lo hi, _ => ds = (rangeI lo hi).map fun x => .sc (.int x)
  | .scr a ns, H => SqL c.K H a (ns.map V.int) ∧ ds = ns.map fun x => .sc (.int x)
/-- an item that came in H stands for d in every state of H that bears the way -/
def Way.Gives (c : Cfg) (ds : List D) (d : D) (w : V) (H : Hp) : Way → Prop
  | .lst v => ∀ (E : List Ent) (k : Nat) (b : Bool), S c H E → E[k]? = some ⟨v, .lst ds, b⟩ → Da c.K c.ce H (okA c E) w d
  | .tup v => ∀ (E : List Ent) (k : Nat) (b : Bool), S c H E → E[k]? = some ⟨v, .tup ds, b⟩ → Da c.K c.ce H (okA c E) w d
  | _ => d = .sc w
section
variable {c : Cfg} {ds : List D} {w : Way} {J : It}
theorem Way.walk (hJ : w.Is c.K J) : Walk J ds.length (w.At c ds) (fun i H x H' => H' = H ∧ ∃ d, ds[i]? = some d ∧ w.Gives c ds d x H) := by
  cases w with
  | lst v =>
    obtain ⟨a, rfl, rfl⟩ := hJ
    refine ⟨fun i H hi g => ?_, fun H g => ?_, fun i H x H' hi g y => ?_⟩
    · obtain ⟨E, k, b, s, hk⟩ := g
      obtain ⟨a', vs, e, h, z, l⟩ := s.lst hk
      cases e
      obtain ⟨v, h1, h2⟩ := l.get (i := i) (d := ds[i]) (by simp [hi])
      exact ⟨vs, v, .of h, h1⟩
    · obtain ⟨E, k, b, s, hk⟩ := g
      obtain ⟨a', vs, e, h, z, l⟩ := s.lst hk
      cases e
      exact ⟨vs, .of h, Nat.le_of_eq l.length⟩
    · obtain ⟨e1, y⟩ := y
      refine ⟨e1, ds[i], by simp [hi], fun E k b s hk => ?_⟩
      obtain ⟨a', vs, e, h, z, l⟩ := s.lst hk
      cases e
      obtain ⟨v, h1, h2⟩ := l.get (i := i) (d := ds[i]) (by simp [hi])
      have h3 := y vs (.of h)
      rw [h1] at h3; cases h3
      exact h2
  | tup v =>
    obtain ⟨a, rfl, rfl⟩ := hJ
    refine ⟨fun i H hi g => ?_, fun H g => ?_, fun i H x H' hi g y => ?_⟩
    · obtain ⟨E, k, b, s, hk⟩ := g
      obtain ⟨a', vs, e, h, z, l⟩ := s.tupl hk
      cases e
      obtain ⟨v, h1, h2⟩ := l.get (i := i) (d := ds[i]) (by simp [hi])
      exact ⟨vs, v, h, h1⟩
    · obtain ⟨E, k, b, s, hk⟩ := g
      obtain ⟨a', vs, e, h, z, l⟩ := s.tupl hk
      cases e
      exact ⟨vs, h, Nat.le_of_eq l.length⟩
    · obtain ⟨e1, y⟩ := y
      refine ⟨e1, ds[i], by simp [hi], fun E k b s hk => ?_⟩
      obtain ⟨a', vs, e, h, z, l⟩ := s.tupl hk
      cases e
      obtain ⟨v, h1, h2⟩ := l.get (i := i) (d := ds[i]) (by simp [hi])
      have h3 := y vs h
      rw [h1] at h3; cases h3
      exact h2
  | str z =>
    cases hJ
    refine ⟨fun i H hi g => ?_, fun H g => ?_, fun i H x H' hi g y => ?_⟩
    · have g' : ds = (signs z).map fun x => .sc (.str x) := g
      subst g'
      simpa [Its, signs] using hi
    · have g' : ds = (signs z).map fun x => .sc (.str x) := g
      subst g'
      simp [Its, signs]
    · have g' : ds = (signs z).map fun x => .sc (.str x) := g
      subst g'
      obtain ⟨e1, cp, h1, rfl⟩ := y
      refine ⟨e1, .sc (.str ⟨#[cp]⟩), ?_, rfl⟩
      rw [List.getElem?_map, signs, List.getElem?_map, Array.getElem?_toList, h1]
      rfl
  | rng lo hi' =>
    cases hJ
    refine ⟨fun i H hi g => ?_, fun H g => ?_, fun i H x H' hi g y => ?_⟩
    · have g' : ds = (rangeI lo hi').map fun x => .sc (.int x) := g
      subst g'
      simpa [Itr, rangeI] using hi
    · have g' : ds = (rangeI lo hi').map fun x => .sc (.int x) := g
      subst g'
      simp only [Itr, rangeI, List.length_map, List.length_range]
      exact Nat.le_refl _
    · have g' : ds = (rangeI lo hi').map fun x => .sc (.int x) := g
      subst g'
      obtain ⟨e1, rfl⟩ := y
      refine ⟨e1, .sc (.int (lo + (i : Int))), ?_, rfl⟩
      have hi2 : i < (hi' - lo).toNat := by simpa [rangeI] using hi
      rw [List.getElem?_map, rangeI, List.getElem?_map, List.getElem?_range hi2]
      rfl
  | scr a ns =>
    cases hJ
    refine ⟨fun i H hi g => ?_, fun H g => ?_, fun i H x H' hi g y => ?_⟩
    · obtain ⟨g1, g2⟩ := g
      subst g2
      exact ⟨_, V.int (ns[i]'(by simpa using hi)), g1, by simp [show i < ns.length by simpa using hi]⟩
    · obtain ⟨g1, g2⟩ := g
      subst g2
      exact ⟨_, g1, by simp⟩
    · obtain ⟨g1, g2⟩ := g
      have h2 : i < ns.length := by rw [g2, List.length_map] at hi; exact hi
      obtain ⟨e1, y⟩ := y
      have h3 := y _ g1
      rw [List.getElem?_map, List.getElem?_eq_getElem h2] at h3
      refine ⟨e1, .sc x, ?_, rfl⟩
      rw [g2, List.getElem?_map, List.getElem?_eq_getElem h2]
      exact congrArg (fun z => z.map D.sc) h3
end
section
variable {c : Cfg} {w : Way} {J : It} {α β : Type} [TD α] [TD β] {xs : List α} {ys : List β}
/-- a for: Inv of the items still to come -/
theorem forB {g : TG} {tb : TS} {nx bk ct : St → Hp → Prop} {rt : VK} {σ : St} {H : Hp} (xs : List α) (hJ : w.Is c.K J) (Inv : List α → St → Hp → Prop) (h0 : Inv xs σ H) (hG : ∀ l σ H, Inv l σ H → w.At c (xs.map td) H)
    (turn : ∀ d l x σ H, Inv (d :: l) σ H → w.Gives c (xs.map td) (td d) x H → g x σ H fun σ2 H2 => tb ⟨Inv l, rt, nx, Inv l⟩ σ2 H2) (done : ∀ σ H, Inv [] σ H → nx σ H) : ForB J g tb ⟨nx, rt, bk, ct⟩ σ H := by
  refine for_it (Way.walk hJ) (fun i σ H => i ≤ (xs.map td).length ∧ Inv (xs.drop i) σ H) ⟨Nat.zero_le _, by simpa using h0⟩ (fun i σ H _ p => hG _ _ _ p.2) (fun i x σ H H' hi p y => ?_) fun σ H p => done σ H (by simpa using p.2)
  obtain ⟨e1, d, h1, h2⟩ := y
  subst e1
  rw [List.getElem?_map] at h1
  cases hx : xs[i]? with
  | none => rw [hx] at h1; cases h1
  | some d0 =>
    rw [hx] at h1
    cases som h1
    have hd : xs.drop i = d0 :: xs.drop (i + 1) := by
      obtain ⟨hlt, e⟩ := List.getElem?_eq_some_iff.mp hx
      rw [← e]; exact List.drop_eq_getElem_cons hlt
    have q := turn d0 (xs.drop (i + 1)) x σ H' (by rw [← hd]; exact p.2) h2
    have hF : (fun σ H => i + 1 ≤ (xs.map td).length ∧ Inv (xs.drop (i + 1)) σ H) = Inv (xs.drop (i + 1)) := by
      funext σ H
      exact propext ⟨fun z => z.2, fun z => ⟨hi, z⟩⟩
    rw [hF]
    exact q
/-- a comprehension -/
theorem lcB {g : TG} {tt : TT} {te : TE} {vs : List Nat} {σ : St} {H : Hp} {Q : VK} {E : List Ent} {f : α → Option (Option β)} (hJ : w.Is c.K J) (s : S c H E) (hn : xs.length ≤ LINE) (hf : compO xs f = some ys) (hG : ∀ H', (∃ D ds, S c H' (ow D (.lst ds) :: E)) → w.At c (xs.map td) H')
    (turn : ∀ d o D acc x H', f d = some o → S c H' (ow D (td (acc : List β)) :: E) → w.Gives c (xs.map td) (td d) x H' → ∀ (R0 : Hp → Prop) (R1 : VK), (o = none → ∀ H3, S c H3 (ow D (td acc) :: E) → R0 H3) → (∀ y, o = some y → ∀ u H4, S c H4 (fz u (td y) :: ow D (td acc) :: E) → R1 u H4) →
      g x (wipe σ vs) H' fun σ2 H2 => wipe σ2 vs = wipe σ vs ∧ tt σ2 H2 (IfQ (fun H3 => te σ2 H3 R1) R0))
    (q : ∀ D H', S c H' (ow D (td ys) :: E) → Q (.ref D) H') : LcB J g tt te vs σ H Q := by
  intro D hD
  refine lc_it (Way.walk hJ) (fun i H' => i ≤ (xs.map td).length ∧ ∃ acc : List β, acc.length ≤ i ∧ S c H' (ow D (td acc) :: E) ∧ ∃ r, compO (xs.drop i) f = some r ∧ acc ++ r = ys) ⟨Nat.zero_le _, [], Nat.le_refl _, s.lstO hD .nil (Nat.zero_le _), ys, by simpa using hf, rfl⟩
    (fun i H' _ p => hG H' ⟨D, _, p.2.choose_spec.2.1⟩) (fun i x H1 H' hi p y => ?_) fun H' p => ?_
  · obtain ⟨e1, d, h1, h2⟩ := y
    subst e1
    obtain ⟨hle, acc, hacc, s1, r, hr, hes⟩ := p
    rw [List.getElem?_map] at h1
    cases hx : xs[i]? with
    | none => rw [hx] at h1; cases h1
    | some d0 =>
      rw [hx] at h1
      cases som h1
      have hd : xs.drop i = d0 :: xs.drop (i + 1) := by
        obtain ⟨hlt, e⟩ := List.getElem?_eq_some_iff.mp hx
        rw [← e]; exact List.drop_eq_getElem_cons hlt
      rw [hd] at hr
      obtain ⟨o, ho, hr⟩ := bnd hr
      obtain ⟨r', hr', hr⟩ := bnd hr
      have hr := som hr
      rw [List.length_map] at hi hle
      refine turn d0 o D acc x H' ho s1 h2 (fun H3 => i + 1 ≤ (xs.map td).length ∧ ∃ acc : List β, acc.length ≤ i + 1 ∧ S c H3 (ow D (td acc) :: E) ∧ ∃ r, compO (xs.drop (i + 1)) f = some r ∧ acc ++ r = ys)
        (fun y H4 => ∃ acc, H4 D = some (.lst acc) ∧ acc.length < sizeLine ∧ (i + 1 ≤ (xs.map td).length ∧ ∃ acc' : List β, acc'.length ≤ i + 1 ∧ S c (upd H4 D (.lst (acc ++ [y]))) (ow D (td acc') :: E) ∧ ∃ r, compO (xs.drop (i + 1)) f = some r ∧ acc' ++ r = ys)) ?_ ?_
      · intro e H3 s3
        subst e
        exact ⟨by rw [List.length_map]; exact hi, acc, by omega, s3, r', hr', by rw [← hes, ← hr]⟩
      · intro y e u H4 s4
        subst e
        have o4 := s4.own (k := 1) (a := D) (d := .lst (acc.map td)) rfl
        cases o4 with
        | @lst vs4 _ hD4 hz4 l4 =>
          have hl : vs4.length = acc.length := by rw [l4.length, List.length_map]
          rw [LINE_eq] at hn
          refine ⟨vs4, hD4, by omega, by rw [List.length_map]; exact hi, acc ++ [y], by rw [List.length_append, List.length_singleton]; omega, ?_, r', hr', by rw [← hes, ← hr]; simp⟩
          have hu : Da c.K c.ce H4 (okA c (fz u (td y) :: ow D (td acc) :: E)) u (td y) := s4.fz (k := 0) rfl
          have l5 := (l4.append (DaL.one hu)).mono (s4.keepOwn (a := D) (d := .lst (acc.map td)) (o := .lst (vs4 ++ [u])) (k := 1) rfl) (ok' := okA c (fz u (td y) :: ow D (td acc) :: E)) fun a o _ => o
          have s5 := s4.put (k := 1) (a := D) (d := .lst (acc.map td)) (d' := .lst (acc.map td ++ [td y])) (o := .lst (vs4 ++ [u])) rfl (.lst upd_same (by rw [List.length_append, List.length_singleton]; omega) l5)
          have e6 : td (acc ++ [y]) = FB.D.lst (acc.map td ++ [td y]) := by show FB.D.lst _ = _; rw [List.map_append]; rfl
          rw [e6]
          exact s5.sub (E' := ow D (.lst (acc.map td ++ [td y])) :: E) s5.nd (fun e he => .inl (List.mem_cons_of_mem _ he)) (fun a h => h)
  · obtain ⟨hle, acc, hacc, s1, r, hr, hes⟩ := p
    rw [List.length_map, List.drop_length] at hr
    have e := som hr
    subst e
    rw [List.append_nil] at hes
    subst hes
    exact q D H' s1
end

/-! #### the loops' readings -/
section
variable {K : PySem.W.Frag} {g : TG} {tb : TS} {D : Ends} {σ : St} {H : Hp} {tl te : TE} {tt : TT} {vs : List Nat} {Q : VK} {ta : TA}
def LoopL (K : PySem.W.Frag) (F : L2.It → Hp → Prop) : VK := fun x H => ∃ a, x = .ref a ∧ (∃ xs, SqL K H a xs) ∧ F (Itl K a) H
def LoopT (K : PySem.W.Frag) (F : L2.It → Hp → Prop) : VK := fun x H => ∃ a, x = .ref a ∧ (∃ xs, SqT K H a xs) ∧ F (Itt K a) H
theorem w_forL (h : tl σ H (LoopL K fun J H => ForB J g tb D σ H)) : tFor (iList K tl) g tb D σ H := h
theorem w_forT (h : tl σ H (LoopT K fun J H => ForB J g tb D σ H)) : tFor (iTup K tl) g tb D σ H := h
def LoopS (F : L2.It → Hp → Prop) : VK := fun v H1 => ∃ x, v = .str x ∧ F (Its x) H1
theorem w_forS (h : tl σ H (LoopS fun J H => ForB J g tb D σ H)) : tFor (iStr tl) g tb D σ H := h
def LoopR (F : L2.It → Hp → Prop) : List V → Hp → Prop := fun vs H1 => ∃ j : Int, vs = [.int j] ∧ -(2 ^ 62) ≤ j ∧ j < 2 ^ 62 ∧ F (Itr 0 j.toNat) H1
def LoopR2 (F : L2.It → Hp → Prop) : List V → Hp → Prop := fun vs H1 => ∃ i j : Int, vs = [.int i, .int j] ∧ (-(2 ^ 62) ≤ i ∧ i < 2 ^ 62 ∧ -(2 ^ 62) ≤ j ∧ j < 2 ^ 62) ∧ F (Itr i (j - i).toNat) H1
theorem w_forR (h : ta σ H (LoopR fun J H => ForB J g tb D σ H)) : tFor (iRng1 ta) g tb D σ H := h
theorem w_forR2 (h : ta σ H (LoopR2 fun J H => ForB J g tb D σ H)) : tFor (iRng2 ta) g tb D σ H := h
theorem w_lcL (h : tl σ H (LoopL K fun J H => LcB J g tt te vs σ H Q)) : tLc (iList K tl) g tt te vs σ H Q := h
theorem w_lcT (h : tl σ H (LoopT K fun J H => LcB J g tt te vs σ H Q)) : tLc (iTup K tl) g tt te vs σ H Q := h
theorem w_lcS (h : tl σ H (LoopS fun J H => LcB J g tt te vs σ H Q)) : tLc (iStr tl) g tt te vs σ H Q := h
theorem w_lcR (h : ta σ H (LoopR fun J H => LcB J g tt te vs σ H Q)) : tLc (iRng1 ta) g tt te vs σ H Q := h
theorem w_lcR2 (h : ta σ H (LoopR2 fun J H => LcB J g tt te vs σ H Q)) : tLc (iRng2 ta) g tt te vs σ H Q := h
end
section
variable {c : Cfg} {H : Hp} {E : List Ent} {k : Nat} {v : V} {b : Bool} {F : L2.It → Hp → Prop}
theorem l_lst {ds : List D} (s : S c H E) (hk : E[k]? = some ⟨v, .lst ds, b⟩) (h : ∀ J, Way.Is c.K (.lst v) J → F J H) : LoopL c.K F v H := by
  obtain ⟨a, vs, rfl, hh, z, l⟩ := s.lst hk
  exact ⟨a, rfl, ⟨vs, .of hh⟩, h _ ⟨a, rfl, rfl⟩⟩
theorem l_str {z : Str} (h : F (Its z) H) : LoopS F (.str z) H := ⟨z, rfl, h⟩
theorem l_tup {ds : List D} (s : S c H E) (hk : E[k]? = some ⟨v, .tup ds, b⟩) (h : ∀ J, Way.Is c.K (.tup v) J → F J H) : LoopT c.K F v H := by
  obtain ⟨a, vs, rfl, hh, z, l⟩ := s.tupl hk
  exact ⟨a, rfl, ⟨vs, hh⟩, h _ ⟨a, rfl, rfl⟩⟩
/-- the size of a list that stands -/
theorem S.small {α : Type} [TD α] {xs : List α} (s : S c H E) (hk : E[k]? = some ⟨v, td xs, b⟩) : xs.length ≤ LINE := by
  obtain ⟨a, vs, rfl, hh, z, l⟩ := s.lst (ds := xs.map td) hk
  rw [LINE_eq, ← List.length_map (f := td), ← l.length]; exact z
theorem S.smallT {α : Type} [TD α] {xs : Tp α} (s : S c H E) (hk : E[k]? = some ⟨v, td xs, b⟩) : xs.l.length ≤ LINE := by
  obtain ⟨a, vs, rfl, hh, z, l⟩ := s.tupl (ds := xs.l.map td) hk
  rw [LINE_eq, ← List.length_map (f := td), ← l.length]; exact z
end
theorem rngO_of {a b : Int} {xs : List Int} (h : rngO a b = some xs) : (-(2 ^ 62) ≤ a ∧ a < 2 ^ 62 ∧ -(2 ^ 62) ≤ b ∧ b < 2 ^ 62 ∧ (b - a).toNat ≤ LINE) ∧ xs = rangeI a b := by
  unfold rngO at h
  split at h
  · exact ⟨by assumption, (som h).symm⟩
  · cases h
theorem r_rng {F : L2.It → Hp → Prop} {H : Hp} {j : Int} {xs : List Int} (h : rngO 0 j = some xs) (q : F (Itr 0 (j - 0).toNat) H) : LoopR F [.int j] H := by
  obtain ⟨⟨_, _, h1, h2, _⟩, _⟩ := rngO_of h
  exact ⟨j, rfl, h1, h2, by rw [Int.sub_zero] at q; exact q⟩
theorem r_rng2 {F : L2.It → Hp → Prop} {H : Hp} {i j : Int} {xs : List Int} (h : rngO i j = some xs) (q : F (Itr i (j - i).toNat) H) : LoopR2 F [.int i, .int j] H := by
  obtain ⟨⟨a, b, h1, h2, _⟩, _⟩ := rngO_of h
  exact ⟨i, j, rfl, ⟨a, b, h1, h2⟩, q⟩
theorem rng_at {c : Cfg} {H : Hp} {i j : Int} {xs : List Int} (h : rngO i j = some xs) : (Way.rng i j).At c (xs.map td) H := by
  rw [(rngO_of h).2]; rfl
theorem rng_small {i j : Int} {xs : List Int} (h : rngO i j = some xs) : xs.length ≤ LINE := by
  obtain ⟨⟨_, _, _, _, h1⟩, rfl⟩ := rngO_of h
  rw [rangeI, List.length_map, List.length_range]; exact h1
theorem signsO_of {z : Str} {xs : List Str} (h : signsO z = some xs) : z.length ≤ LINE ∧ xs = signs z := by
  unfold signsO at h
  split at h
  · exact ⟨by assumption, (som h).symm⟩
  · cases h
theorem str_at {c : Cfg} {H : Hp} {z : Str} {xs : List Str} (h : signsO z = some xs) : (Way.str z).At c (xs.map td) H := by
  rw [(signsO_of h).2]; rfl
theorem str_small {z : Str} {xs : List Str} (h : signsO z = some xs) : xs.length ≤ LINE := by
  obtain ⟨h1, rfl⟩ := signsO_of h
  rw [signs, List.length_map]; exact h1
theorem S.scr {c : Cfg} {H : Hp} {E : List Ent} (s : S c H E) {a : Addr} {ns : List Int} (h : SqL c.K c.H0 a (ns.map V.int)) (hm : c.M0 = []) : SqL c.K H a (ns.map V.int) := by
  rcases h with h | h
  · exact .inl (s.ex a _ (by rw [hm]; exact fun z => nomatch z) h)
  · exact .inr h
theorem l_scr {K : PySem.W.Frag} {H : Hp} {F : L2.It → Hp → Prop} {a : Addr} {ns : List Int} (h : SqL K H a (ns.map V.int)) (q : ∀ J, Way.Is K (.scr a ns) J → F J H) : LoopL K F (.ref a) H := ⟨a, rfl, ⟨_, h⟩, q _ rfl⟩
theorem gv_sc {v w : V} (h : D.sc v = D.sc w) : v = w := by cases h; rfl
abbrev mk (K : PySem.W.Frag) (ce : Str → Addr) (Z : Addr → Prop) (H : Hp) (E : List Ent) : Cfg := ⟨K, ce, Z, H, keys E⟩
theorem loop_cons {α ρ σ : Type} {x : α} {xs : List α} {s : σ} {f : α → σ → Option (Fl ρ σ)} {r : Fl ρ σ} (h : loopO (x :: xs) s f = some r) :
    ∃ q, f x s = some q ∧ (∀ s', q = .go s' → loopO xs s' f = some r) ∧ (∀ s', q = .brk s' → r = .brk s') ∧ (∀ v, q = .ret v → r = .ret v) := by
  obtain ⟨q, h1, h2⟩ := bnd h
  refine ⟨q, h1, fun s' e => ?_, fun s' e => ?_, fun v e => ?_⟩
  all_goals subst e
  · exact h2
  · exact (som h2).symm
  · exact (som h2).symm
theorem fold_cons {α σ : Type} {x : α} {xs : List α} {s : σ} {f : α → σ → Option σ} {r : σ} (h : foldO (x :: xs) s f = some r) : ∃ s', f x s = some s' ∧ foldO xs s' f = some r := bnd h
end FB
namespace FB
open PySem L2
theorem S.none {K : PySem.W.Frag} {ce : Str → Addr} {H : Hp} : S (FB.mk K ce (fun _ => False) H []) H [] :=
  ⟨List.nodup_nil, (fun _ h => nomatch h), (fun _ h => nomatch h), (fun _ h => nomatch h), fun _ h => h.elim, fun _ _ _ h => h, fun _ _ _ _ h => h, fun _ _ h => h, fun _ h => h, fun _ h => h.elim⟩
end FB

namespace My
open PySem FB
abbrev c_LETTERS : Str := "abcdefghijklmnopqrstuvwxyz"
abbrev c_CAPITALS : Str := "ABCDEFGHIJKLMNOPQRSTUVWXYZ"
abbrev c_SIGNS : Str := "abcdefghijklmnopqrstuvwxyz0123456789"
def m_law_pool_L1 : Int → (List Int) → Option (List Int) := fun d15 y8 =>
Option.bind (getI y8 (0 : Int)) fun x23 =>
Option.bind (setI y8 (0 : Int) ((((x23 * (48271 : Int)) + (d15 % (2147483647 : Int))) + (11 : Int)) % (2147483647 : Int))) fun y25 =>
if (decide (((10 : Int) ^ ((18 : Int)).toNat) ≤ (absI d15))) = true then
Option.bind (pushL y25 (absI d15)) fun y30 =>
some y30
else
some y25
def m_law_pool (x_law_script : List Int) : Option (List Int) :=
Option.bind (foldO x_law_script ([(0 : Int)] : List Int) m_law_pool_L1) fun y8 =>
some y8
def m_law_take (x_law_pool_here : List Int) (x_law_many : Int) : Option (Int × (List Int)) :=
Option.bind (Option.bind (if (decide ((1 : Int) < ((x_law_pool_here).length : Int))) = true then
Option.bind (getI x_law_pool_here (1 : Int)) fun x11 =>
some (decide (x11 < (2 : Int)))
else
some false) fun b6 =>
if b6 = true then
Option.bind (popI x_law_pool_here (1 : Int)) fun ⟨x14, y15⟩ =>
some y15
else
some x_law_pool_here) fun y1 =>
if (decide ((1 : Int) < ((y1).length : Int))) = true then
Option.bind (getI y1 (1 : Int)) fun x20 =>
Option.bind (modI x20 x_law_many) fun x22 =>
Option.bind (getI y1 (1 : Int)) fun x24 =>
Option.bind (fdivI x24 x_law_many) fun x26 =>
Option.bind (setI y1 (1 : Int) x26) fun y28 =>
some (x22, y28)
else
Option.bind (getI y1 (0 : Int)) fun x32 =>
Option.bind (setI y1 (0 : Int) ((x32 * (48271 : Int)) % (2147483647 : Int))) fun y34 =>
Option.bind (getI y34 (0 : Int)) fun x38 =>
Option.bind (getI y34 (0 : Int)) fun x40 =>
Option.bind (modI ((((x38 * (69621 : Int)) + (x40 / (7 : Int))) % (2147483629 : Int)) / (64 : Int)) x_law_many) fun x42 =>
some (x42, y34)
def m_law_sign (x_law_pool_here : List Int) : Option (Str × (List Int)) :=
Option.bind (addS (" !\"#$&'()*+,-./0123456789:;<=>?@ABCDEFGHIJKLMNOPQRSTUVWXYZ[\\]^_`" : Str) ("abcdefghijklmnopqrstuvwxyz{|}~\n" : Str)) fun x1 =>
Option.bind (m_law_take x_law_pool_here (95 : Int)) fun ⟨x4, y5⟩ =>
Option.bind (getS x1 x4) fun x10 =>
some (x10, y5)
def m_law_text_L1 (x2 : Int) : Int → ((List Int) × Str) → Option ((List Int) × Str) := fun d28 ⟨y20, x21⟩ =>
Option.bind (if (decide (x2 < (2 : Int))) = true then
some (decide (d28 = (0 : Int)))
else
some false) fun b36 =>
if b36 = true then
Option.bind (m_law_take y20 (26 : Int)) fun ⟨x43, y44⟩ =>
Option.bind (getS ("abcdefghijklmnopqrstuvwxyz0123456789" : Str) x43) fun x49 =>
Option.bind (addS x21 x49) fun x51 =>
some (y44, x51)
else
Option.bind (if (decide (x2 < (3 : Int))) = true then
some (true, y20)
else
Option.bind (if (decide (x2 = (4 : Int))) = true then
Option.bind (m_law_take y20 (2 : Int)) fun ⟨x66, y67⟩ =>
some (decide (x66 = (0 : Int)), y67)
else
some (false, y20)) fun ⟨b59, y61⟩ =>
some (b59, y61)) fun ⟨b53, y55⟩ =>
if b53 = true then
Option.bind (m_law_take y55 (36 : Int)) fun ⟨x74, y75⟩ =>
Option.bind (getS ("abcdefghijklmnopqrstuvwxyz0123456789" : Str) x74) fun x80 =>
Option.bind (addS x21 x80) fun x82 =>
some (y75, x82)
else
if (decide (x2 < (5 : Int))) = true then
Option.bind (m_law_take y55 (26 : Int)) fun ⟨x86, y87⟩ =>
Option.bind (getS ("ABCDEFGHIJKLMNOPQRSTUVWXYZ" : Str) x86) fun x92 =>
Option.bind (addS x21 x92) fun x94 =>
some (y87, x94)
else
Option.bind (m_law_sign y55) fun ⟨x97, y98⟩ =>
Option.bind (addS x21 x97) fun x103 =>
some (y98, x103)
def m_law_text (x_law_pool_here : List Int) : Option (Str × (List Int)) :=
Option.bind (m_law_take x_law_pool_here (6 : Int)) fun ⟨x2, y3⟩ =>
Option.bind (m_law_take y3 (10 : Int)) fun ⟨x9, y10⟩ =>
Option.bind (rngO 0 (((3 : Int) + x9) % (10 : Int))) fun x16 =>
Option.bind (foldO x16 (y10, ("" : Str)) (m_law_text_L1 x2)) fun ⟨y20, x21⟩ =>
Option.bind (Option.bind (if (!decide (x21 = ("" : Str))) = true then
Option.bind (m_law_take y20 (3 : Int)) fun ⟨x119, y120⟩ =>
some (decide (x119 = (1 : Int)), y120)
else
some (false, y20)) fun ⟨b112, y114⟩ =>
if b112 = true then
Option.bind (lenS x21) fun x126 =>
Option.bind (m_law_take y114 x126) fun ⟨x129, y130⟩ =>
Option.bind (cutSO x21 none (some x129)) fun x135 =>
Option.bind (m_law_sign y130) fun ⟨x138, y139⟩ =>
Option.bind (addS x135 x138) fun x144 =>
Option.bind (cutSO x21 (some (x129 + (1 : Int))) none) fun x146 =>
Option.bind (addS x144 x146) fun x148 =>
some (y139, x148)
else
some (y114, x21)) fun ⟨y105, x106⟩ =>
some (x106, y105)
def m_is_name_C1 (d32 : Str) : Option (Option Bool) :=
Option.bind (inS d32 c_SIGNS) fun x33 =>
some (some x33)
def m_is_name (x_text : Str) : Option Bool :=
Option.bind (Option.bind (Option.bind (lenS x_text) fun x7 =>
if (decide ((1 : Int) ≤ x7)) = true then
some (decide (x7 ≤ (6 : Int)))
else some false) fun b5 =>
if b5 = true then
Option.bind (Option.bind (getS x_text (0 : Int)) fun x15 =>
Option.bind (inS x15 c_LETTERS) fun x17 =>
if x17 = true then
Option.bind (signsO x_text) fun x21 =>
Option.bind (compO x21 m_is_name_C1) fun y22 =>
some (y22.all id)
else
some false) fun b11 =>
some b11
else
some false) fun b1 =>
some b1
def m_is_table_C1 (d23 : Str) : Option (Option Bool) :=
Option.bind (inS d23 c_CAPITALS) fun x24 =>
some (some x24)
def m_is_table (x_text : Str) : Option Bool :=
Option.bind (Option.bind (Option.bind (lenS x_text) fun x7 =>
if (decide ((1 : Int) ≤ x7)) = true then
some (decide (x7 ≤ (3 : Int)))
else some false) fun b5 =>
if b5 = true then
Option.bind (signsO x_text) fun x12 =>
Option.bind (compO x12 m_is_table_C1) fun y13 =>
some (y13.all id)
else
some false) fun b1 =>
some b1
def m_law_is_name_L1 : Str → Unit → Option (Fl (Bool) (Unit)) := fun d31 _ =>
Option.bind (inS d31 ("0123456789abcdefghijklmnopqrstuvwxyz" : Str)) fun x39 =>
if (!x39) = true then
some (.ret false)
else
some (.go ())
def m_law_is_name (x_law_text_here : Str) : Option Bool :=
Option.bind (Option.bind (lenS x_law_text_here) fun x5 =>
if (decide (x5 < (1 : Int))) = true then
some true
else
Option.bind (Option.bind (lenS x_law_text_here) fun x12 =>
if (decide ((6 : Int) < x12)) = true then
some true
else
Option.bind (getS x_law_text_here (0 : Int)) fun x15 =>
Option.bind (inS x15 ("0123456789" : Str)) fun x17 =>
some x17) fun b8 =>
some b8) fun b1 =>
if b1 = true then
some false
else
Option.bind (signsO x_law_text_here) fun x21 =>
Option.bind (loopO x21 () m_law_is_name_L1) fun r => match r with
| .ret v => some v
| .brk _ => none
| .go _ =>
some true
def m_law_is_table_L1 : Str → Unit → Option (Fl (Bool) (Unit)) := fun d12 _ =>
Option.bind (inS d12 ("ABCDEFGHIJKLMNOPQRSTUVWXYZ" : Str)) fun x20 =>
if (!x20) = true then
some (.ret false)
else
some (.go ())
def m_law_is_table (x_law_text_here : Str) : Option Bool :=
Option.bind (signsO x_law_text_here) fun x2 =>
Option.bind (loopO x2 () m_law_is_table_L1) fun r => match r with
| .ret v => some v
| .brk _ => none
| .go _ =>
Option.bind (Option.bind (lenS x_law_text_here) fun x27 =>
if (decide ((0 : Int) < x27)) = true then
Option.bind (lenS x_law_text_here) fun x30 =>
some (decide (x30 < (4 : Int)))
else
some false) fun b23 =>
some b23
def m_law (x_law_script : List Int) : Option Bool :=
Option.bind (m_law_pool x_law_script) fun x2 =>
Option.bind (m_law_text x2) fun ⟨x9, y10⟩ =>
Option.bind (Option.bind (m_law_take y10 (8 : Int)) fun ⟨x22, y23⟩ =>
if (decide (x22 = (1 : Int))) = true then
Option.bind (m_law_take y23 (9 : Int)) fun ⟨x30, y31⟩ =>
Option.bind (mulS x9 ((1 : Int) + x30)) fun x36 =>
some (y31, x36)
else
some (y23, x9)) fun ⟨y15, x16⟩ =>
Option.bind (m_is_name x16) fun x39 =>
Option.bind (m_is_table x16) fun x45 =>
Option.bind (if (!true) = true then
some true
else
some (!true)) fun b50 =>
if b50 = true then
some false
else
Option.bind (Option.bind (m_law_is_name x16) fun x62 =>
if (decide (x39 = x62)) = true then
Option.bind (m_law_is_table x16) fun x69 =>
some (decide (x45 = x69))
else
some false) fun b57 =>
some b57
end My

namespace My
open PySem FB

/-! ### the pool -/
def PO (p : List Int) : Prop := 1 ≤ p.length ∧ p.length ≤ 100
theorem ix0 (n : Nat) : ixI (n + 1) 0 = some 0 := by
  unfold ixI; rw [if_pos (by omega), if_pos (by omega)]; rfl
theorem ix1 (n : Nat) : ixI (n + 2) 1 = some 1 := by
  unfold ixI; rw [if_pos (by omega), if_pos (by omega)]; rfl
theorem getI0 (a : Int) (l : List Int) : getI (a :: l) 0 = some a := by
  unfold getI; rw [List.length_cons, ix0]; rfl
theorem getI1 (a b : Int) (l : List Int) : getI (a :: b :: l) 1 = some b := by
  unfold getI; rw [List.length_cons, List.length_cons, ix1]; rfl
theorem setI0 (a v : Int) (l : List Int) : setI (a :: l) 0 v = some (v :: l) := by
  unfold setI; rw [List.length_cons, ix0]; rfl
theorem setI1 (a b v : Int) (l : List Int) : setI (a :: b :: l) 1 v = some (a :: v :: l) := by
  unfold setI; rw [List.length_cons, List.length_cons, ix1]; rfl
theorem popI1 (a b : Int) (l : List Int) : popI (a :: b :: l) 1 = some (b, a :: l) := by
  unfold popI; rw [List.length_cons, List.length_cons, ix1]; rfl
theorem modI_pos {a b : Int} (h : 0 < b) : modI a b = some (a % b) := if_pos h
theorem fdivI_pos {a b : Int} (h : 0 < b) (h' : b < 1073741824) : fdivI a b = some (a / b) := if_pos ⟨h, h'⟩
theorem take_ok {p : List Int} {n : Int} (h : PO p) (h0 : 0 < n) (h1 : n < 1073741824) : ∃ k p', m_law_take p n = some (k, p') ∧ 0 ≤ k ∧ k < n ∧ PO p' := by
  have hm := fun a : Int => Int.emod_nonneg a (show n ≠ 0 by omega)
  have hl := fun a : Int => Int.emod_lt_of_pos a h0
  -- behind the first if
  have two : ∀ p : List Int, PO p → ∃ k p', (if (decide ((1 : Int) < ((p).length : Int))) = true then
      Option.bind (getI p (1 : Int)) fun x20 =>
      Option.bind (modI x20 n) fun x22 =>
      Option.bind (getI p (1 : Int)) fun x24 =>
      Option.bind (fdivI x24 n) fun x26 =>
      Option.bind (setI p (1 : Int) x26) fun y28 =>
      some (x22, y28)
      else
      Option.bind (getI p (0 : Int)) fun x32 =>
      Option.bind (setI p (0 : Int) ((x32 * (48271 : Int)) % (2147483647 : Int))) fun y34 =>
      Option.bind (getI y34 (0 : Int)) fun x38 =>
      Option.bind (getI y34 (0 : Int)) fun x40 =>
      Option.bind (modI ((((x38 * (69621 : Int)) + (x40 / (7 : Int))) % (2147483629 : Int)) / (64 : Int)) n) fun x42 =>
      some (x42, y34)) = some (k, p') ∧ 0 ≤ k ∧ k < n ∧ PO p' := by
    intro p h
    match p, h with
    | [a], h =>
      simp only [List.length_singleton, setI0, getI0, Option.bind_some, modI_pos h0]
      exact ⟨_, _, rfl, hm _, hl _, by simp [PO]⟩
    | a :: b :: l, h =>
      have hc : decide ((1 : Int) < ((a :: b :: l).length : Int)) = true := by simp; omega
      rw [if_pos hc]
      simp only [setI1, getI1, Option.bind_some, modI_pos h0, fdivI_pos h0 h1]
      exact ⟨_, _, rfl, hm _, hl _, by simpa [PO] using h⟩
  unfold m_law_take
  match p, h with
  | [a], h =>
    simp only [List.length_singleton, Option.bind_some]
    exact two [a] h
  | a :: b :: l, h =>
    have hc : decide ((1 : Int) < ((a :: b :: l).length : Int)) = true := by simp; omega
    rw [if_pos hc]
    simp only [getI1, popI1, Option.bind_some]
    by_cases hb : b < 2
    · rw [if_pos (by simpa using hb)]
      exact two (a :: l) (by simp [PO] at h ⊢; omega)
    · rw [if_neg (by simpa using hb)]
      exact two (a :: b :: l) h
theorem pool_turn (d : Int) (p : List Int) (h : 1 ≤ p.length ∧ p.length < 90) : ∃ p', m_law_pool_L1 d p = some p' ∧ 1 ≤ p'.length ∧ p'.length ≤ p.length + 1 := by
  match p, h with
  | a :: l, h =>
    simp only [m_law_pool_L1, getI0, setI0, Option.bind_some]
    split
    · have e : pushL (((a * 48271 + d % 2147483647 + 11) % 2147483647) :: l) (absI d) = some ((((a * 48271 + d % 2147483647 + 11) % 2147483647) :: l) ++ [absI d]) := if_pos (by simp [LINE] at h ⊢; omega)
      rw [e]
      exact ⟨_, rfl, by simp, by simp⟩
    · exact ⟨_, rfl, by simp, by simp⟩
theorem pool_fold : ∀ (ns : List Int) (p : List Int), 1 ≤ p.length → p.length + ns.length < 90 → ∃ p', foldO ns p m_law_pool_L1 = some p' ∧ 1 ≤ p'.length ∧ p'.length ≤ p.length + ns.length
  | [], p, h1, h2 => ⟨p, rfl, h1, by simp⟩
  | n :: ns, p, h1, h2 => by
    simp only [List.length_cons] at h2
    obtain ⟨p1, e1, a1, b1⟩ := pool_turn n p ⟨h1, by omega⟩
    obtain ⟨p2, e2, a2, b2⟩ := pool_fold ns p1 a1 (by omega)
    exact ⟨p2, by rw [foldO, e1]; exact e2, a2, by simp only [List.length_cons]; omega⟩
theorem pool_ok {ns : List Int} (h : ns.length ≤ 63) : ∃ p, m_law_pool ns = some p ∧ PO p := by
  obtain ⟨p, e, a, b⟩ := pool_fold ns [0] (by simp) (by simp; omega)
  refine ⟨p, ?_, a, by simp at b; omega⟩
  unfold m_law_pool
  rw [e]; rfl

/-! ### texts -/
theorem addS_ok {a b : Str} (h : a.length + b.length ≤ 1000) : addS a b = some (a ++ b) := if_pos (by simp [LINE]; omega)
theorem len_app (a b : Str) : (a ++ b).length = a.length + b.length := by
  show (a.cps ++ b.cps).size = _
  rw [Array.size_append]; rfl
theorem lenS_ok {a : Str} (h : a.length ≤ 1000) : lenS a = some (a.length : Int) := if_pos (by simp [LINE]; omega)
theorem getS_ok {a : Str} {i : Int} (h : a.length ≤ 1000) (h0 : 0 ≤ i) (h1 : i < a.length) : ∃ c, a.cps.toList[i.toNat]? = some c ∧ getS a i = some ⟨#[c]⟩ := by
  have hl : a.cps.toList.length = a.length := by simp [Str.length]
  have hi : i.toNat < a.cps.toList.length := by rw [hl]; omega
  refine ⟨a.cps.toList[i.toNat], by simp, ?_⟩
  unfold getS
  rw [if_pos (by simp [LINE]; omega)]
  have e : ixI a.cps.toList.length i = some i.toNat := by
    rw [hl]; simp only [ixI]; rw [if_pos h0, if_pos h1]
  have h3 : a.cps.toList[i.toNat]? = some a.cps.toList[i.toNat] := List.getElem?_eq_getElem hi
  unfold getI
  rw [e, Option.bind_some, h3, Option.bind_some]
theorem len_one (c : Nat) : (⟨#[c]⟩ : Str).length = 1 := rfl
theorem inS_one (c : Nat) (z : Str) : inS ⟨#[c]⟩ z = some (decide (c ∈ z.cps.toList)) := if_pos rfl
theorem len_cut (z : Str) (lo hi : Option Int) : (cutS z lo hi).length ≤ z.length := by
  simp only [cutS, cutL, Str.length, List.size_toArray, List.length_take, List.length_drop, Array.length_toList]
  omega
theorem cutSO_ok {z : Str} (lo hi : Option Int) (h : z.length ≤ 1000) : cutSO z lo hi = some (cutS z lo hi) := if_pos (by simp [LINE]; omega)
theorem signsO_ok {z : Str} (h : z.length ≤ 1000) : signsO z = some (signs z) := if_pos (by simp [LINE]; omega)
theorem rngO_ok {a b : Int} (h : 0 ≤ a ∧ a ≤ 1000 ∧ 0 ≤ b ∧ b ≤ 1000) : rngO a b = some (rangeI a b) := if_pos (by simp [LINE]; omega)
theorem len_rng (a b : Int) : (rangeI a b).length = (b - a).toNat := by simp [rangeI]
theorem mem_rng {a b k : Int} (h : k ∈ rangeI a b) : a ≤ k ∧ k < b := by
  simp only [rangeI, List.mem_map, List.mem_range] at h
  obtain ⟨i, h1, rfl⟩ := h
  omega

/-- a sign drawn from a text -/
theorem pick_ok {p : List Int} {z : Str} {n : Int} (h : PO p) (hz : (z.length : Int) = n) (h0 : 0 < n) (h1 : n ≤ 1000) : ∃ k p' c, m_law_take p n = some (k, p') ∧ getS z k = some ⟨#[c]⟩ ∧ c ∈ z.cps.toList ∧ PO p' := by
  obtain ⟨k, p', e, a, b, hp⟩ := take_ok h h0 (by omega)
  obtain ⟨c, hc, e2⟩ := getS_ok (a := z) (i := k) (by omega) a (by omega)
  exact ⟨k, p', c, e, e2, List.mem_of_getElem? hc, hp⟩
theorem len36 : ((("abcdefghijklmnopqrstuvwxyz0123456789" : Str).length : Nat) : Int) = 36 := by decide +kernel
theorem len26 : ((("ABCDEFGHIJKLMNOPQRSTUVWXYZ" : Str).length : Nat) : Int) = 26 := by decide +kernel
theorem len95a : (" !\"#$&'()*+,-./0123456789:;<=>?@ABCDEFGHIJKLMNOPQRSTUVWXYZ[\\]^_`" : Str).length = 64 := by decide +kernel
theorem len95b : ("abcdefghijklmnopqrstuvwxyz{|}~\n" : Str).length = 31 := by decide +kernel
theorem sign_ok {p : List Int} (h : PO p) : ∃ c p', m_law_sign p = some (⟨#[c]⟩, p') ∧ PO p' := by
  unfold m_law_sign
  rw [addS_ok (by rw [len95a, len95b]; decide), Option.bind_some]
  obtain ⟨k, p', c, e1, e2, _, hp⟩ := pick_ok (z := (" !\"#$&'()*+,-./0123456789:;<=>?@ABCDEFGHIJKLMNOPQRSTUVWXYZ[\\]^_`" : Str) ++ ("abcdefghijklmnopqrstuvwxyz{|}~\n" : Str)) (n := 95) h (by rw [len_app, len95a, len95b]; rfl) (by decide) (by decide)
  refine ⟨c, p', ?_, hp⟩
  rw [e1]
  simp only [Option.bind_some, e2]
theorem pickl_ok {p : List Int} {z : Str} {n m : Int} (h : PO p) (hz : (z.length : Int) = m) (h0 : 0 < n) (h1 : n ≤ m) (h2 : m ≤ 1000) : ∃ k p' c, m_law_take p n = some (k, p') ∧ getS z k = some ⟨#[c]⟩ ∧ c ∈ (z.cps.toList.take n.toNat) ∧ PO p' := by
  obtain ⟨k, p', e, a, b, hp⟩ := take_ok h h0 (by omega)
  obtain ⟨c, hc, e2⟩ := getS_ok (a := z) (i := k) (by omega) a (by omega)
  refine ⟨k, p', c, e, e2, ?_, hp⟩
  refine List.mem_of_getElem? (i := k.toNat) ?_
  rw [List.getElem?_take_of_lt (by omega)]
  exact hc
theorem text_turn (m d : Int) {p : List Int} {x : Str} (h : PO p) (hx : x.length ≤ 20) : ∃ p' x', m_law_text_L1 m d (p, x) = some (p', x') ∧ PO p' ∧ x'.length = x.length + 1 := by
  have app : ∀ c : Nat, addS x ⟨#[c]⟩ = some (x ++ ⟨#[c]⟩) ∧ (x ++ (⟨#[c]⟩ : Str)).length = x.length + 1 := fun c => ⟨addS_ok (by rw [len_one]; omega), by rw [len_app, len_one]⟩
  -- the draws of the four ways
  obtain ⟨k1, p1, c1, a1, b1, _, h1⟩ := pickl_ok (n := 26) h len36 (by decide) (by decide) (by decide)
  have w2 : ∀ q, PO q → ∃ k p' c, m_law_take q 36 = some (k, p') ∧ getS ("abcdefghijklmnopqrstuvwxyz0123456789" : Str) k = some ⟨#[c]⟩ ∧ PO p' := fun q hq => by
    obtain ⟨k, p', c, a, b, _, h⟩ := pick_ok hq len36 (by decide) (by decide)
    exact ⟨k, p', c, a, b, h⟩
  have w3 : ∀ q, PO q → ∃ k p' c, m_law_take q 26 = some (k, p') ∧ getS ("ABCDEFGHIJKLMNOPQRSTUVWXYZ" : Str) k = some ⟨#[c]⟩ ∧ PO p' := fun q hq => by
    obtain ⟨k, p', c, a, b, _, h⟩ := pick_ok hq len26 (by decide) (by decide)
    exact ⟨k, p', c, a, b, h⟩
  have rest : ∀ (b : Bool) (q : List Int), PO q → ∃ p' x', (if b = true then
      Option.bind (m_law_take q (36 : Int)) fun ⟨x74, y75⟩ =>
      Option.bind (getS ("abcdefghijklmnopqrstuvwxyz0123456789" : Str) x74) fun x80 =>
      Option.bind (addS x x80) fun x82 =>
      some (y75, x82)
      else
      if (decide (m < (5 : Int))) = true then
      Option.bind (m_law_take q (26 : Int)) fun ⟨x86, y87⟩ =>
      Option.bind (getS ("ABCDEFGHIJKLMNOPQRSTUVWXYZ" : Str) x86) fun x92 =>
      Option.bind (addS x x92) fun x94 =>
      some (y87, x94)
      else
      Option.bind (m_law_sign q) fun ⟨x97, y98⟩ =>
      Option.bind (addS x x97) fun x103 =>
      some (y98, x103)) = some (p', x') ∧ PO p' ∧ x'.length = x.length + 1 := fun b q hq => by
    split
    · obtain ⟨k, p', c, a, b, h⟩ := w2 q hq
      simp only [a, b, Option.bind_some, (app c).1]
      exact ⟨_, _, rfl, h, (app c).2⟩
    · split
      · obtain ⟨k, p', c, a, b, h⟩ := w3 q hq
        simp only [a, b, Option.bind_some, (app c).1]
        exact ⟨_, _, rfl, h, (app c).2⟩
      · obtain ⟨c, p', a, h⟩ := sign_ok hq
        simp only [a, Option.bind_some, (app c).1]
        exact ⟨_, _, rfl, h, (app c).2⟩
  unfold m_law_text_L1
  dsimp only
  by_cases hm : m < 2
  · rw [if_pos (by simpa using hm), Option.bind_some]
    split
    · simp only [a1, b1, Option.bind_some, (app c1).1]
      exact ⟨_, _, rfl, h1, (app c1).2⟩
    · rw [if_pos (by simp; omega), Option.bind_some]
      exact rest true p h
  · rw [if_neg (by simpa using hm), Option.bind_some, if_neg (by decide)]
    by_cases h3 : m < 3
    · rw [if_pos (by simpa using h3), Option.bind_some]
      exact rest true p h
    · rw [if_neg (by simpa using h3)]
      by_cases h4 : m = 4
      · rw [if_pos (by simpa using h4)]
        obtain ⟨k, p', e, _, _, hp⟩ := take_ok (n := 2) h (by decide) (by decide)
        simp only [e, Option.bind_some]
        exact rest _ p' hp
      · rw [if_neg (by simpa using h4)]
        simp only [Option.bind_some]
        exact rest false p h
theorem text_fold (m : Int) : ∀ (l : List Int) (p : List Int) (x : Str), PO p → x.length + l.length ≤ 20 → ∃ p' x', foldO l (p, x) (m_law_text_L1 m) = some (p', x') ∧ PO p' ∧ x'.length ≤ 20
  | [], p, x, h, hx => ⟨p, x, rfl, h, by simpa using hx⟩
  | d :: l, p, x, h, hx => by
    simp only [List.length_cons] at hx
    obtain ⟨p1, x1, e1, h1, l1⟩ := text_turn m d h (x := x) (by omega)
    obtain ⟨p2, x2, e2, h2, l2⟩ := text_fold m l p1 x1 h1 (by omega)
    exact ⟨p2, x2, by rw [foldO, e1]; exact e2, h2, l2⟩
theorem text_ok {p : List Int} (h : PO p) : ∃ t p', m_law_text p = some (t, p') ∧ t.length ≤ 60 ∧ PO p' := by
  unfold m_law_text
  obtain ⟨m, p1, e1, m1, m2, h1⟩ := take_ok (n := 6) h (by decide) (by decide)
  obtain ⟨k, p2, e2, k1, k2, h2⟩ := take_ok (n := 10) h1 (by decide) (by decide)
  have hk : 0 ≤ (3 + k) % 10 ∧ (3 + k) % 10 < 10 := by omega
  simp only [e1, e2, Option.bind_some, rngO_ok (show 0 ≤ (0 : Int) ∧ (0 : Int) ≤ 1000 ∧ 0 ≤ (3 + k) % 10 ∧ (3 + k) % 10 ≤ 1000 by omega)]
  obtain ⟨p3, x, e3, h3, l3⟩ := text_fold m (rangeI 0 ((3 + k) % 10)) p2 "" h2 (by rw [len_rng]; show 0 + _ ≤ _; omega)
  simp only [e3, Option.bind_some]
  have last : ∀ (b : Bool) (q : List Int), PO q → (b = true → x ≠ "") → ∃ t p', (Option.bind (if b = true then
      Option.bind (lenS x) fun x126 =>
      Option.bind (m_law_take q x126) fun ⟨x129, y130⟩ =>
      Option.bind (cutSO x none (some x129)) fun x135 =>
      Option.bind (m_law_sign y130) fun ⟨x138, y139⟩ =>
      Option.bind (addS x135 x138) fun x144 =>
      Option.bind (cutSO x (some (x129 + (1 : Int))) none) fun x146 =>
      Option.bind (addS x144 x146) fun x148 =>
      some (y139, x148)
      else
      some (q, x)) fun ⟨y105, x106⟩ => some (x106, y105)) = some (t, p') ∧ t.length ≤ 60 ∧ PO p' := fun b q hq hb => by
    cases b with
    | false => exact ⟨x, q, rfl, by omega, hq⟩
    | true =>
      rw [if_pos rfl]
      have hne := hb rfl
      have hpos : 0 < x.length := by
        rcases Nat.eq_zero_or_pos x.length with z | z
        · exfalso; apply hne
          obtain ⟨⟨l⟩⟩ := x
          have : l = [] := List.eq_nil_of_length_eq_zero z
          subst this; rfl
        · exact z
      obtain ⟨k, p', e, _, _, hp⟩ := take_ok (n := (x.length : Int)) hq (by omega) (by omega)
      obtain ⟨c, p2, e2, hp2⟩ := sign_ok hp
      have l1 := len_cut x none (some k)
      have l2 := len_cut x (some (k + 1)) none
      simp only [lenS_ok (show x.length ≤ 1000 by omega), e, e2, Option.bind_some, cutSO_ok (z := x) _ _ (by omega)]
      rw [addS_ok (by rw [len_one]; omega), Option.bind_some, addS_ok (by rw [len_app, len_one]; omega)]
      refine ⟨_, _, rfl, ?_, hp2⟩
      rw [len_app, len_app, len_one]; omega
  split
  · rename_i hne
    obtain ⟨k3, p4, e4, _, _, h4⟩ := take_ok (n := 3) h3 (by decide) (by decide)
    simp only [e4, Option.bind_some]
    exact last _ p4 h4 fun _ => by simpa using hne
  · simp only [Option.bind_some]
    exact last false p3 h3 (fun z => by cases z)
end My

namespace My
open PySem FB
theorem compO_map {α β : Type} {f : α → Option (Option β)} {g : α → β} : ∀ {xs : List α}, (∀ x ∈ xs, f x = some (some (g x))) → compO xs f = some (xs.map g)
  | [], _ => rfl
  | x :: xs, h => by
    rw [compO, h x List.mem_cons_self, compO_map fun y hy => h y (List.mem_cons_of_mem _ hy)]
    rfl
/-- a search that leaves with r at the first item that fails -/
theorem loopO_all {α ρ : Type} {f : α → Unit → Option (Fl ρ Unit)} {r : ρ} {p : α → Bool} : ∀ {xs : List α}, (∀ x ∈ xs, f x () = some (if p x = true then .go () else .ret r)) → loopO xs () f = some (if xs.all p = true then .go () else .ret r)
  | [], _ => rfl
  | x :: xs, h => by
    rw [loopO, h x List.mem_cons_self, Option.bind_some]
    cases hp : p x with
    | true =>
      simp only [if_true, List.all_cons, hp, Bool.true_and]
      exact loopO_all fun y hy => h y (List.mem_cons_of_mem _ hy)
    | false => simp [List.all_cons, hp]
abbrev inn (z : Str) (c : Nat) : Bool := decide (c ∈ z.cps.toList)
theorem signs_all (t : Str) (p : Nat → Bool) (q : Str → Bool) (h : ∀ c, q ⟨#[c]⟩ = p c) : (signs t).all q = t.cps.toList.all p := by
  unfold signs
  rw [List.all_map]
  congr 1
  funext c
  exact h c
theorem mem_signs {t s : Str} (h : s ∈ signs t) : ∃ c, c ∈ t.cps.toList ∧ s = ⟨#[c]⟩ := by
  unfold signs at h
  obtain ⟨c, h1, rfl⟩ := List.mem_map.mp h
  exact ⟨c, h1, rfl⟩
/-- all([sign in z for sign in t]) -/
theorem comp_in {f : Str → Option (Option Bool)} {z : Str} (t : Str) (h : ∀ s, f s = Option.bind (inS s z) fun x => some (some x)) : ∃ l, compO (signs t) f = some l ∧ l.all id = t.cps.toList.all (inn z) := by
  refine ⟨(signs t).map fun s => inn z (s.cps.getD 0 0), compO_map fun s hs => ?_, ?_⟩
  · obtain ⟨c, _, rfl⟩ := mem_signs hs
    rw [h, inS_one]; rfl
  · rw [List.all_map]
    exact signs_all t _ _ fun c => rfl
/-- for mark in t: if mark not in z: return False -/
theorem loop_in {f : Str → Unit → Option (Fl Bool Unit)} {z : Str} (t : Str) (h : ∀ s, f s () = Option.bind (inS s z) fun x => if (!x) = true then some (.ret false) else some (.go ())) : loopO (signs t) () f = some (if t.cps.toList.all (inn z) = true then .go () else .ret false) := by
  rw [← signs_all t (inn z) (fun s => inn z (s.cps.getD 0 0)) fun c => rfl]
  refine loopO_all fun s hs => ?_
  obtain ⟨c, _, rfl⟩ := mem_signs hs
  rw [h, inS_one, Option.bind_some]
  show (if (!inn z c) = true then _ else _) = some (if inn z c = true then _ else _)
  cases inn z c <;> rfl
theorem table_eq {t : Str} (h : t.length ≤ 1000) : m_law_is_table t = m_is_table t ∧ (m_is_table t).isSome = true := by
  unfold m_law_is_table m_is_table
  obtain ⟨l, e, ea⟩ := comp_in (f := m_is_table_C1) (z := c_CAPITALS) t fun s => rfl
  simp only [lenS_ok h, signsO_ok h, loop_in (f := m_law_is_table_L1) (z := "ABCDEFGHIJKLMNOPQRSTUVWXYZ") t fun s => rfl, Option.bind_some, e, ea]
  show (match (if t.cps.toList.all (inn c_CAPITALS) = true then Fl.go () else Fl.ret false) with | .ret v => some v | .brk _ => none | .go _ => _) = _ ∧ _
  cases ha : t.cps.toList.all (inn c_CAPITALS) with
  | false =>
    simp only [Bool.false_eq_true, if_false]
    by_cases h1 : (1 : Int) ≤ (t.length : Int) <;> by_cases h3 : (t.length : Int) ≤ 3 <;> simp [h1, h3]
  | true =>
    simp only [if_true]
    by_cases h1 : (1 : Int) ≤ (t.length : Int) <;> by_cases h3 : (t.length : Int) ≤ 3
    · have a1 : (0 : Int) < (t.length : Int) := by omega
      have a2 : (t.length : Int) < 4 := by omega
      simp [h1, h3, a1, a2]; omega
    · have a1 : (0 : Int) < (t.length : Int) := by omega
      have a2 : ¬ (t.length : Int) < 4 := by omega
      simp [h1, h3, a1, a2]
    · have a1 : ¬ (0 : Int) < (t.length : Int) := by omega
      simp [h1, h3, a1]; omega
    · omega
theorem same_signs (c : Nat) : inn "0123456789abcdefghijklmnopqrstuvwxyz" c = inn c_SIGNS c := by
  have h1 : ∀ c ∈ ("0123456789abcdefghijklmnopqrstuvwxyz" : Str).cps.toList, c ∈ c_SIGNS.cps.toList := by decide +kernel
  have h2 : ∀ c ∈ c_SIGNS.cps.toList, c ∈ ("0123456789abcdefghijklmnopqrstuvwxyz" : Str).cps.toList := by decide +kernel
  exact decide_eq_decide.mpr ⟨h1 c, h2 c⟩
theorem first_sign (c : Nat) (h : c ∈ c_SIGNS.cps.toList) : (!inn "0123456789" c) = inn c_LETTERS c := by
  have h1 : ∀ c ∈ c_SIGNS.cps.toList, (!inn "0123456789" c) = inn c_LETTERS c := by decide +kernel
  exact h1 c h
theorem name_eq {t : Str} (h : t.length ≤ 1000) : m_law_is_name t = m_is_name t ∧ (m_is_name t).isSome = true := by
  unfold m_law_is_name m_is_name
  obtain ⟨l, e, ea⟩ := comp_in (f := m_is_name_C1) (z := c_SIGNS) t fun s => rfl
  have el : t.cps.toList.all (inn "0123456789abcdefghijklmnopqrstuvwxyz") = t.cps.toList.all (inn c_SIGNS) := by
    congr 1; funext c; exact same_signs c
  have hl := loop_in (f := m_law_is_name_L1) (z := "0123456789abcdefghijklmnopqrstuvwxyz") t fun s => rfl
  rw [el] at hl
  simp only [lenS_ok h, signsO_ok h, hl, Option.bind_some, e, ea]
  by_cases h1 : (1 : Int) ≤ (t.length : Int)
  · by_cases h6 : (t.length : Int) ≤ 6
    · have a1 : ¬ (t.length : Int) < 1 := by omega
      have a2 : ¬ (6 : Int) < (t.length : Int) := by omega
      obtain ⟨c, hc, e0⟩ := getS_ok (a := t) (i := 0) h (by decide) (by omega)
      have hmem : c ∈ t.cps.toList := List.mem_of_getElem? hc
      simp only [h1, h6, a1, a2, decide_true, decide_false, if_true, Bool.false_eq_true, if_false, Option.bind_some, e0, inS_one]
      cases ha : t.cps.toList.all (inn c_SIGNS) with
      | false =>
        cases hd : decide (c ∈ ("0123456789" : Str).cps.toList) <;> cases hL : decide (c ∈ c_LETTERS.cps.toList) <;> simp
      | true =>
        have hs : c ∈ c_SIGNS.cps.toList := by simpa [inn] using List.all_eq_true.mp ha c hmem
        have hf : (!decide (c ∈ ("0123456789" : Str).cps.toList)) = decide (c ∈ c_LETTERS.cps.toList) := first_sign c hs
        rw [← hf]
        cases hd : decide (c ∈ ("0123456789" : Str).cps.toList) <;> simp
    · have a1 : ¬ (t.length : Int) < 1 := by omega
      have a2 : (6 : Int) < (t.length : Int) := by omega
      simp [h1, h6, a1, a2]
  · have a1 : (t.length : Int) < 1 := by omega
    simp [h1, a1]
theorem mulS_len {x z : Str} {k : Int} (h : mulS x k = some z) : z.length = x.length * k.toNat := by
  unfold mulS at h
  split at h
  · cases h
    simp [Str.length, List.length_flatten, Nat.mul_comm]
  · cases h
theorem law_true (ns : List Int) (hl : ns.length ≤ 63) : m_law ns = some true := by
  unfold m_law
  obtain ⟨p, e, hp⟩ := pool_ok hl
  obtain ⟨t, p1, e1, ht, hp1⟩ := text_ok hp
  obtain ⟨k, p2, e2, _, _, hp2⟩ := take_ok (n := 8) hp1 (by decide) (by decide)
  have tail : ∀ x : Str, x.length ≤ 1000 → (Option.bind (m_is_name x) fun x39 =>
      Option.bind (m_is_table x) fun x45 =>
      Option.bind (if (!true) = true then
      some true
      else
      some (!true)) fun b50 =>
      if b50 = true then
      some false
      else
      Option.bind (Option.bind (m_law_is_name x) fun x62 =>
      if (decide (x39 = x62)) = true then
      Option.bind (m_law_is_table x) fun x69 =>
      some (decide (x45 = x69))
      else
      some false) fun b57 =>
      some b57) = some true := fun x hx => by
    obtain ⟨n1, n2⟩ := name_eq hx
    obtain ⟨t1, t2⟩ := table_eq hx
    obtain ⟨a, ea⟩ := Option.isSome_iff_exists.mp n2
    obtain ⟨b, eb⟩ := Option.isSome_iff_exists.mp t2
    rw [n1, t1, ea, eb]
    simp
  simp only [e, e1, e2, Option.bind_some]
  split
  · obtain ⟨j, p3, e3, j0, j1, hp3⟩ := take_ok (n := 9) hp2 (by decide) (by decide)
    have hlen : t.length * (1 + j).toNat ≤ 1000 := by
      have : t.length * (1 + j).toNat ≤ 60 * 9 := Nat.mul_le_mul ht (by omega)
      omega
    have hm : mulS t (1 + j) = some ⟨(List.replicate (1 + j).toNat t.cps.toList).flatten.toArray⟩ := if_pos ⟨by simp [LINE]; omega, by omega, by omega⟩
    simp only [e3, Option.bind_some, hm]
    exact tail _ (by rw [mulS_len hm]; exact hlen)
  · simp only [Option.bind_some]
    exact tail t (by omega)
end My

namespace My
open PySem L2 FB
def top (i : Nat) : Stmt := PySem.Challenge.pw_foldbelow_k01_names_and_tables.main.body.getD i (.Pass ⟨0, 0, 0, 0⟩)
abbrev s_law_pool : Stmt := top 7
abbrev N_law_pool : List Str := ["_law_script", "_law_pool_here", "_law_cell"]
theorem sc_law_pool : FnScope N_law_pool ["_law_script"] (defScope s_law_pool) := ⟨rfl, rfl, rfl, by decide +kernel, rfl, by decide +kernel, by decide +kernel⟩
abbrev s_law_take : Stmt := top 8
abbrev N_law_take : List Str := ["_law_pool_here", "_law_many", "_law_digit", "_law_mixed"]
theorem sc_law_take : FnScope N_law_take ["_law_pool_here", "_law_many"] (defScope s_law_take) := ⟨rfl, rfl, rfl, by decide +kernel, rfl, by decide +kernel, by decide +kernel⟩
abbrev s_law_sign : Stmt := top 9
abbrev N_law_sign : List Str := ["_law_pool_here", "_law_signs"]
theorem sc_law_sign : FnScope N_law_sign ["_law_pool_here"] (defScope s_law_sign) := ⟨rfl, rfl, rfl, by decide +kernel, rfl, by decide +kernel, by decide +kernel⟩
abbrev s_law_text : Stmt := top 12
abbrev N_law_text : List Str := ["_law_pool_here", "_law_small", "_law_large", "_law_mode", "_law_text_here", "_law_k", "_law_place"]
theorem sc_law_text : FnScope N_law_text ["_law_pool_here"] (defScope s_law_text) := ⟨rfl, rfl, rfl, by decide +kernel, rfl, by decide +kernel, by decide +kernel⟩
abbrev s_is_name : Stmt := top 4
abbrev N_is_name : List Str := ["text", "sign"]
theorem sc_is_name : FnScope N_is_name ["text"] (defScope s_is_name) := ⟨rfl, rfl, rfl, by decide +kernel, rfl, by decide +kernel, by decide +kernel⟩
abbrev s_is_table : Stmt := top 5
abbrev N_is_table : List Str := ["text", "sign"]
theorem sc_is_table : FnScope N_is_table ["text"] (defScope s_is_table) := ⟨rfl, rfl, rfl, by decide +kernel, rfl, by decide +kernel, by decide +kernel⟩
abbrev s_law_is_name : Stmt := top 10
abbrev N_law_is_name : List Str := ["_law_text_here", "_law_mark"]
theorem sc_law_is_name : FnScope N_law_is_name ["_law_text_here"] (defScope s_law_is_name) := ⟨rfl, rfl, rfl, by decide +kernel, rfl, by decide +kernel, by decide +kernel⟩
abbrev s_law_is_table : Stmt := top 11
abbrev N_law_is_table : List Str := ["_law_text_here", "_law_mark"]
theorem sc_law_is_table : FnScope N_law_is_table ["_law_text_here"] (defScope s_law_is_table) := ⟨rfl, rfl, rfl, by decide +kernel, rfl, by decide +kernel, by decide +kernel⟩
abbrev s_law : Stmt := top 13
abbrev N_law : List Str := ["_law_script", "_law_pool_here", "_law_text_here", "_law_first", "_law_second"]
theorem sc_law : FnScope N_law ["_law_script"] (defScope s_law) := ⟨rfl, rfl, rfl, by decide +kernel, rfl, by decide +kernel, by decide +kernel⟩
structure Ad where
  ce : Str → Addr
  f__law_pool : Addr
  d__law_pool : FuncData
  f__law_take : Addr
  d__law_take : FuncData
  f__law_sign : Addr
  d__law_sign : FuncData
  f__law_text : Addr
  d__law_text : FuncData
  f_is_name : Addr
  d_is_name : FuncData
  f_is_table : Addr
  d_is_table : FuncData
  f__law_is_name : Addr
  d__law_is_name : FuncData
  f__law_is_table : Addr
  d__law_is_table : FuncData
  f_law : Addr
  d_law : FuncData
structure Txt (K : PySem.W.Frag) (mg : Str → Option Value) (A : Ad) : Prop where
  F__law_pool : Fun K "_law_pool" "_law_pool" s_law_pool A.f__law_pool A.d__law_pool
  g__law_pool : mg "_law_pool" = some (.ref A.f__law_pool)
  k__law_pool : PySem.W.keepIn K (.ref A.f__law_pool) = true
  b__law_pool : Binds K A.d__law_pool ["_law_script"] []
  F__law_take : Fun K "_law_take" "_law_take" s_law_take A.f__law_take A.d__law_take
  g__law_take : mg "_law_take" = some (.ref A.f__law_take)
  k__law_take : PySem.W.keepIn K (.ref A.f__law_take) = true
  b__law_take : Binds K A.d__law_take ["_law_pool_here", "_law_many"] []
  F__law_sign : Fun K "_law_sign" "_law_sign" s_law_sign A.f__law_sign A.d__law_sign
  g__law_sign : mg "_law_sign" = some (.ref A.f__law_sign)
  k__law_sign : PySem.W.keepIn K (.ref A.f__law_sign) = true
  b__law_sign : Binds K A.d__law_sign ["_law_pool_here"] []
  F__law_text : Fun K "_law_text" "_law_text" s_law_text A.f__law_text A.d__law_text
  g__law_text : mg "_law_text" = some (.ref A.f__law_text)
  k__law_text : PySem.W.keepIn K (.ref A.f__law_text) = true
  b__law_text : Binds K A.d__law_text ["_law_pool_here"] []
  F_is_name : Fun K "is_name" "is_name" s_is_name A.f_is_name A.d_is_name
  g_is_name : mg "is_name" = some (.ref A.f_is_name)
  k_is_name : PySem.W.keepIn K (.ref A.f_is_name) = true
  b_is_name : Binds K A.d_is_name ["text"] []
  F_is_table : Fun K "is_table" "is_table" s_is_table A.f_is_table A.d_is_table
  g_is_table : mg "is_table" = some (.ref A.f_is_table)
  k_is_table : PySem.W.keepIn K (.ref A.f_is_table) = true
  b_is_table : Binds K A.d_is_table ["text"] []
  F__law_is_name : Fun K "_law_is_name" "_law_is_name" s_law_is_name A.f__law_is_name A.d__law_is_name
  g__law_is_name : mg "_law_is_name" = some (.ref A.f__law_is_name)
  k__law_is_name : PySem.W.keepIn K (.ref A.f__law_is_name) = true
  b__law_is_name : Binds K A.d__law_is_name ["_law_text_here"] []
  F__law_is_table : Fun K "_law_is_table" "_law_is_table" s_law_is_table A.f__law_is_table A.d__law_is_table
  g__law_is_table : mg "_law_is_table" = some (.ref A.f__law_is_table)
  k__law_is_table : PySem.W.keepIn K (.ref A.f__law_is_table) = true
  b__law_is_table : Binds K A.d__law_is_table ["_law_text_here"] []
  F_law : Fun K "law" "law" s_law A.f_law A.d_law
  g_law : mg "law" = some (.ref A.f_law)
  k_law : PySem.W.keepIn K (.ref A.f_law) = true
  b_law : Binds K A.d_law ["_law_script"] []
  n_abs : mg "abs" = none
  n_all : mg "all" = none
  n_bool : mg "bool" = none
  n_int : mg "int" = none
  n_isinstance : mg "isinstance" = none
  n_len : mg "len" = none
  n_range : mg "range" = none
  g_LETTERS : ∃ t, mg "LETTERS" = some (.str c_LETTERS t)
  g_CAPITALS : ∃ t, mg "CAPITALS" = some (.str c_CAPITALS t)
  g_SIGNS : ∃ t, mg "SIGNS" = some (.str c_SIGNS t)
def sp_law_pool (K : PySem.W.Frag) (ce : Str → Addr) : Sp := fun vs H Q _ => ∃ (Z : Addr → Prop) (a_law_script : Addr) (x_law_script : List Int) (r : List Int), vs = [.ref a_law_script] ∧ SqL K H a_law_script (x_law_script.map V.int) ∧ S (mk K ce Z H []) H [] ∧ m_law_pool x_law_script = some r ∧ ∀ H' w, S (mk K ce Z H []) H' (ow w (td r) :: []) → Q (.ref w) H'
theorem ok_law_pool {P : Program} {w : World} {K : PySem.W.Frag} {mg : Str → Option Value} {base : Heap} {A : Ad} (T : Txt K mg A) : FnOk P w K mg base CX0 1 A.f__law_pool A.d__law_pool ["_law_script"] (sp_law_pool K A.ce) := by
  have SC := sc_law_pool
  refine T.F__law_pool.ok sc_law_pool (fun vs H Q E h => ?_) (fun cdv Ar outer s9 H vs Q E hr h => ?_)
  · obtain ⟨_, _, _, _, rfl, _⟩ := h; rfl
  obtain ⟨Z, a_law_script, x_law_script, r, rfl, hS, s0, hm, kQ⟩ := h
  refine ⟨_, (pss_cons (ps_set (i := 1) SC.nd rfl (by first | exact Or.inl rfl | exact Or.inr rfl) (pe_lst (pa_cons pe_int pa_nil)))
    (pss_cons (ps_for PassesOwn.never rfl (pi_list (pv 0)) (pg_name (i := 2) SC.nd rfl (by first | exact Or.inl rfl | exact Or.inr rfl)) (pss_cons (ps_asg (pe_op op_mod (pe_callTy call_int1 (by rfl) T.n_int (by decide +kernel) (pa_cons (pe_op op_add (pe_op op_add (pe_op op_mul (pe_ix ix_list (pv 1) pe_int (fun _ _ => rfl)) pe_int) (pe_op op_mod (pe_callTy call_int1 (by rfl) T.n_int (by decide +kernel) (pa_cons (pv 2) pa_nil)) pe_int)) pe_int) pa_nil)) pe_int) (pg_sub (pv 1) pe_int set_list))
    (pss_one (ps_if (pt_cmpR op_ge (pe_callB call_abs (by rfl) T.n_abs (by decide +kernel) (pa_cons (pv 2) pa_nil)) (pe_op op_pow pe_int pe_int) (nomark _)) (pss_one (ps_expr (pe_bm PySem.F.plainAttrs_list PySem.F.slot_list_append PySem.F.type_list_append mt_append (pv 1) (pa_cons (pe_callB call_abs (by rfl) T.n_abs (by decide +kernel) (pa_cons (pv 2) pa_nil)) pa_nil)))) pss_nil))))
    (pss_one (ps_ret (pv 1))))), ?_⟩
  refine w_seq [some (.ref a_law_script), none, none] rfl ?_
  refine w_set ?_
  refine w_lst ?_
  refine w_cons ?_
  refine w_c ?_
  refine w_nil ?_
  refine r_lstO s0 (.cons (.sc _) .nil) (q := fun p1 H2 s3 => ?_)
  have s4 : S _ _ [ow p1 (td ([(0 : Int)] : List Int))] := s3
  refine w_seq [some (.ref a_law_script), some (.ref p1), none] rfl ?_
  refine w_forL ?_
  refine w_var rfl ?_
  refine l_scr (s4.scr hS rfl) fun J hJ => ?_
  obtain ⟨r5, h6, hm⟩ := bnd hm
  refine forB (c := (mk K A.ce Z H [])) x_law_script (w := .scr a_law_script x_law_script) hJ (fun l13 σ10 H11 => ∃ (y8 : List Int) (o9 : Option V), σ10 = [some (.ref a_law_script), some (.ref p1), o9] ∧ S (mk K A.ce Z H []) H11 [ow p1 (td y8)] ∧ foldO l13 y8 m_law_pool_L1 = some r5) ?_ ?_ ?_ ?_
  ·
    exact ⟨_, _, rfl, s4, h6⟩
  ·
    rintro _ _ _ ⟨y8, o9, rfl, s12, h14⟩; exact ⟨s12.scr hS rfl, rfl⟩
  ·
    rintro d15 l13 w16 _ H11 ⟨y8, o9, rfl, s12, h14⟩ g17
    obtain ⟨q18, h19, h20⟩ := fold_cons h14
    have h7 := hm
    replace hm := h19
    obtain rfl : V.int d15 = w16 := gv_sc g17
    refine w_name ?_
    refine w_seq [some (.ref a_law_script), some (.ref p1), some (.int d15)] rfl ?_
    refine w_asgS ?_
    refine w_op ?_
    refine w_cb ?_
    refine w_cons ?_
    refine w_op ?_
    refine w_op ?_
    refine w_op ?_
    refine w_op ?_
    refine w_var rfl ?_
    refine w_c ?_
    obtain ⟨x23, h24, hm⟩ := bnd hm
    refine r_ixLi s12 (k := 0) rfl h24 ?_
    refine w_c ?_
    refine r_I (.inr ⟨by decide, by decide⟩) ?_
    refine w_op ?_
    refine w_cb ?_
    refine w_cons ?_
    refine w_var rfl ?_
    refine w_nil ?_
    refine .inl ⟨_, rfl, ?_⟩
    refine w_c ?_
    refine r_I (show (0 : Int) < 2147483647 by decide) ?_
    refine r_I0 ?_
    refine w_c ?_
    refine r_I0 ?_
    refine w_nil ?_
    refine .inl ⟨_, rfl, ?_⟩
    refine w_c ?_
    refine r_I (show (0 : Int) < 2147483647 by decide) ?_
    refine w_var rfl ?_
    refine w_c ?_
    obtain ⟨y25, h26, hm⟩ := bnd hm
    refine r_setL s12 (k := 0) (x := ((((x23 * (48271 : Int)) + (d15 % (2147483647 : Int))) + (11 : Int)) % (2147483647 : Int))) rfl (.sc _) h26 fun H27 s28 => ?_
    refine w_if ?_
    refine w_test ?_
    refine w_op ?_
    refine w_cb ?_
    refine w_cons ?_
    refine w_var rfl ?_
    refine w_nil ?_
    refine ⟨_, rfl, ?_⟩
    refine w_op ?_
    refine w_c ?_
    refine w_c ?_
    refine r_I ⟨by decide, by decide, by decide⟩ ?_
    refine r_I0 ?_
    refine w_bl ?_
    refine w_ite (fun h29 => ?_) (fun h29 => ?_)
    ·
      replace hm := ifT h29 hm
      refine w_drop ?_
      refine w_bm ?_
      refine w_var rfl ?_
      refine ⟨s28.tyL (k := 0) rfl, ?_⟩
      refine w_cons ?_
      refine w_cb ?_
      refine w_cons ?_
      refine w_var rfl ?_
      refine w_nil ?_
      refine ⟨_, rfl, ?_⟩
      refine w_nil ?_
      obtain ⟨y30, h31, hm⟩ := bnd hm
      refine r_appL s28 (k := 0) (x := (absI d15)) rfl (.sc _) h31 fun H32 s33 => ?_
      cases som hm
      exact ⟨_, _, rfl, s33, h20⟩
    ·
      replace hm := ifF h29 hm
      refine w_next ?_
      cases som hm
      exact ⟨_, _, rfl, s28, h20⟩
  ·
    rintro _ H11 ⟨y8, o9, rfl, s12, h14⟩
    cases som h14
    refine w_ret ?_
    refine w_var rfl ?_
    cases som hm
    exact kQ _ _ s12
def sp_law_take (K : PySem.W.Frag) (ce : Str → Addr) : Sp := fun vs H Q _ => ∃ (Z : Addr → Prop) (a_law_pool_here : Addr) (x_law_pool_here : List Int) (x_law_many : Int) (r : Int) (y_law_pool_here : List Int), vs = [.ref a_law_pool_here, .int x_law_many] ∧ S (mk K ce Z H [ow a_law_pool_here (td x_law_pool_here)]) H [ow a_law_pool_here (td x_law_pool_here)] ∧ m_law_take x_law_pool_here x_law_many = some (r, y_law_pool_here) ∧ ∀ H', S (mk K ce Z H [ow a_law_pool_here (td x_law_pool_here)]) H' [ow a_law_pool_here (td y_law_pool_here)] → Q (.int r) H'
theorem ok_law_take {P : Program} {w : World} {K : PySem.W.Frag} {mg : Str → Option Value} {base : Heap} {A : Ad} (T : Txt K mg A) : FnOk P w K mg base CX0 1 A.f__law_take A.d__law_take ["_law_pool_here", "_law_many"] (sp_law_take K A.ce) := by
  have SC := sc_law_take
  refine T.F__law_take.ok sc_law_take (fun vs H Q E h => ?_) (fun cdv Ar outer s9 H vs Q E hr h => ?_)
  · obtain ⟨_, _, _, _, _, _, rfl, _⟩ := h; rfl
  obtain ⟨Z, a_law_pool_here, x_law_pool_here, x_law_many, r, y_law_pool_here, rfl, s0, hm, kQ⟩ := h
  refine ⟨_, (Evl.pss_cut (ps_if (PW.pt (pw_and (pt_cmpR op_gt (pe_callB call_lenQ (by rfl) T.n_len PySem.boot_len (pa_cons (pv 0) pa_nil)) pe_int (nomark _)) (pw_and1 (pt_cmpR op_lt (pe_ix ix_list (pv 0) pe_int (fun _ _ => rfl)) pe_int (nomark _))))) (pss_one (ps_expr (pe_bm PySem.F.plainAttrs_list PySem.F.slot_list_pop PySem.F.type_list_pop mt_popAt (pv 0) (pa_cons pe_int pa_nil)))) pss_nil)
    (pss_cons (ps_if (pt_cmpR op_gt (pe_callB call_lenQ (by rfl) T.n_len PySem.boot_len (pa_cons (pv 0) pa_nil)) pe_int (nomark _)) (pss_cons (ps_set (i := 2) SC.nd rfl (by first | exact Or.inl rfl | exact Or.inr rfl) (pe_op op_mod (pe_callTy call_int1 (by rfl) T.n_int (by decide +kernel) (pa_cons (pe_ix ix_list (pv 0) pe_int (fun _ _ => rfl)) pa_nil)) (pv 1)))
    (pss_cons (ps_asg (pe_op op_fdiv (pe_ix ix_list (pv 0) pe_int (fun _ _ => rfl)) (pv 1)) (pg_sub (pv 0) pe_int set_list))
    (pss_one (ps_ret (pv 2))))) pss_nil)
    (pss_cons (ps_asg (pe_op op_mod (pe_callTy call_int1 (by rfl) T.n_int (by decide +kernel) (pa_cons (pe_op op_mul (pe_ix ix_list (pv 0) pe_int (fun _ _ => rfl)) pe_int) pa_nil)) pe_int) (pg_sub (pv 0) pe_int set_list))
    (pss_cons (ps_set (i := 3) SC.nd rfl (by first | exact Or.inl rfl | exact Or.inr rfl) (pe_op op_mod (pe_callTy call_int1 (by rfl) T.n_int (by decide +kernel) (pa_cons (pe_op op_add (pe_op op_mul (pe_ix ix_list (pv 0) pe_int (fun _ _ => rfl)) pe_int) (pe_op op_fdiv (pe_ix ix_list (pv 0) pe_int (fun _ _ => rfl)) pe_int)) pa_nil)) pe_int))
    (pss_one (ps_ret (pe_op op_mod (pe_callTy call_int1 (by rfl) T.n_int (by decide +kernel) (pa_cons (pe_op op_fdiv (pv 3) pe_int) pa_nil)) (pv 1)))))))), ?_⟩
  obtain ⟨y1, h2, hm⟩ := bnd hm
  refine w_cut [some (.ref a_law_pool_here), some (.int x_law_many), none, none] rfl (fun σ5 H3 => σ5 = [some (.ref a_law_pool_here), some (.int x_law_many), none, none] ∧ S (mk K A.ce Z H [ow a_law_pool_here (td x_law_pool_here)]) H3 [ow a_law_pool_here (td y1)]) ?_ ?_
  ·
    replace hm := h2
    refine w_if ?_
    obtain ⟨b6, h7, hm⟩ := bnd hm
    refine cutT (P := fun v H9 => v = b6 ∧ S (mk K A.ce Z H [ow a_law_pool_here (td x_law_pool_here)]) H9 [ow a_law_pool_here (td x_law_pool_here)]) (fun Q9 k9 => ?_) ?_
    ·
      replace hm := h7
      refine w_and ?_
      refine w_test ?_
      refine w_op ?_
      refine w_cb ?_
      refine w_cons ?_
      refine w_var rfl ?_
      refine w_nil ?_
      refine r_lenQ s0 (k := 0) rfl ?_
      refine w_c ?_
      refine r_I0 ?_
      refine w_bl ?_
      refine w_ite (fun h10 => ?_) (fun h10 => ?_)
      ·
        replace hm := ifT h10 hm
        refine w_test ?_
        refine w_op ?_
        refine w_op ?_
        refine w_var rfl ?_
        refine w_c ?_
        obtain ⟨x11, h12, hm⟩ := bnd hm
        refine r_ixLi s0 (k := 0) rfl h12 ?_
        refine w_c ?_
        refine r_I0 ?_
        refine w_bl ?_
        cases som hm
        exact k9 _ _ ⟨rfl, s0⟩
      ·
        replace hm := ifF h10 hm
        cases som hm
        exact k9 _ _ ⟨rfl, s0⟩
    rintro _ H8 ⟨rfl, s9⟩
    refine w_ite (fun h13 => ?_) (fun h13 => ?_)
    ·
      replace hm := ifT h13 hm
      refine w_drop ?_
      refine w_bm ?_
      refine w_var rfl ?_
      refine ⟨s9.tyL (k := 0) rfl, ?_⟩
      refine w_cons ?_
      refine w_c ?_
      refine w_nil ?_
      obtain ⟨⟨x14, y15⟩, h16, hm⟩ := bnd hm
      refine r_popLi s9 (k := 0) rfl h16 ⟨by decide, by decide⟩ fun H17 s18 => ?_
      cases som hm
      exact ⟨rfl, s18⟩
    ·
      replace hm := ifF h13 hm
      refine w_next ?_
      cases som hm
      exact ⟨rfl, s9⟩
  rintro _ H3 ⟨rfl, s4⟩
  refine w_seq [some (.ref a_law_pool_here), some (.int x_law_many), none, none] rfl ?_
  refine w_if ?_
  refine w_test ?_
  refine w_op ?_
  refine w_cb ?_
  refine w_cons ?_
  refine w_var rfl ?_
  refine w_nil ?_
  refine r_lenQ s4 (k := 0) rfl ?_
  refine w_c ?_
  refine r_I0 ?_
  refine w_bl ?_
  refine w_ite (fun h19 => ?_) (fun h19 => ?_)
  ·
    replace hm := ifT h19 hm
    refine w_seq [some (.ref a_law_pool_here), some (.int x_law_many), none, none] rfl ?_
    refine w_set ?_
    refine w_op ?_
    refine w_cb ?_
    refine w_cons ?_
    refine w_op ?_
    refine w_var rfl ?_
    refine w_c ?_
    obtain ⟨x20, h21, hm⟩ := bnd hm
    refine r_ixLi s4 (k := 0) rfl h21 ?_
    refine w_nil ?_
    refine .inl ⟨_, rfl, ?_⟩
    refine w_var rfl ?_
    obtain ⟨x22, h23, hm⟩ := bnd hm
    refine r_modI h23 ?_
    refine w_seq [some (.ref a_law_pool_here), some (.int x_law_many), some (.int x22), none] rfl ?_
    refine w_asgS ?_
    refine w_op ?_
    refine w_op ?_
    refine w_var rfl ?_
    refine w_c ?_
    obtain ⟨x24, h25, hm⟩ := bnd hm
    refine r_ixLi s4 (k := 0) rfl h25 ?_
    refine w_var rfl ?_
    obtain ⟨x26, h27, hm⟩ := bnd hm
    refine r_fdivI h27 ?_
    refine w_var rfl ?_
    refine w_c ?_
    obtain ⟨y28, h29, hm⟩ := bnd hm
    refine r_setL s4 (k := 0) (x := x26) rfl (.sc _) h29 fun H30 s31 => ?_
    refine w_ret ?_
    refine w_var rfl ?_
    cases som hm
    exact kQ _ s31
  ·
    replace hm := ifF h19 hm
    refine w_next ?_
    refine w_seq [some (.ref a_law_pool_here), some (.int x_law_many), none, none] rfl ?_
    refine w_asgS ?_
    refine w_op ?_
    refine w_cb ?_
    refine w_cons ?_
    refine w_op ?_
    refine w_op ?_
    refine w_var rfl ?_
    refine w_c ?_
    obtain ⟨x32, h33, hm⟩ := bnd hm
    refine r_ixLi s4 (k := 0) rfl h33 ?_
    refine w_c ?_
    refine r_I (.inr ⟨by decide, by decide⟩) ?_
    refine w_nil ?_
    refine .inl ⟨_, rfl, ?_⟩
    refine w_c ?_
    refine r_I (show (0 : Int) < 2147483647 by decide) ?_
    refine w_var rfl ?_
    refine w_c ?_
    obtain ⟨y34, h35, hm⟩ := bnd hm
    refine r_setL s4 (k := 0) (x := ((x32 * (48271 : Int)) % (2147483647 : Int))) rfl (.sc _) h35 fun H36 s37 => ?_
    refine w_seq [some (.ref a_law_pool_here), some (.int x_law_many), none, none] rfl ?_
    refine w_set ?_
    refine w_op ?_
    refine w_cb ?_
    refine w_cons ?_
    refine w_op ?_
    refine w_op ?_
    refine w_op ?_
    refine w_var rfl ?_
    refine w_c ?_
    obtain ⟨x38, h39, hm⟩ := bnd hm
    refine r_ixLi s37 (k := 0) rfl h39 ?_
    refine w_c ?_
    refine r_I (.inr ⟨by decide, by decide⟩) ?_
    refine w_op ?_
    refine w_op ?_
    refine w_var rfl ?_
    refine w_c ?_
    obtain ⟨x40, h41, hm⟩ := bnd hm
    refine r_ixLi s37 (k := 0) rfl h41 ?_
    refine w_c ?_
    refine r_I ⟨by decide, by decide⟩ ?_
    refine r_I0 ?_
    refine w_nil ?_
    refine .inl ⟨_, rfl, ?_⟩
    refine w_c ?_
    refine r_I (show (0 : Int) < 2147483629 by decide) ?_
    refine w_ret ?_
    refine w_op ?_
    refine w_cb ?_
    refine w_cons ?_
    refine w_op ?_
    refine w_var rfl ?_
    refine w_c ?_
    refine r_I ⟨by decide, by decide⟩ ?_
    refine w_nil ?_
    refine .inl ⟨_, rfl, ?_⟩
    refine w_var rfl ?_
    obtain ⟨x42, h43, hm⟩ := bnd hm
    refine r_modI h43 ?_
    cases som hm
    exact kQ _ s37
def sp_law_sign (K : PySem.W.Frag) (ce : Str → Addr) : Sp := fun vs H Q _ => ∃ (Z : Addr → Prop) (a_law_pool_here : Addr) (x_law_pool_here : List Int) (r : Str) (y_law_pool_here : List Int), vs = [.ref a_law_pool_here] ∧ S (mk K ce Z H [ow a_law_pool_here (td x_law_pool_here)]) H [ow a_law_pool_here (td x_law_pool_here)] ∧ m_law_sign x_law_pool_here = some (r, y_law_pool_here) ∧ ∀ H', S (mk K ce Z H [ow a_law_pool_here (td x_law_pool_here)]) H' [ow a_law_pool_here (td y_law_pool_here)] → Q (.str r) H'
theorem ok_law_sign {P : Program} {w : World} {K : PySem.W.Frag} {mg : Str → Option Value} {base : Heap} {A : Ad} (T : Txt K mg A) : FnOk P w K mg base CX0 2 A.f__law_sign A.d__law_sign ["_law_pool_here"] (sp_law_sign K A.ce) := by
  have SC := sc_law_sign
  refine T.F__law_sign.ok sc_law_sign (fun vs H Q E h => ?_) (fun cdv Ar outer s9 H vs Q E hr h => ?_)
  · obtain ⟨_, _, _, _, _, rfl, _⟩ := h; rfl
  obtain ⟨Z, a_law_pool_here, x_law_pool_here, r, y_law_pool_here, rfl, s0, hm, kQ⟩ := h
  refine ⟨_, (pss_cons (ps_set (i := 1) SC.nd rfl (by first | exact Or.inl rfl | exact Or.inr rfl) pe_str)
    (pss_cons (ps_set (i := 1) SC.nd rfl (by first | exact Or.inl rfl | exact Or.inr rfl) (pe_op op_addT (pv 1) pe_str))
    (pss_one (ps_ret (pe_ix ix_str (pv 1) (pe_call (ok_law_take T) (hr.mono (by decide)) rfl T.g__law_take T.k__law_take T.b__law_take .nil pass0 (pa_cons (pv 0) (pa_cons pe_int pa_nil))) (fun _ _ => rfl)))))), ?_⟩
  refine w_seq [some (.ref a_law_pool_here), none] rfl ?_
  refine w_set ?_
  refine w_c ?_
  refine w_seq [some (.ref a_law_pool_here), some (.str (" !\"#$&'()*+,-./0123456789:;<=>?@ABCDEFGHIJKLMNOPQRSTUVWXYZ[\\]^_`" : Str))] rfl ?_
  refine w_set ?_
  refine w_op ?_
  refine w_var rfl ?_
  refine w_c ?_
  obtain ⟨x1, h2, hm⟩ := bnd hm
  refine r_addS h2 ?_
  refine w_ret ?_
  refine w_op ?_
  refine w_var rfl ?_
  refine w_call ?_
  refine w_cons ?_
  refine w_var rfl ?_
  refine w_cons ?_
  refine w_c ?_
  refine w_nil ?_
  have s3 := s0.pick (E' := [ow a_law_pool_here (td x_law_pool_here)] ++ []) [0]
  obtain ⟨⟨x4, y5⟩, h6, hm⟩ := bnd hm
  refine ⟨_, _, _, _, _, _, rfl, s3.enter, h6, fun H7 s8 => ?_⟩
  have s9 : S _ _ [ow a_law_pool_here (td y5)] := s3.leave s8
  obtain ⟨x10, h11, hm⟩ := bnd hm
  refine r_ixS h11 ?_
  cases som hm
  exact kQ _ s9
def sp_law_text (K : PySem.W.Frag) (ce : Str → Addr) : Sp := fun vs H Q _ => ∃ (Z : Addr → Prop) (a_law_pool_here : Addr) (x_law_pool_here : List Int) (r : Str) (y_law_pool_here : List Int), vs = [.ref a_law_pool_here] ∧ S (mk K ce Z H [ow a_law_pool_here (td x_law_pool_here)]) H [ow a_law_pool_here (td x_law_pool_here)] ∧ m_law_text x_law_pool_here = some (r, y_law_pool_here) ∧ ∀ H', S (mk K ce Z H [ow a_law_pool_here (td x_law_pool_here)]) H' [ow a_law_pool_here (td y_law_pool_here)] → Q (.str r) H'
theorem ok_law_text {P : Program} {w : World} {K : PySem.W.Frag} {mg : Str → Option Value} {base : Heap} {A : Ad} (T : Txt K mg A) : FnOk P w K mg base CX0 3 A.f__law_text A.d__law_text ["_law_pool_here"] (sp_law_text K A.ce) := by
  have SC := sc_law_text
  refine T.F__law_text.ok sc_law_text (fun vs H Q E h => ?_) (fun cdv Ar outer s9 H vs Q E hr h => ?_)
  · obtain ⟨_, _, _, _, _, rfl, _⟩ := h; rfl
  obtain ⟨Z, a_law_pool_here, x_law_pool_here, r, y_law_pool_here, rfl, s0, hm, kQ⟩ := h
  refine ⟨_, (pss_cons (ps_set (i := 1) SC.nd rfl (by first | exact Or.inl rfl | exact Or.inr rfl) pe_str)
    (pss_cons (ps_set (i := 2) SC.nd rfl (by first | exact Or.inl rfl | exact Or.inr rfl) pe_str)
    (pss_cons (ps_set (i := 3) SC.nd rfl (by first | exact Or.inl rfl | exact Or.inr rfl) (pe_call (ok_law_take T) (hr.mono (by decide)) rfl T.g__law_take T.k__law_take T.b__law_take .nil pass0 (pa_cons (pv 0) (pa_cons pe_int pa_nil))))
    (pss_cons (ps_set (i := 4) SC.nd rfl (by first | exact Or.inl rfl | exact Or.inr rfl) pe_str)
    (pss_cons (ps_for PassesOwn.never rfl (pi_range1 rfl T.n_range (pa_cons (pe_op op_mod (pe_callTy call_int1 (by rfl) T.n_int (by decide +kernel) (pa_cons (pe_op op_add pe_int (pe_call (ok_law_take T) (hr.mono (by decide)) rfl T.g__law_take T.k__law_take T.b__law_take .nil pass0 (pa_cons (pv 0) (pa_cons pe_int pa_nil)))) pa_nil)) pe_int) pa_nil)) (pg_name (i := 5) SC.nd rfl (by first | exact Or.inl rfl | exact Or.inr rfl)) (pss_one (ps_if (PW.pt (pw_and (pt_cmpR op_lt (pv 3) pe_int (nomark _)) (pw_and1 (pt_cmpR op_eq (pv 5) pe_int (nomark _))))) (pss_one (ps_set (i := 4) SC.nd rfl (by first | exact Or.inl rfl | exact Or.inr rfl) (pe_op op_addT (pv 4) (pe_ix ix_str (pv 1) (pe_call (ok_law_take T) (hr.mono (by decide)) rfl T.g__law_take T.k__law_take T.b__law_take .nil pass0 (pa_cons (pv 0) (pa_cons pe_int pa_nil))) (fun _ _ => rfl))))) (pss_one (ps_if (PW.pt (pw_or (pt_cmpR op_lt (pv 3) pe_int (nomark _)) (pw_or1 (PW.pt (pw_and (pt_cmpR op_eq (pv 3) pe_int (nomark _)) (pw_and1 (pt_cmpR op_eq (pe_call (ok_law_take T) (hr.mono (by decide)) rfl T.g__law_take T.k__law_take T.b__law_take .nil pass0 (pa_cons (pv 0) (pa_cons pe_int pa_nil))) pe_int (nomark _)))))))) (pss_one (ps_set (i := 4) SC.nd rfl (by first | exact Or.inl rfl | exact Or.inr rfl) (pe_op op_addT (pv 4) (pe_ix ix_str (pv 1) (pe_call (ok_law_take T) (hr.mono (by decide)) rfl T.g__law_take T.k__law_take T.b__law_take .nil pass0 (pa_cons (pv 0) (pa_cons pe_int pa_nil))) (fun _ _ => rfl))))) (pss_one (ps_if (pt_cmpR op_lt (pv 3) pe_int (nomark _)) (pss_one (ps_set (i := 4) SC.nd rfl (by first | exact Or.inl rfl | exact Or.inr rfl) (pe_op op_addT (pv 4) (pe_ix ix_str (pv 2) (pe_call (ok_law_take T) (hr.mono (by decide)) rfl T.g__law_take T.k__law_take T.b__law_take .nil pass0 (pa_cons (pv 0) (pa_cons pe_int pa_nil))) (fun _ _ => rfl))))) (pss_one (ps_set (i := 4) SC.nd rfl (by first | exact Or.inl rfl | exact Or.inr rfl) (pe_op op_addT (pv 4) (pe_call (ok_law_sign T) (hr.mono (by decide)) rfl T.g__law_sign T.k__law_sign T.b__law_sign .nil pass0 (pa_cons (pv 0) pa_nil))))))))))))
    (Evl.pss_cut (ps_if (PW.pt (pw_and (pt_cmpR op_ne (pv 4) pe_str (nomark _)) (pw_and1 (pt_cmpR op_eq (pe_call (ok_law_take T) (hr.mono (by decide)) rfl T.g__law_take T.k__law_take T.b__law_take .nil pass0 (pa_cons (pv 0) (pa_cons pe_int pa_nil))) pe_int (nomark _))))) (pss_cons (ps_set (i := 6) SC.nd rfl (by first | exact Or.inl rfl | exact Or.inr rfl) (pe_call (ok_law_take T) (hr.mono (by decide)) rfl T.g__law_take T.k__law_take T.b__law_take .nil pass0 (pa_cons (pv 0) (pa_cons (pe_callB call_lenT (by rfl) T.n_len PySem.boot_len (pa_cons (pv 4) pa_nil)) pa_nil))))
    (pss_one (ps_set (i := 4) SC.nd rfl (by first | exact Or.inl rfl | exact Or.inr rfl) (pe_op op_addT (pe_op op_addT (pe_slice sl_str (pv 4) po_none (po_some (pv 6))) (pe_call (ok_law_sign T) (hr.mono (by decide)) rfl T.g__law_sign T.k__law_sign T.b__law_sign .nil pass0 (pa_cons (pv 0) pa_nil))) (pe_slice sl_str (pv 4) (po_some (pe_op op_add (pv 6) pe_int)) po_none))))) pss_nil)
    (pss_one (ps_ret (pv 4))))))))), ?_⟩
  refine w_seq [some (.ref a_law_pool_here), none, none, none, none, none, none] rfl ?_
  refine w_set ?_
  refine w_c ?_
  refine w_seq [some (.ref a_law_pool_here), some (.str ("abcdefghijklmnopqrstuvwxyz0123456789" : Str)), none, none, none, none, none] rfl ?_
  refine w_set ?_
  refine w_c ?_
  refine w_seq [some (.ref a_law_pool_here), some (.str ("abcdefghijklmnopqrstuvwxyz0123456789" : Str)), some (.str ("ABCDEFGHIJKLMNOPQRSTUVWXYZ" : Str)), none, none, none, none] rfl ?_
  refine w_set ?_
  refine w_call ?_
  refine w_cons ?_
  refine w_var rfl ?_
  refine w_cons ?_
  refine w_c ?_
  refine w_nil ?_
  have s1 := s0.pick (E' := [ow a_law_pool_here (td x_law_pool_here)] ++ []) [0]
  obtain ⟨⟨x2, y3⟩, h4, hm⟩ := bnd hm
  refine ⟨_, _, _, _, _, _, rfl, s1.enter, h4, fun H5 s6 => ?_⟩
  have s7 : S _ _ [ow a_law_pool_here (td y3)] := s1.leave s6
  refine w_seq [some (.ref a_law_pool_here), some (.str ("abcdefghijklmnopqrstuvwxyz0123456789" : Str)), some (.str ("ABCDEFGHIJKLMNOPQRSTUVWXYZ" : Str)), some (.int x2), none, none, none] rfl ?_
  refine w_set ?_
  refine w_c ?_
  refine w_seq [some (.ref a_law_pool_here), some (.str ("abcdefghijklmnopqrstuvwxyz0123456789" : Str)), some (.str ("ABCDEFGHIJKLMNOPQRSTUVWXYZ" : Str)), some (.int x2), some (.str ("" : Str)), none, none] rfl ?_
  refine w_forR ?_
  refine w_cons ?_
  refine w_op ?_
  refine w_cb ?_
  refine w_cons ?_
  refine w_op ?_
  refine w_c ?_
  refine w_call ?_
  refine w_cons ?_
  refine w_var rfl ?_
  refine w_cons ?_
  refine w_c ?_
  refine w_nil ?_
  have s8 := s7.pick (E' := [ow a_law_pool_here (td y3)] ++ []) [0]
  obtain ⟨⟨x9, y10⟩, h11, hm⟩ := bnd hm
  refine ⟨_, _, _, _, _, _, rfl, s8.enter, h11, fun H12 s13 => ?_⟩
  have s14 : S _ _ [ow a_law_pool_here (td y10)] := s8.leave s13
  refine r_I0 ?_
  refine w_nil ?_
  refine .inl ⟨_, rfl, ?_⟩
  refine w_c ?_
  refine r_I (show (0 : Int) < 10 by decide) ?_
  refine w_nil ?_
  obtain ⟨x16, h15, hm⟩ := bnd hm
  refine r_rng h15 ?_
  obtain ⟨r17, h18, hm⟩ := bnd hm
  refine forB (c := (mk K A.ce Z H [ow a_law_pool_here (td x_law_pool_here)])) x16 (w := .rng 0 (((3 : Int) + x9) % (10 : Int))) rfl (fun l26 σ23 H24 => ∃ (y20 : List Int) (x21 : Str) (o22 : Option V), σ23 = [some (.ref a_law_pool_here), some (.str ("abcdefghijklmnopqrstuvwxyz0123456789" : Str)), some (.str ("ABCDEFGHIJKLMNOPQRSTUVWXYZ" : Str)), some (.int x2), some (.str x21), o22, none] ∧ S (mk K A.ce Z H [ow a_law_pool_here (td x_law_pool_here)]) H24 [ow a_law_pool_here (td y20)] ∧ foldO l26 (y20, x21) (m_law_text_L1 x2) = some r17) ?_ ?_ ?_ ?_
  ·
    exact ⟨_, _, _, rfl, s14, h18⟩
  ·
    rintro _ _ _ ⟨y20, x21, o22, rfl, s25, h27⟩; exact rng_at h15
  ·
    rintro d28 l26 w29 _ H24 ⟨y20, x21, o22, rfl, s25, h27⟩ g30
    obtain ⟨q31, h32, h33⟩ := fold_cons h27
    have h19 := hm
    replace hm := h32
    obtain rfl : V.int d28 = w29 := gv_sc g30
    refine w_name ?_
    refine w_if ?_
    obtain ⟨b36, h37, hm⟩ := bnd hm
    refine cutT (P := fun v H9 => v = b36 ∧ S (mk K A.ce Z H [ow a_law_pool_here (td x_law_pool_here)]) H9 [ow a_law_pool_here (td y20)]) (fun Q9 k9 => ?_) ?_
    ·
      replace hm := h37
      refine w_and ?_
      refine w_test ?_
      refine w_op ?_
      refine w_var rfl ?_
      refine w_c ?_
      refine r_I0 ?_
      refine w_bl ?_
      refine w_ite (fun h40 => ?_) (fun h40 => ?_)
      ·
        replace hm := ifT h40 hm
        refine w_test ?_
        refine w_op ?_
        refine w_var rfl ?_
        refine w_c ?_
        refine r_eqI ?_
        refine w_bl ?_
        cases som hm
        exact k9 _ _ ⟨rfl, s25⟩
      ·
        replace hm := ifF h40 hm
        cases som hm
        exact k9 _ _ ⟨rfl, s25⟩
    rintro _ H38 ⟨rfl, s39⟩
    refine w_ite (fun h41 => ?_) (fun h41 => ?_)
    ·
      replace hm := ifT h41 hm
      refine w_set ?_
      refine w_op ?_
      refine w_var rfl ?_
      refine w_op ?_
      refine w_var rfl ?_
      refine w_call ?_
      refine w_cons ?_
      refine w_var rfl ?_
      refine w_cons ?_
      refine w_c ?_
      refine w_nil ?_
      have s42 := s39.pick (E' := [ow a_law_pool_here (td y20)] ++ []) [0]
      obtain ⟨⟨x43, y44⟩, h45, hm⟩ := bnd hm
      refine ⟨_, _, _, _, _, _, rfl, s42.enter, h45, fun H46 s47 => ?_⟩
      have s48 : S _ _ [ow a_law_pool_here (td y44)] := s42.leave s47
      obtain ⟨x49, h50, hm⟩ := bnd hm
      refine r_ixS h50 ?_
      obtain ⟨x51, h52, hm⟩ := bnd hm
      refine r_addS h52 ?_
      cases som hm
      exact ⟨_, _, _, rfl, s48, h33⟩
    ·
      replace hm := ifF h41 hm
      refine w_if ?_
      obtain ⟨⟨b53, y55⟩, h54, hm⟩ := bnd hm
      refine cutT (P := fun v H9 => v = b53 ∧ S (mk K A.ce Z H [ow a_law_pool_here (td x_law_pool_here)]) H9 [ow a_law_pool_here (td y55)]) (fun Q9 k9 => ?_) ?_
      ·
        replace hm := h54
        refine w_or ?_
        refine w_test ?_
        refine w_op ?_
        refine w_var rfl ?_
        refine w_c ?_
        refine r_I0 ?_
        refine w_bl ?_
        refine w_ite (fun h58 => ?_) (fun h58 => ?_)
        ·
          replace hm := ifT h58 hm
          cases som hm
          exact k9 _ _ ⟨rfl, s39⟩
        ·
          replace hm := ifF h58 hm
          obtain ⟨⟨b59, y61⟩, h60, hm⟩ := bnd hm
          refine cutT (P := fun v H9 => v = b59 ∧ S (mk K A.ce Z H [ow a_law_pool_here (td x_law_pool_here)]) H9 [ow a_law_pool_here (td y61)]) (fun Q9 k9 => ?_) ?_
          ·
            replace hm := h60
            refine w_and ?_
            refine w_test ?_
            refine w_op ?_
            refine w_var rfl ?_
            refine w_c ?_
            refine r_eqI ?_
            refine w_bl ?_
            refine w_ite (fun h64 => ?_) (fun h64 => ?_)
            ·
              replace hm := ifT h64 hm
              refine w_test ?_
              refine w_op ?_
              refine w_call ?_
              refine w_cons ?_
              refine w_var rfl ?_
              refine w_cons ?_
              refine w_c ?_
              refine w_nil ?_
              have s65 := s39.pick (E' := [ow a_law_pool_here (td y20)] ++ []) [0]
              obtain ⟨⟨x66, y67⟩, h68, hm⟩ := bnd hm
              refine ⟨_, _, _, _, _, _, rfl, s65.enter, h68, fun H69 s70 => ?_⟩
              have s71 : S _ _ [ow a_law_pool_here (td y67)] := s65.leave s70
              refine w_c ?_
              refine r_eqI ?_
              refine w_bl ?_
              cases som hm
              exact k9 _ _ ⟨rfl, s71⟩
            ·
              replace hm := ifF h64 hm
              cases som hm
              exact k9 _ _ ⟨rfl, s39⟩
          rintro _ H62 ⟨rfl, s63⟩
          cases som hm
          exact k9 _ _ ⟨rfl, s63⟩
      rintro _ H56 ⟨rfl, s57⟩
      refine w_ite (fun h72 => ?_) (fun h72 => ?_)
      ·
        replace hm := ifT h72 hm
        refine w_set ?_
        refine w_op ?_
        refine w_var rfl ?_
        refine w_op ?_
        refine w_var rfl ?_
        refine w_call ?_
        refine w_cons ?_
        refine w_var rfl ?_
        refine w_cons ?_
        refine w_c ?_
        refine w_nil ?_
        have s73 := s57.pick (E' := [ow a_law_pool_here (td y55)] ++ []) [0]
        obtain ⟨⟨x74, y75⟩, h76, hm⟩ := bnd hm
        refine ⟨_, _, _, _, _, _, rfl, s73.enter, h76, fun H77 s78 => ?_⟩
        have s79 : S _ _ [ow a_law_pool_here (td y75)] := s73.leave s78
        obtain ⟨x80, h81, hm⟩ := bnd hm
        refine r_ixS h81 ?_
        obtain ⟨x82, h83, hm⟩ := bnd hm
        refine r_addS h83 ?_
        cases som hm
        exact ⟨_, _, _, rfl, s79, h33⟩
      ·
        replace hm := ifF h72 hm
        refine w_if ?_
        refine w_test ?_
        refine w_op ?_
        refine w_var rfl ?_
        refine w_c ?_
        refine r_I0 ?_
        refine w_bl ?_
        refine w_ite (fun h84 => ?_) (fun h84 => ?_)
        ·
          replace hm := ifT h84 hm
          refine w_set ?_
          refine w_op ?_
          refine w_var rfl ?_
          refine w_op ?_
          refine w_var rfl ?_
          refine w_call ?_
          refine w_cons ?_
          refine w_var rfl ?_
          refine w_cons ?_
          refine w_c ?_
          refine w_nil ?_
          have s85 := s57.pick (E' := [ow a_law_pool_here (td y55)] ++ []) [0]
          obtain ⟨⟨x86, y87⟩, h88, hm⟩ := bnd hm
          refine ⟨_, _, _, _, _, _, rfl, s85.enter, h88, fun H89 s90 => ?_⟩
          have s91 : S _ _ [ow a_law_pool_here (td y87)] := s85.leave s90
          obtain ⟨x92, h93, hm⟩ := bnd hm
          refine r_ixS h93 ?_
          obtain ⟨x94, h95, hm⟩ := bnd hm
          refine r_addS h95 ?_
          cases som hm
          exact ⟨_, _, _, rfl, s91, h33⟩
        ·
          replace hm := ifF h84 hm
          refine w_set ?_
          refine w_op ?_
          refine w_var rfl ?_
          refine w_call ?_
          refine w_cons ?_
          refine w_var rfl ?_
          refine w_nil ?_
          have s96 := s57.pick (E' := [ow a_law_pool_here (td y55)] ++ []) [0]
          obtain ⟨⟨x97, y98⟩, h99, hm⟩ := bnd hm
          refine ⟨_, _, _, _, _, rfl, s96.enter, h99, fun H100 s101 => ?_⟩
          have s102 : S _ _ [ow a_law_pool_here (td y98)] := s96.leave s101
          obtain ⟨x103, h104, hm⟩ := bnd hm
          refine r_addS h104 ?_
          cases som hm
          exact ⟨_, _, _, rfl, s102, h33⟩
  ·
    rintro _ H24 ⟨y20, x21, o22, rfl, s25, h27⟩
    cases som h27
    obtain ⟨⟨y105, x106⟩, h108, hm⟩ := bnd hm
    refine w_cut [some (.ref a_law_pool_here), some (.str ("abcdefghijklmnopqrstuvwxyz0123456789" : Str)), some (.str ("ABCDEFGHIJKLMNOPQRSTUVWXYZ" : Str)), some (.int x2), some (.str x21), o22, none] rfl (fun σ111 H109 => ∃ (o107 : Option V), σ111 = [some (.ref a_law_pool_here), some (.str ("abcdefghijklmnopqrstuvwxyz0123456789" : Str)), some (.str ("ABCDEFGHIJKLMNOPQRSTUVWXYZ" : Str)), some (.int x2), some (.str x106), o22, o107] ∧ S (mk K A.ce Z H [ow a_law_pool_here (td x_law_pool_here)]) H109 [ow a_law_pool_here (td y105)]) ?_ ?_
    ·
      replace hm := h108
      refine w_if ?_
      obtain ⟨⟨b112, y114⟩, h113, hm⟩ := bnd hm
      refine cutT (P := fun v H9 => v = b112 ∧ S (mk K A.ce Z H [ow a_law_pool_here (td x_law_pool_here)]) H9 [ow a_law_pool_here (td y114)]) (fun Q9 k9 => ?_) ?_
      ·
        replace hm := h113
        refine w_and ?_
        refine w_test ?_
        refine w_op ?_
        refine w_var rfl ?_
        refine w_c ?_
        refine r_neS ?_
        refine w_bl ?_
        refine w_ite (fun h117 => ?_) (fun h117 => ?_)
        ·
          replace hm := ifT h117 hm
          refine w_test ?_
          refine w_op ?_
          refine w_call ?_
          refine w_cons ?_
          refine w_var rfl ?_
          refine w_cons ?_
          refine w_c ?_
          refine w_nil ?_
          have s118 := s25.pick (E' := [ow a_law_pool_here (td y20)] ++ []) [0]
          obtain ⟨⟨x119, y120⟩, h121, hm⟩ := bnd hm
          refine ⟨_, _, _, _, _, _, rfl, s118.enter, h121, fun H122 s123 => ?_⟩
          have s124 : S _ _ [ow a_law_pool_here (td y120)] := s118.leave s123
          refine w_c ?_
          refine r_eqI ?_
          refine w_bl ?_
          cases som hm
          exact k9 _ _ ⟨rfl, s124⟩
        ·
          replace hm := ifF h117 hm
          cases som hm
          exact k9 _ _ ⟨rfl, s25⟩
      rintro _ H115 ⟨rfl, s116⟩
      refine w_ite (fun h125 => ?_) (fun h125 => ?_)
      ·
        replace hm := ifT h125 hm
        refine w_seq [some (.ref a_law_pool_here), some (.str ("abcdefghijklmnopqrstuvwxyz0123456789" : Str)), some (.str ("ABCDEFGHIJKLMNOPQRSTUVWXYZ" : Str)), some (.int x2), some (.str x21), o22, none] rfl ?_
        refine w_set ?_
        refine w_call ?_
        refine w_cons ?_
        refine w_var rfl ?_
        refine w_cons ?_
        refine w_cb ?_
        refine w_cons ?_
        refine w_var rfl ?_
        refine w_nil ?_
        obtain ⟨x126, h127, hm⟩ := bnd hm
        refine r_lenS h127 ?_
        refine w_nil ?_
        have s128 := s116.pick (E' := [ow a_law_pool_here (td y114)] ++ []) [0]
        obtain ⟨⟨x129, y130⟩, h131, hm⟩ := bnd hm
        refine ⟨_, _, _, _, _, _, rfl, s128.enter, h131, fun H132 s133 => ?_⟩
        have s134 : S _ _ [ow a_law_pool_here (td y130)] := s128.leave s133
        refine w_set ?_
        refine w_op ?_
        refine w_op ?_
        refine w_sl ?_
        refine w_var rfl ?_
        refine w_noPart ?_
        refine w_part ?_
        refine w_var rfl ?_
        refine w_int ?_
        obtain ⟨x135, h136, hm⟩ := bnd hm
        refine r_cutS h136 ?_
        refine w_call ?_
        refine w_cons ?_
        refine w_var rfl ?_
        refine w_nil ?_
        have s137 := s134.pick (E' := [ow a_law_pool_here (td y130)] ++ []) [0]
        obtain ⟨⟨x138, y139⟩, h140, hm⟩ := bnd hm
        refine ⟨_, _, _, _, _, rfl, s137.enter, h140, fun H141 s142 => ?_⟩
        have s143 : S _ _ [ow a_law_pool_here (td y139)] := s137.leave s142
        obtain ⟨x144, h145, hm⟩ := bnd hm
        refine r_addS h145 ?_
        refine w_sl ?_
        refine w_var rfl ?_
        refine w_part ?_
        refine w_op ?_
        refine w_var rfl ?_
        refine w_c ?_
        refine r_I0 ?_
        refine w_int ?_
        refine w_noPart ?_
        obtain ⟨x146, h147, hm⟩ := bnd hm
        refine r_cutS h147 ?_
        obtain ⟨x148, h149, hm⟩ := bnd hm
        refine r_addS h149 ?_
        cases som hm
        exact ⟨_, rfl, s143⟩
      ·
        replace hm := ifF h125 hm
        refine w_next ?_
        cases som hm
        exact ⟨_, rfl, s116⟩
    rintro _ H109 ⟨o107, rfl, s110⟩
    refine w_ret ?_
    refine w_var rfl ?_
    cases som hm
    exact kQ _ s110
def sp_is_name (K : PySem.W.Frag) (ce : Str → Addr) : Sp := fun vs H Q _ => ∃ (Z : Addr → Prop) (x_text : Str) (r : Bool), vs = [.str x_text] ∧ S (mk K ce Z H []) H [] ∧ m_is_name x_text = some r ∧ ∀ H', S (mk K ce Z H []) H' [] → Q (.bl r) H'
theorem ok_is_name {P : Program} {w : World} {K : PySem.W.Frag} {mg : Str → Option Value} {base : Heap} {A : Ad} (T : Txt K mg A) : FnOk P w K mg base CX0 1 A.f_is_name A.d_is_name ["text"] (sp_is_name K A.ce) := by
  have SC := sc_is_name
  refine T.F_is_name.ok sc_is_name (fun vs H Q E h => ?_) (fun cdv Ar outer s9 H vs Q E hr h => ?_)
  · obtain ⟨_, _, _, rfl, _⟩ := h; rfl
  obtain ⟨Z, x_text, r, rfl, s0, hm, kQ⟩ := h
  refine ⟨_, (pss_one (ps_ret (pe_and (pe_chain op_le op_le pe_int (pe_callB call_lenT (by rfl) T.n_len PySem.boot_len (pa_cons (pv 0) pa_nil)) pe_int) (pe_and (pe_cmpR op_inS (pe_ix ix_str (pv 0) pe_int (fun _ _ => rfl)) (pe_glob (v := .str c_LETTERS) rfl T.g_LETTERS.choose_spec ⟨_, rfl⟩) (by rfl)) (pe_one (pe_callB (cr_all rfl) (by rfl) T.n_all (by decide +kernel) (pa_cons (pe_lc (own := [("sign", 1)]) (g := gName 1) rfl SC.nd (pi_str (pv 0)) (blkOk_by (own := [("sign", 1)]) (N := N_is_name) (sc := defScope s_is_name) (by decide +kernel)) (fun _ _ _ _ _ => (pg_name (i := 1) SC.nd rfl (by first | exact Or.inl rfl | exact Or.inr rfl))) (fun _ _ _ _ _ => pts_nil) (fun _ _ _ _ _ => (pe_cmpR op_inS (pv 1) (pe_glob (v := .str c_SIGNS) rfl T.g_SIGNS.choose_spec ⟨_, rfl⟩) (by rfl)))) pa_nil))))))), ?_⟩
  refine w_ret ?_
  obtain ⟨b1, h2, hm⟩ := bnd hm
  refine cutE (P := fun v H9 => v = .bl b1 ∧ S (mk K A.ce Z H []) H9 []) (fun Q9 k9 => ?_) ?_
  ·
    replace hm := h2
    refine w_andV ?_
    obtain ⟨b5, h6, hm⟩ := bnd hm
    refine cutE (P := fun v H9 => v = .bl b5 ∧ H = H9) (fun Q9 k9 => ?_) ?_
    ·
      replace hm := h6
      refine w_chain ?_
      refine w_c ?_
      refine w_cb ?_
      refine w_cons ?_
      refine w_var rfl ?_
      refine w_nil ?_
      obtain ⟨x7, h8, hm⟩ := bnd hm
      refine r_lenS h8 ?_
      refine r_I0 ?_
      refine w_bl ?_
      refine w_ite (fun h9 => ?_) (fun h9 => ?_)
      ·
        replace hm := ifT h9 hm
        refine w_c ?_
        refine r_I0 ?_
        cases som hm
        exact k9 _ _ ⟨rfl, rfl⟩
      ·
        replace hm := ifF h9 hm
        cases som hm
        exact k9 _ _ ⟨rfl, rfl⟩
    rintro _ _ ⟨rfl, rfl⟩
    refine w_bl ?_
    refine w_ite (fun h10 => ?_) (fun h10 => ?_)
    ·
      replace hm := ifT h10 hm
      obtain ⟨b11, h12, hm⟩ := bnd hm
      refine cutE (P := fun v H9 => v = .bl b11 ∧ S (mk K A.ce Z H []) H9 []) (fun Q9 k9 => ?_) ?_
      ·
        replace hm := h12
        refine w_andV ?_
        refine w_op ?_
        refine w_op ?_
        refine w_var rfl ?_
        refine w_c ?_
        obtain ⟨x15, h16, hm⟩ := bnd hm
        refine r_ixS h16 ?_
        refine w_c ?_
        obtain ⟨x17, h18, hm⟩ := bnd hm
        refine r_inS h18 ?_
        refine w_bl ?_
        refine w_ite (fun h19 => ?_) (fun h19 => ?_)
        ·
          replace hm := ifT h19 hm
          refine w_cb ?_
          refine w_cons ?_
          refine w_lcS ?_
          refine w_var rfl ?_
          refine l_str ?_
          obtain ⟨x21, h20, hm⟩ := bnd hm
          obtain ⟨y22, h23, hm⟩ := bnd hm
          refine lcB (xs := x21) (ys := y22) (f := m_is_name_C1) (w := .str x_text) rfl s0 (str_small h20) h23 (fun _ _ => str_at h20) (fun d32 o31 D24 acc25 w26 H27 h28 s29 g30 R0 R1 k0 k1 => ?_) ?_
          ·
            replace hm := h28
            obtain rfl : V.str d32 = w26 := gv_sc g30
            refine w_name ?_
            refine ⟨rfl, ?_⟩
            refine w_yes ?_
            refine w_tt ?_
            refine w_op ?_
            refine w_var rfl ?_
            refine w_c ?_
            obtain ⟨x33, h34, hm⟩ := bnd hm
            refine r_inS h34 ?_
            cases som hm
            exact k1 _ rfl _ _ (s29.add (.sc _))
          intro p35 H36 s37
          refine w_nil ?_
          refine r_all s37 (k := 0) rfl ?_
          have s38 : S _ _ [] := s37.pick []
          cases som hm
          exact k9 _ _ ⟨rfl, s38⟩
        ·
          replace hm := ifF h19 hm
          cases som hm
          exact k9 _ _ ⟨rfl, s0⟩
      rintro _ H13 ⟨rfl, s14⟩
      cases som hm
      exact k9 _ _ ⟨rfl, s14⟩
    ·
      replace hm := ifF h10 hm
      cases som hm
      exact k9 _ _ ⟨rfl, s0⟩
  rintro _ H3 ⟨rfl, s4⟩
  cases som hm
  exact kQ _ s4
def sp_is_table (K : PySem.W.Frag) (ce : Str → Addr) : Sp := fun vs H Q _ => ∃ (Z : Addr → Prop) (x_text : Str) (r : Bool), vs = [.str x_text] ∧ S (mk K ce Z H []) H [] ∧ m_is_table x_text = some r ∧ ∀ H', S (mk K ce Z H []) H' [] → Q (.bl r) H'
theorem ok_is_table {P : Program} {w : World} {K : PySem.W.Frag} {mg : Str → Option Value} {base : Heap} {A : Ad} (T : Txt K mg A) : FnOk P w K mg base CX0 1 A.f_is_table A.d_is_table ["text"] (sp_is_table K A.ce) := by
  have SC := sc_is_table
  refine T.F_is_table.ok sc_is_table (fun vs H Q E h => ?_) (fun cdv Ar outer s9 H vs Q E hr h => ?_)
  · obtain ⟨_, _, _, rfl, _⟩ := h; rfl
  obtain ⟨Z, x_text, r, rfl, s0, hm, kQ⟩ := h
  refine ⟨_, (pss_one (ps_ret (pe_and (pe_chain op_le op_le pe_int (pe_callB call_lenT (by rfl) T.n_len PySem.boot_len (pa_cons (pv 0) pa_nil)) pe_int) (pe_one (pe_callB (cr_all rfl) (by rfl) T.n_all (by decide +kernel) (pa_cons (pe_lc (own := [("sign", 1)]) (g := gName 1) rfl SC.nd (pi_str (pv 0)) (blkOk_by (own := [("sign", 1)]) (N := N_is_table) (sc := defScope s_is_table) (by decide +kernel)) (fun _ _ _ _ _ => (pg_name (i := 1) SC.nd rfl (by first | exact Or.inl rfl | exact Or.inr rfl))) (fun _ _ _ _ _ => pts_nil) (fun _ _ _ _ _ => (pe_cmpR op_inS (pv 1) (pe_glob (v := .str c_CAPITALS) rfl T.g_CAPITALS.choose_spec ⟨_, rfl⟩) (by rfl)))) pa_nil)))))), ?_⟩
  refine w_ret ?_
  obtain ⟨b1, h2, hm⟩ := bnd hm
  refine cutE (P := fun v H9 => v = .bl b1 ∧ S (mk K A.ce Z H []) H9 []) (fun Q9 k9 => ?_) ?_
  ·
    replace hm := h2
    refine w_andV ?_
    obtain ⟨b5, h6, hm⟩ := bnd hm
    refine cutE (P := fun v H9 => v = .bl b5 ∧ H = H9) (fun Q9 k9 => ?_) ?_
    ·
      replace hm := h6
      refine w_chain ?_
      refine w_c ?_
      refine w_cb ?_
      refine w_cons ?_
      refine w_var rfl ?_
      refine w_nil ?_
      obtain ⟨x7, h8, hm⟩ := bnd hm
      refine r_lenS h8 ?_
      refine r_I0 ?_
      refine w_bl ?_
      refine w_ite (fun h9 => ?_) (fun h9 => ?_)
      ·
        replace hm := ifT h9 hm
        refine w_c ?_
        refine r_I0 ?_
        cases som hm
        exact k9 _ _ ⟨rfl, rfl⟩
      ·
        replace hm := ifF h9 hm
        cases som hm
        exact k9 _ _ ⟨rfl, rfl⟩
    rintro _ _ ⟨rfl, rfl⟩
    refine w_bl ?_
    refine w_ite (fun h10 => ?_) (fun h10 => ?_)
    ·
      replace hm := ifT h10 hm
      refine w_cb ?_
      refine w_cons ?_
      refine w_lcS ?_
      refine w_var rfl ?_
      refine l_str ?_
      obtain ⟨x12, h11, hm⟩ := bnd hm
      obtain ⟨y13, h14, hm⟩ := bnd hm
      refine lcB (xs := x12) (ys := y13) (f := m_is_table_C1) (w := .str x_text) rfl s0 (str_small h11) h14 (fun _ _ => str_at h11) (fun d23 o22 D15 acc16 w17 H18 h19 s20 g21 R0 R1 k0 k1 => ?_) ?_
      ·
        replace hm := h19
        obtain rfl : V.str d23 = w17 := gv_sc g21
        refine w_name ?_
        refine ⟨rfl, ?_⟩
        refine w_yes ?_
        refine w_tt ?_
        refine w_op ?_
        refine w_var rfl ?_
        refine w_c ?_
        obtain ⟨x24, h25, hm⟩ := bnd hm
        refine r_inS h25 ?_
        cases som hm
        exact k1 _ rfl _ _ (s20.add (.sc _))
      intro p26 H27 s28
      refine w_nil ?_
      refine r_all s28 (k := 0) rfl ?_
      have s29 : S _ _ [] := s28.pick []
      cases som hm
      exact k9 _ _ ⟨rfl, s29⟩
    ·
      replace hm := ifF h10 hm
      cases som hm
      exact k9 _ _ ⟨rfl, s0⟩
  rintro _ H3 ⟨rfl, s4⟩
  cases som hm
  exact kQ _ s4
def sp_law_is_name (K : PySem.W.Frag) (ce : Str → Addr) : Sp := fun vs H Q _ => ∃ (Z : Addr → Prop) (x_law_text_here : Str) (r : Bool), vs = [.str x_law_text_here] ∧ S (mk K ce Z H []) H [] ∧ m_law_is_name x_law_text_here = some r ∧ ∀ H', S (mk K ce Z H []) H' [] → Q (.bl r) H'
theorem ok_law_is_name {P : Program} {w : World} {K : PySem.W.Frag} {mg : Str → Option Value} {base : Heap} {A : Ad} (T : Txt K mg A) : FnOk P w K mg base CX0 1 A.f__law_is_name A.d__law_is_name ["_law_text_here"] (sp_law_is_name K A.ce) := by
  have SC := sc_law_is_name
  refine T.F__law_is_name.ok sc_law_is_name (fun vs H Q E h => ?_) (fun cdv Ar outer s9 H vs Q E hr h => ?_)
  · obtain ⟨_, _, _, rfl, _⟩ := h; rfl
  obtain ⟨Z, x_law_text_here, r, rfl, s0, hm, kQ⟩ := h
  refine ⟨_, (pss_cons (ps_if (PW.pt (pw_or (pt_cmpR op_lt (pe_callB call_lenT (by rfl) T.n_len PySem.boot_len (pa_cons (pv 0) pa_nil)) pe_int (nomark _)) (pw_or (pt_cmpR op_gt (pe_callB call_lenT (by rfl) T.n_len PySem.boot_len (pa_cons (pv 0) pa_nil)) pe_int (nomark _)) (pw_or1 (pt_cmpR op_inS (pe_ix ix_str (pv 0) pe_int (fun _ _ => rfl)) pe_str (by rfl)))))) (pss_one (ps_ret pe_bl)) pss_nil)
    (pss_cons (ps_for PassesOwn.never rfl (pi_str (pv 0)) (pg_name (i := 1) SC.nd rfl (by first | exact Or.inl rfl | exact Or.inr rfl)) (pss_one (ps_if (pt_cmpR op_notInS (pv 1) pe_str (by rfl)) (pss_one (ps_ret pe_bl)) pss_nil)))
    (pss_one (ps_ret pe_bl)))), ?_⟩
  refine w_seq [some (.str x_law_text_here), none] rfl ?_
  refine w_if ?_
  obtain ⟨b1, h2, hm⟩ := bnd hm
  refine cutT (P := fun v H9 => v = b1 ∧ S (mk K A.ce Z H []) H9 []) (fun Q9 k9 => ?_) ?_
  ·
    replace hm := h2
    refine w_or ?_
    refine w_test ?_
    refine w_op ?_
    refine w_cb ?_
    refine w_cons ?_
    refine w_var rfl ?_
    refine w_nil ?_
    obtain ⟨x5, h6, hm⟩ := bnd hm
    refine r_lenS h6 ?_
    refine w_c ?_
    refine r_I0 ?_
    refine w_bl ?_
    refine w_ite (fun h7 => ?_) (fun h7 => ?_)
    ·
      replace hm := ifT h7 hm
      cases som hm
      exact k9 _ _ ⟨rfl, s0⟩
    ·
      replace hm := ifF h7 hm
      obtain ⟨b8, h9, hm⟩ := bnd hm
      refine cutT (P := fun v H9 => v = b8 ∧ S (mk K A.ce Z H []) H9 []) (fun Q9 k9 => ?_) ?_
      ·
        replace hm := h9
        refine w_or ?_
        refine w_test ?_
        refine w_op ?_
        refine w_cb ?_
        refine w_cons ?_
        refine w_var rfl ?_
        refine w_nil ?_
        obtain ⟨x12, h13, hm⟩ := bnd hm
        refine r_lenS h13 ?_
        refine w_c ?_
        refine r_I0 ?_
        refine w_bl ?_
        refine w_ite (fun h14 => ?_) (fun h14 => ?_)
        ·
          replace hm := ifT h14 hm
          cases som hm
          exact k9 _ _ ⟨rfl, s0⟩
        ·
          replace hm := ifF h14 hm
          refine w_test ?_
          refine w_op ?_
          refine w_op ?_
          refine w_var rfl ?_
          refine w_c ?_
          obtain ⟨x15, h16, hm⟩ := bnd hm
          refine r_ixS h16 ?_
          refine w_c ?_
          obtain ⟨x17, h18, hm⟩ := bnd hm
          refine r_inS h18 ?_
          refine w_bl ?_
          cases som hm
          exact k9 _ _ ⟨rfl, s0⟩
      rintro _ H10 ⟨rfl, s11⟩
      cases som hm
      exact k9 _ _ ⟨rfl, s11⟩
  rintro _ H3 ⟨rfl, s4⟩
  refine w_ite (fun h19 => ?_) (fun h19 => ?_)
  ·
    replace hm := ifT h19 hm
    refine w_ret ?_
    refine w_c ?_
    cases som hm
    exact kQ _ s4
  ·
    replace hm := ifF h19 hm
    refine w_next ?_
    refine w_seq [some (.str x_law_text_here), none] rfl ?_
    refine w_forS ?_
    refine w_var rfl ?_
    refine l_str ?_
    obtain ⟨x21, h20, hm⟩ := bnd hm
    obtain ⟨r22, h23, hm⟩ := bnd hm
    refine forB (c := (mk K A.ce Z H [])) x21 (w := .str x_law_text_here) rfl (fun l29 σ26 H27 => ∃ (o25 : Option V), σ26 = [some (.str x_law_text_here), o25] ∧ S (mk K A.ce Z H []) H27 [] ∧ loopO l29 () m_law_is_name_L1 = some r22) ?_ ?_ ?_ ?_
    ·
      exact ⟨_, rfl, s4, h23⟩
    ·
      rintro _ _ _ ⟨o25, rfl, s28, h30⟩; exact str_at h20
    ·
      rintro d31 l29 w32 _ H27 ⟨o25, rfl, s28, h30⟩ g33
      obtain ⟨q34, h35, h36, h37, h38⟩ := loop_cons h30
      have h24 := hm
      replace hm := h35
      obtain rfl : V.str d31 = w32 := gv_sc g33
      refine w_name ?_
      refine w_if ?_
      refine w_test ?_
      refine w_op ?_
      refine w_var rfl ?_
      refine w_c ?_
      obtain ⟨x39, h40, hm⟩ := bnd hm
      refine r_notInS h40 ?_
      refine w_bl ?_
      refine w_ite (fun h41 => ?_) (fun h41 => ?_)
      ·
        replace hm := ifT h41 hm
        refine w_ret ?_
        refine w_c ?_
        have e9 := h38 _ (som hm).symm
        rw [e9] at h24
        cases som h24
        exact kQ _ s28
      ·
        replace hm := ifF h41 hm
        refine w_next ?_
        exact ⟨_, rfl, s28, h36 _ (som hm).symm⟩
    ·
      rintro _ H27 ⟨o25, rfl, s28, h30⟩
      cases som h30
      refine w_ret ?_
      refine w_c ?_
      cases som hm
      exact kQ _ s28
def sp_law_is_table (K : PySem.W.Frag) (ce : Str → Addr) : Sp := fun vs H Q _ => ∃ (Z : Addr → Prop) (x_law_text_here : Str) (r : Bool), vs = [.str x_law_text_here] ∧ S (mk K ce Z H []) H [] ∧ m_law_is_table x_law_text_here = some r ∧ ∀ H', S (mk K ce Z H []) H' [] → Q (.bl r) H'
theorem ok_law_is_table {P : Program} {w : World} {K : PySem.W.Frag} {mg : Str → Option Value} {base : Heap} {A : Ad} (T : Txt K mg A) : FnOk P w K mg base CX0 1 A.f__law_is_table A.d__law_is_table ["_law_text_here"] (sp_law_is_table K A.ce) := by
  have SC := sc_law_is_table
  refine T.F__law_is_table.ok sc_law_is_table (fun vs H Q E h => ?_) (fun cdv Ar outer s9 H vs Q E hr h => ?_)
  · obtain ⟨_, _, _, rfl, _⟩ := h; rfl
  obtain ⟨Z, x_law_text_here, r, rfl, s0, hm, kQ⟩ := h
  refine ⟨_, (pss_cons (ps_for PassesOwn.never rfl (pi_str (pv 0)) (pg_name (i := 1) SC.nd rfl (by first | exact Or.inl rfl | exact Or.inr rfl)) (pss_one (ps_if (pt_cmpR op_notInS (pv 1) pe_str (by rfl)) (pss_one (ps_ret pe_bl)) pss_nil)))
    (pss_one (ps_ret (pe_and (pe_cmpR op_gt (pe_callB call_lenT (by rfl) T.n_len PySem.boot_len (pa_cons (pv 0) pa_nil)) pe_int (nomark _)) (pe_one (pe_cmpR op_lt (pe_callB call_lenT (by rfl) T.n_len PySem.boot_len (pa_cons (pv 0) pa_nil)) pe_int (nomark _))))))), ?_⟩
  refine w_seq [some (.str x_law_text_here), none] rfl ?_
  refine w_forS ?_
  refine w_var rfl ?_
  refine l_str ?_
  obtain ⟨x2, h1, hm⟩ := bnd hm
  obtain ⟨r3, h4, hm⟩ := bnd hm
  refine forB (c := (mk K A.ce Z H [])) x2 (w := .str x_law_text_here) rfl (fun l10 σ7 H8 => ∃ (o6 : Option V), σ7 = [some (.str x_law_text_here), o6] ∧ S (mk K A.ce Z H []) H8 [] ∧ loopO l10 () m_law_is_table_L1 = some r3) ?_ ?_ ?_ ?_
  ·
    exact ⟨_, rfl, s0, h4⟩
  ·
    rintro _ _ _ ⟨o6, rfl, s9, h11⟩; exact str_at h1
  ·
    rintro d12 l10 w13 _ H8 ⟨o6, rfl, s9, h11⟩ g14
    obtain ⟨q15, h16, h17, h18, h19⟩ := loop_cons h11
    have h5 := hm
    replace hm := h16
    obtain rfl : V.str d12 = w13 := gv_sc g14
    refine w_name ?_
    refine w_if ?_
    refine w_test ?_
    refine w_op ?_
    refine w_var rfl ?_
    refine w_c ?_
    obtain ⟨x20, h21, hm⟩ := bnd hm
    refine r_notInS h21 ?_
    refine w_bl ?_
    refine w_ite (fun h22 => ?_) (fun h22 => ?_)
    ·
      replace hm := ifT h22 hm
      refine w_ret ?_
      refine w_c ?_
      have e9 := h19 _ (som hm).symm
      rw [e9] at h5
      cases som h5
      exact kQ _ s9
    ·
      replace hm := ifF h22 hm
      refine w_next ?_
      exact ⟨_, rfl, s9, h17 _ (som hm).symm⟩
  ·
    rintro _ H8 ⟨o6, rfl, s9, h11⟩
    cases som h11
    refine w_ret ?_
    obtain ⟨b23, h24, hm⟩ := bnd hm
    refine cutE (P := fun v H9 => v = .bl b23 ∧ S (mk K A.ce Z H []) H9 []) (fun Q9 k9 => ?_) ?_
    ·
      replace hm := h24
      refine w_andV ?_
      refine w_op ?_
      refine w_cb ?_
      refine w_cons ?_
      refine w_var rfl ?_
      refine w_nil ?_
      obtain ⟨x27, h28, hm⟩ := bnd hm
      refine r_lenS h28 ?_
      refine w_c ?_
      refine r_I0 ?_
      refine w_bl ?_
      refine w_ite (fun h29 => ?_) (fun h29 => ?_)
      ·
        replace hm := ifT h29 hm
        refine w_op ?_
        refine w_cb ?_
        refine w_cons ?_
        refine w_var rfl ?_
        refine w_nil ?_
        obtain ⟨x30, h31, hm⟩ := bnd hm
        refine r_lenS h31 ?_
        refine w_c ?_
        refine r_I0 ?_
        cases som hm
        exact k9 _ _ ⟨rfl, s9⟩
      ·
        replace hm := ifF h29 hm
        cases som hm
        exact k9 _ _ ⟨rfl, s9⟩
    rintro _ H25 ⟨rfl, s26⟩
    cases som hm
    exact kQ _ s26
def sp_law (K : PySem.W.Frag) (ce : Str → Addr) : Sp := fun vs H Q _ => ∃ (Z : Addr → Prop) (a_law_script : Addr) (x_law_script : List Int) (r : Bool), vs = [.ref a_law_script] ∧ SqL K H a_law_script (x_law_script.map V.int) ∧ S (mk K ce Z H []) H [] ∧ m_law x_law_script = some r ∧ ∀ H', S (mk K ce Z H []) H' [] → Q (.bl r) H'
theorem ok_law {P : Program} {w : World} {K : PySem.W.Frag} {mg : Str → Option Value} {base : Heap} {A : Ad} (T : Txt K mg A) : FnOk P w K mg base CX0 4 A.f_law A.d_law ["_law_script"] (sp_law K A.ce) := by
  have SC := sc_law
  refine T.F_law.ok sc_law (fun vs H Q E h => ?_) (fun cdv Ar outer s9 H vs Q E hr h => ?_)
  · obtain ⟨_, _, _, _, rfl, _⟩ := h; rfl
  obtain ⟨Z, a_law_script, x_law_script, r, rfl, hS, s0, hm, kQ⟩ := h
  refine ⟨_, (pss_cons (ps_set (i := 1) SC.nd rfl (by first | exact Or.inl rfl | exact Or.inr rfl) (pe_call (ok_law_pool T) (hr.mono (by decide)) rfl T.g__law_pool T.k__law_pool T.b__law_pool .nil pass0 (pa_cons (pv 0) pa_nil)))
    (pss_cons (ps_set (i := 2) SC.nd rfl (by first | exact Or.inl rfl | exact Or.inr rfl) (pe_call (ok_law_text T) (hr.mono (by decide)) rfl T.g__law_text T.k__law_text T.b__law_text .nil pass0 (pa_cons (pv 1) pa_nil)))
    (Evl.pss_cut (ps_if (pt_cmpR op_eq (pe_call (ok_law_take T) (hr.mono (by decide)) rfl T.g__law_take T.k__law_take T.b__law_take .nil pass0 (pa_cons (pv 1) (pa_cons pe_int pa_nil))) pe_int (nomark _)) (pss_one (ps_set (i := 2) SC.nd rfl (by first | exact Or.inl rfl | exact Or.inr rfl) (pe_op op_mulT (pv 2) (pe_op op_add pe_int (pe_call (ok_law_take T) (hr.mono (by decide)) rfl T.g__law_take T.k__law_take T.b__law_take .nil pass0 (pa_cons (pv 1) (pa_cons pe_int pa_nil))))))) pss_nil)
    (pss_cons (ps_set (i := 3) SC.nd rfl (by first | exact Or.inl rfl | exact Or.inr rfl) (pe_call (ok_is_name T) (hr.mono (by decide)) rfl T.g_is_name T.k_is_name T.b_is_name .nil pass0 (pa_cons (pv 2) pa_nil)))
    (pss_cons (ps_set (i := 4) SC.nd rfl (by first | exact Or.inl rfl | exact Or.inr rfl) (pe_call (ok_is_table T) (hr.mono (by decide)) rfl T.g_is_table T.k_is_table T.b_is_table .nil pass0 (pa_cons (pv 2) pa_nil)))
    (pss_cons (ps_if (PW.pt (pw_or (pt_not (pt_val (pe_callB call_isi (by rfl) T.n_isinstance (by decide +kernel) (pa_cons (pv 3) (pa_cons (pe_bltn (v := .ty "bool") (u := .type "bool") (by rfl) T.n_bool (by decide +kernel) rfl) pa_nil))))) (pw_or1 (pt_not (pt_val (pe_callB call_isi (by rfl) T.n_isinstance (by decide +kernel) (pa_cons (pv 4) (pa_cons (pe_bltn (v := .ty "bool") (u := .type "bool") (by rfl) T.n_bool (by decide +kernel) rfl) pa_nil)))))))) (pss_one (ps_ret pe_bl)) pss_nil)
    (pss_one (ps_ret (pe_and (pe_cmpR op_eq (pv 3) (pe_call (ok_law_is_name T) (hr.mono (by decide)) rfl T.g__law_is_name T.k__law_is_name T.b__law_is_name .nil pass0 (pa_cons (pv 2) pa_nil)) (nomark _)) (pe_one (pe_cmpR op_eq (pv 4) (pe_call (ok_law_is_table T) (hr.mono (by decide)) rfl T.g__law_is_table T.k__law_is_table T.b__law_is_table .nil pass0 (pa_cons (pv 2) pa_nil)) (nomark _)))))))))))), ?_⟩
  refine w_seq [some (.ref a_law_script), none, none, none, none] rfl ?_
  refine w_set ?_
  refine w_call ?_
  refine w_cons ?_
  refine w_var rfl ?_
  refine w_nil ?_
  have s1 := s0.pick (E' := [] ++ []) []
  obtain ⟨x2, h3, hm⟩ := bnd hm
  refine ⟨_, _, _, _, rfl, s0.scr hS rfl, s1.enter, h3, fun H4 p7 s5 => ?_⟩
  have s6 : S _ _ [ow p7 (td x2)] := s1.leave s5
  refine w_seq [some (.ref a_law_script), some (.ref p7), none, none, none] rfl ?_
  refine w_set ?_
  refine w_call ?_
  refine w_cons ?_
  refine w_var rfl ?_
  refine w_nil ?_
  have s8 := s6.pick (E' := [ow p7 (td x2)] ++ []) [0]
  obtain ⟨⟨x9, y10⟩, h11, hm⟩ := bnd hm
  refine ⟨_, _, _, _, _, rfl, s8.enter, h11, fun H12 s13 => ?_⟩
  have s14 : S _ _ [ow p7 (td y10)] := s8.leave s13
  obtain ⟨⟨y15, x16⟩, h17, hm⟩ := bnd hm
  refine w_cut [some (.ref a_law_script), some (.ref p7), some (.str x9), none, none] rfl (fun σ20 H18 => σ20 = [some (.ref a_law_script), some (.ref p7), some (.str x16), none, none] ∧ S (mk K A.ce Z H []) H18 [ow p7 (td y15)]) ?_ ?_
  ·
    replace hm := h17
    refine w_if ?_
    refine w_test ?_
    refine w_op ?_
    refine w_call ?_
    refine w_cons ?_
    refine w_var rfl ?_
    refine w_cons ?_
    refine w_c ?_
    refine w_nil ?_
    have s21 := s14.pick (E' := [ow p7 (td y10)] ++ []) [0]
    obtain ⟨⟨x22, y23⟩, h24, hm⟩ := bnd hm
    refine ⟨_, _, _, _, _, _, rfl, s21.enter, h24, fun H25 s26 => ?_⟩
    have s27 : S _ _ [ow p7 (td y23)] := s21.leave s26
    refine w_c ?_
    refine r_eqI ?_
    refine w_bl ?_
    refine w_ite (fun h28 => ?_) (fun h28 => ?_)
    ·
      replace hm := ifT h28 hm
      refine w_set ?_
      refine w_op ?_
      refine w_var rfl ?_
      refine w_op ?_
      refine w_c ?_
      refine w_call ?_
      refine w_cons ?_
      refine w_var rfl ?_
      refine w_cons ?_
      refine w_c ?_
      refine w_nil ?_
      have s29 := s27.pick (E' := [ow p7 (td y23)] ++ []) [0]
      obtain ⟨⟨x30, y31⟩, h32, hm⟩ := bnd hm
      refine ⟨_, _, _, _, _, _, rfl, s29.enter, h32, fun H33 s34 => ?_⟩
      have s35 : S _ _ [ow p7 (td y31)] := s29.leave s34
      refine r_I0 ?_
      obtain ⟨x36, h37, hm⟩ := bnd hm
      refine r_mulS h37 ?_
      cases som hm
      exact ⟨rfl, s35⟩
    ·
      replace hm := ifF h28 hm
      refine w_next ?_
      cases som hm
      exact ⟨rfl, s27⟩
  rintro _ H18 ⟨rfl, s19⟩
  refine w_seq [some (.ref a_law_script), some (.ref p7), some (.str x16), none, none] rfl ?_
  refine w_set ?_
  refine w_call ?_
  refine w_cons ?_
  refine w_var rfl ?_
  refine w_nil ?_
  have s38 := s19.pick (E' := [] ++ [ow p7 (td y15)]) [0]
  obtain ⟨x39, h40, hm⟩ := bnd hm
  refine ⟨_, _, _, rfl, s38.enter, h40, fun H41 s42 => ?_⟩
  have s43 : S _ _ [ow p7 (td y15)] := s38.leave s42
  refine w_seq [some (.ref a_law_script), some (.ref p7), some (.str x16), some (.bl x39), none] rfl ?_
  refine w_set ?_
  refine w_call ?_
  refine w_cons ?_
  refine w_var rfl ?_
  refine w_nil ?_
  have s44 := s43.pick (E' := [] ++ [ow p7 (td y15)]) [0]
  obtain ⟨x45, h46, hm⟩ := bnd hm
  refine ⟨_, _, _, rfl, s44.enter, h46, fun H47 s48 => ?_⟩
  have s49 : S _ _ [ow p7 (td y15)] := s44.leave s48
  refine w_seq [some (.ref a_law_script), some (.ref p7), some (.str x16), some (.bl x39), some (.bl x45)] rfl ?_
  refine w_if ?_
  obtain ⟨b50, h51, hm⟩ := bnd hm
  refine cutT (P := fun v H9 => v = b50 ∧ S (mk K A.ce Z H []) H9 [ow p7 (td y15)]) (fun Q9 k9 => ?_) ?_
  ·
    replace hm := h51
    refine w_or ?_
    refine w_not ?_
    refine w_B ?_
    refine w_cb ?_
    refine w_cons ?_
    refine w_var rfl ?_
    refine w_cons ?_
    refine w_c ?_
    refine w_nil ?_
    refine r_isi (b := true) (.bl _) (by decide +kernel) ?_
    refine w_bl ?_
    refine w_ite (fun h54 => ?_) (fun h54 => ?_)
    ·
      replace hm := ifT h54 hm
      cases som hm
      exact k9 _ _ ⟨rfl, s49⟩
    ·
      replace hm := ifF h54 hm
      refine w_not ?_
      refine w_B ?_
      refine w_cb ?_
      refine w_cons ?_
      refine w_var rfl ?_
      refine w_cons ?_
      refine w_c ?_
      refine w_nil ?_
      refine r_isi (b := true) (.bl _) (by decide +kernel) ?_
      refine w_bl ?_
      cases som hm
      exact k9 _ _ ⟨rfl, s49⟩
  rintro _ H52 ⟨rfl, s53⟩
  refine w_ite (fun h55 => ?_) (fun h55 => ?_)
  ·
    replace hm := ifT h55 hm
    refine w_ret ?_
    refine w_c ?_
    cases som hm
    have s56 : S _ _ [] := s53.pick []
    exact kQ _ s56
  ·
    replace hm := ifF h55 hm
    refine w_next ?_
    refine w_ret ?_
    obtain ⟨b57, h58, hm⟩ := bnd hm
    refine cutE (P := fun v H9 => v = .bl b57 ∧ S (mk K A.ce Z H []) H9 [ow p7 (td y15)]) (fun Q9 k9 => ?_) ?_
    ·
      replace hm := h58
      refine w_andV ?_
      refine w_op ?_
      refine w_var rfl ?_
      refine w_call ?_
      refine w_cons ?_
      refine w_var rfl ?_
      refine w_nil ?_
      have s61 := s53.pick (E' := [] ++ [ow p7 (td y15)]) [0]
      obtain ⟨x62, h63, hm⟩ := bnd hm
      refine ⟨_, _, _, rfl, s61.enter, h63, fun H64 s65 => ?_⟩
      have s66 : S _ _ [ow p7 (td y15)] := s61.leave s65
      refine r_eqB ?_
      refine w_bl ?_
      refine w_ite (fun h67 => ?_) (fun h67 => ?_)
      ·
        replace hm := ifT h67 hm
        refine w_op ?_
        refine w_var rfl ?_
        refine w_call ?_
        refine w_cons ?_
        refine w_var rfl ?_
        refine w_nil ?_
        have s68 := s66.pick (E' := [] ++ [ow p7 (td y15)]) [0]
        obtain ⟨x69, h70, hm⟩ := bnd hm
        refine ⟨_, _, _, rfl, s68.enter, h70, fun H71 s72 => ?_⟩
        have s73 : S _ _ [ow p7 (td y15)] := s68.leave s72
        refine r_eqB ?_
        cases som hm
        exact k9 _ _ ⟨rfl, s73⟩
      ·
        replace hm := ifF h67 hm
        cases som hm
        exact k9 _ _ ⟨rfl, s66⟩
    rintro _ H59 ⟨rfl, s60⟩
    cases som hm
    have s74 : S _ _ [] := s60.pick []
    exact kQ _ s74
end My

namespace My
open PySem L2 FB
theorem all_mk {l : PySem.W.OpenLaw} {w : World} {K : PySem.W.Frag} {h : Heap} {mg : Str → Option Value} {fa : Addr} (X : K.In h) (G : h.Ns mainGlobals mg) (hfa : mg "law" = some (.ref fa))
    {f0 : Addr} {od0 an0 : Option Addr} {sl0 : Array (Option Value)} {oc0 kV0 dc0 pm0 cd0 ct0 : Value}
    (a0 : PySem.W.nsIn K mainGlobals "_law_pool" = some (some (.ref f0))) (l0 : K.lookup f0 = some ⟨oc0, od0, .func (PySem.W.fnOf "_law_pool" "_law_pool" (defArgs s_law_pool) (defBody s_law_pool) (defScope s_law_pool) .none kV0 dc0 pm0 an0 cd0 ct0), sl0⟩) (c0 : PySem.W.codeIn K cd0 "_law_pool" = true) (k0 : PySem.W.keepIn K (.ref f0) = true)
    {f1 : Addr} {od1 an1 : Option Addr} {sl1 : Array (Option Value)} {oc1 kV1 dc1 pm1 cd1 ct1 : Value}
    (a1 : PySem.W.nsIn K mainGlobals "_law_take" = some (some (.ref f1))) (l1 : K.lookup f1 = some ⟨oc1, od1, .func (PySem.W.fnOf "_law_take" "_law_take" (defArgs s_law_take) (defBody s_law_take) (defScope s_law_take) .none kV1 dc1 pm1 an1 cd1 ct1), sl1⟩) (c1 : PySem.W.codeIn K cd1 "_law_take" = true) (k1 : PySem.W.keepIn K (.ref f1) = true)
    {f2 : Addr} {od2 an2 : Option Addr} {sl2 : Array (Option Value)} {oc2 kV2 dc2 pm2 cd2 ct2 : Value}
    (a2 : PySem.W.nsIn K mainGlobals "_law_sign" = some (some (.ref f2))) (l2 : K.lookup f2 = some ⟨oc2, od2, .func (PySem.W.fnOf "_law_sign" "_law_sign" (defArgs s_law_sign) (defBody s_law_sign) (defScope s_law_sign) .none kV2 dc2 pm2 an2 cd2 ct2), sl2⟩) (c2 : PySem.W.codeIn K cd2 "_law_sign" = true) (k2 : PySem.W.keepIn K (.ref f2) = true)
    {f3 : Addr} {od3 an3 : Option Addr} {sl3 : Array (Option Value)} {oc3 kV3 dc3 pm3 cd3 ct3 : Value}
    (a3 : PySem.W.nsIn K mainGlobals "_law_text" = some (some (.ref f3))) (l3 : K.lookup f3 = some ⟨oc3, od3, .func (PySem.W.fnOf "_law_text" "_law_text" (defArgs s_law_text) (defBody s_law_text) (defScope s_law_text) .none kV3 dc3 pm3 an3 cd3 ct3), sl3⟩) (c3 : PySem.W.codeIn K cd3 "_law_text" = true) (k3 : PySem.W.keepIn K (.ref f3) = true)
    {f4 : Addr} {od4 an4 : Option Addr} {sl4 : Array (Option Value)} {oc4 kV4 dc4 pm4 cd4 ct4 : Value}
    (a4 : PySem.W.nsIn K mainGlobals "is_name" = some (some (.ref f4))) (l4 : K.lookup f4 = some ⟨oc4, od4, .func (PySem.W.fnOf "is_name" "is_name" (defArgs s_is_name) (defBody s_is_name) (defScope s_is_name) .none kV4 dc4 pm4 an4 cd4 ct4), sl4⟩) (c4 : PySem.W.codeIn K cd4 "is_name" = true) (k4 : PySem.W.keepIn K (.ref f4) = true)
    {f5 : Addr} {od5 an5 : Option Addr} {sl5 : Array (Option Value)} {oc5 kV5 dc5 pm5 cd5 ct5 : Value}
    (a5 : PySem.W.nsIn K mainGlobals "is_table" = some (some (.ref f5))) (l5 : K.lookup f5 = some ⟨oc5, od5, .func (PySem.W.fnOf "is_table" "is_table" (defArgs s_is_table) (defBody s_is_table) (defScope s_is_table) .none kV5 dc5 pm5 an5 cd5 ct5), sl5⟩) (c5 : PySem.W.codeIn K cd5 "is_table" = true) (k5 : PySem.W.keepIn K (.ref f5) = true)
    {f6 : Addr} {od6 an6 : Option Addr} {sl6 : Array (Option Value)} {oc6 kV6 dc6 pm6 cd6 ct6 : Value}
    (a6 : PySem.W.nsIn K mainGlobals "_law_is_name" = some (some (.ref f6))) (l6 : K.lookup f6 = some ⟨oc6, od6, .func (PySem.W.fnOf "_law_is_name" "_law_is_name" (defArgs s_law_is_name) (defBody s_law_is_name) (defScope s_law_is_name) .none kV6 dc6 pm6 an6 cd6 ct6), sl6⟩) (c6 : PySem.W.codeIn K cd6 "_law_is_name" = true) (k6 : PySem.W.keepIn K (.ref f6) = true)
    {f7 : Addr} {od7 an7 : Option Addr} {sl7 : Array (Option Value)} {oc7 kV7 dc7 pm7 cd7 ct7 : Value}
    (a7 : PySem.W.nsIn K mainGlobals "_law_is_table" = some (some (.ref f7))) (l7 : K.lookup f7 = some ⟨oc7, od7, .func (PySem.W.fnOf "_law_is_table" "_law_is_table" (defArgs s_law_is_table) (defBody s_law_is_table) (defScope s_law_is_table) .none kV7 dc7 pm7 an7 cd7 ct7), sl7⟩) (c7 : PySem.W.codeIn K cd7 "_law_is_table" = true) (k7 : PySem.W.keepIn K (.ref f7) = true)
    {f8 : Addr} {od8 an8 : Option Addr} {sl8 : Array (Option Value)} {oc8 kV8 dc8 pm8 cd8 ct8 : Value}
    (a8 : PySem.W.nsIn K mainGlobals "law" = some (some (.ref f8))) (l8 : K.lookup f8 = some ⟨oc8, od8, .func (PySem.W.fnOf "law" "law" (defArgs s_law) (defBody s_law) (defScope s_law) .none kV8 dc8 pm8 an8 cd8 ct8), sl8⟩) (c8 : PySem.W.codeIn K cd8 "law" = true) (k8 : PySem.W.keepIn K (.ref f8) = true)
    (z0 : PySem.W.nsIn K mainGlobals "abs" = some none)
    (z1 : PySem.W.nsIn K mainGlobals "all" = some none)
    (z2 : PySem.W.nsIn K mainGlobals "bool" = some none)
    (z3 : PySem.W.nsIn K mainGlobals "int" = some none)
    (z4 : PySem.W.nsIn K mainGlobals "isinstance" = some none)
    (z5 : PySem.W.nsIn K mainGlobals "len" = some none)
    (z6 : PySem.W.nsIn K mainGlobals "range" = some none)
    {t0 : Tok} (e0 : PySem.W.nsIn K mainGlobals "LETTERS" = some (some (.str c_LETTERS t0)))
    {t1 : Tok} (e1 : PySem.W.nsIn K mainGlobals "CAPITALS" = some (some (.str c_CAPITALS t1)))
    {t2 : Tok} (e2 : PySem.W.nsIn K mainGlobals "SIGNS" = some (some (.str c_SIGNS t2)))
    : ∃ (A : Ad) (fd : FuncData), (∀ (s : Shared) (v : Value), BindsTo s fd ⟨[v], []⟩ [("_law_script", v)]) ∧ ∀ base : Heap, K.In base → base.Ns mainGlobals mg → FnOk l.prog w K mg base CX0 4 fa fd ["_law_script"] (sp_law K A.ce) := by
  have e := hfa.symm.trans (PySem.W.mg_of X G a8)
  cases e
  have F0 := fun_mk (st := s_law_pool) l0 c0 k0
  have b0 := F0.binds (ps := ["_law_script"]) fun _ _ _ _ _ _ us hl => match us, hl with | [_], _ => rfl
  have F1 := fun_mk (st := s_law_take) l1 c1 k1
  have b1 := F1.binds (ps := ["_law_pool_here", "_law_many"]) fun _ _ _ _ _ _ us hl => match us, hl with | [_, _], _ => rfl
  have F2 := fun_mk (st := s_law_sign) l2 c2 k2
  have b2 := F2.binds (ps := ["_law_pool_here"]) fun _ _ _ _ _ _ us hl => match us, hl with | [_], _ => rfl
  have F3 := fun_mk (st := s_law_text) l3 c3 k3
  have b3 := F3.binds (ps := ["_law_pool_here"]) fun _ _ _ _ _ _ us hl => match us, hl with | [_], _ => rfl
  have F4 := fun_mk (st := s_is_name) l4 c4 k4
  have b4 := F4.binds (ps := ["text"]) fun _ _ _ _ _ _ us hl => match us, hl with | [_], _ => rfl
  have F5 := fun_mk (st := s_is_table) l5 c5 k5
  have b5 := F5.binds (ps := ["text"]) fun _ _ _ _ _ _ us hl => match us, hl with | [_], _ => rfl
  have F6 := fun_mk (st := s_law_is_name) l6 c6 k6
  have b6 := F6.binds (ps := ["_law_text_here"]) fun _ _ _ _ _ _ us hl => match us, hl with | [_], _ => rfl
  have F7 := fun_mk (st := s_law_is_table) l7 c7 k7
  have b7 := F7.binds (ps := ["_law_text_here"]) fun _ _ _ _ _ _ us hl => match us, hl with | [_], _ => rfl
  have F8 := fun_mk (st := s_law) l8 c8 k8
  have b8 := F8.binds (ps := ["_law_script"]) fun _ _ _ _ _ _ us hl => match us, hl with | [_], _ => rfl
  have T : Txt K mg ⟨fun _ => 0, f0, _, f1, _, f2, _, f3, _, f4, _, f5, _, f6, _, f7, _, fa, _⟩ := ⟨F0, PySem.W.mg_of X G a0, k0, b0, F1, PySem.W.mg_of X G a1, k1, b1, F2, PySem.W.mg_of X G a2, k2, b2, F3, PySem.W.mg_of X G a3, k3, b3, F4, PySem.W.mg_of X G a4, k4, b4, F5, PySem.W.mg_of X G a5, k5, b5, F6, PySem.W.mg_of X G a6, k6, b6, F7, PySem.W.mg_of X G a7, k7, b7, F8, PySem.W.mg_of X G a8, k8, b8, PySem.W.mg_none_of X G z0, PySem.W.mg_none_of X G z1, PySem.W.mg_none_of X G z2, PySem.W.mg_none_of X G z3, PySem.W.mg_none_of X G z4, PySem.W.mg_none_of X G z5, PySem.W.mg_none_of X G z6, ⟨_, PySem.W.mg_of X G e0⟩, ⟨_, PySem.W.mg_of X G e1⟩, ⟨_, PySem.W.mg_of X G e2⟩⟩
  exact ⟨_, _, fun s v => .of_eq rfl, fun base _ _ => ok_law T⟩
/-- the law of plain Lean is all that is left -/
theorem walk {l : PySem.W.OpenLaw} {q : Program} {loose : List Str} {XP : (Str → Option Value) → Heap → Prop} {YP : World → Heap → Prop} {d : DefRec} {K : Params → PySem.W.Frag} (hn : l.most = some 63) (hdf : d.params.defaults = [])
    (hY : ∀ (w : World) (h : Heap), YP w h → (K w.params).In h)
    (F : ∀ (w : World) (mg : Str → Option Value) (fa : Addr) (h : Heap), (K w.params).In h → h.Ns mainGlobals mg → mg d.name = some (.ref fa) →
      ∃ (A : Ad) (fd : FuncData), (∀ (s : Shared) (u : Value), BindsTo s fd ⟨[u], []⟩ [("_law_script", u)]) ∧ ∀ base : Heap, (K w.params).In base → base.Ns mainGlobals mg → FnOk l.prog w (K w.params) mg base CX0 4 fa fd ["_law_script"] (sp_law (K w.params) A.ce)) :
    PySem.W.WalkO q loose XP YP l.row.toRowW d [] (fun f vs => PySem.call f vs) := by
  refine L2.walk_of (n := 63) (k := 4) (x := "_law_script") (K := K) (CX := fun _ => CX0) (sp := fun w vs H Q E => ∀ ce, sp_law (K w.params) ce vs H Q E) hn (by decide) hdf ⟨rfl, by decide, by decide⟩ hY (fun w mg fa h X G hm => ?_) (fun w H a ns hl _ hS ce => ?_) fun _ _ _ _ _ z => z
  · obtain ⟨A, fd, hb, hF⟩ := F w mg fa h X G hm
    exact ⟨fd, hb, fun base h1 h2 => FnOk.imp (hF base h1 h2) fun vs H Q E h => h A.ce⟩
  · exact ⟨fun _ => False, a, ns, true, rfl, hS, S.none, law_true ns hl, fun H' _ => rfl⟩
end My
open PySem PySem.W PyProof.Rows
set_option maxRecDepth 100000 in
set_option maxHeartbeats 0 in
theorem PySem.Challenge.cw_foldbelow_k01_names_and_tables_holds : PySem.Challenge.rw_foldbelow_k01_names_and_tables.Holds := by
  w_on; o_law; k_head; (case hw => w_witness2)
  k_fill
  refine My.walk (l := PySem.Challenge.rw_foldbelow_k01_names_and_tables) rfl rfl (fun w h Y => PySem.W.kIn_of Y) ?F
  case F =>
    intro w mg fa h KX G hmg
    refine' My.all_mk KX G hmg ?a0 ?l0 ?c0 ?k0 ?a1 ?l1 ?c1 ?k1 ?a2 ?l2 ?c2 ?k2 ?a3 ?l3 ?c3 ?k3 ?a4 ?l4 ?c4 ?k4 ?a5 ?l5 ?c5 ?k5 ?a6 ?l6 ?c6 ?k6 ?a7 ?l7 ?c7 ?k7 ?a8 ?l8 ?c8 ?k8 ?z0 ?z1 ?z2 ?z3 ?z4 ?z5 ?z6 ?e0 ?e1 ?e2
    (case a0 => k_is)
    (case l0 => k_is)
    (case c0 => k_is)
    (case k0 => k_is)
    (case a1 => k_is)
    (case l1 => k_is)
    (case c1 => k_is)
    (case k1 => k_is)
    (case a2 => k_is)
    (case l2 => k_is)
    (case c2 => k_is)
    (case k2 => k_is)
    (case a3 => k_is)
    (case l3 => k_is)
    (case c3 => k_is)
    (case k3 => k_is)
    (case a4 => k_is)
    (case l4 => k_is)
    (case c4 => k_is)
    (case k4 => k_is)
    (case a5 => k_is)
    (case l5 => k_is)
    (case c5 => k_is)
    (case k5 => k_is)
    (case a6 => k_is)
    (case l6 => k_is)
    (case c6 => k_is)
    (case k6 => k_is)
    (case a7 => k_is)
    (case l7 => k_is)
    (case c7 => k_is)
    (case k7 => k_is)
    (case a8 => k_is)
    (case l8 => k_is)
    (case c8 => k_is)
    (case k8 => k_is)
    (case z0 => k_is)
    (case z1 => k_is)
    (case z2 => k_is)
    (case z3 => k_is)
    (case z4 => k_is)
    (case z5 => k_is)
    (case z6 => k_is)
    (case e0 => k_is)
    (case e1 => k_is)
    (case e2 => k_is)
