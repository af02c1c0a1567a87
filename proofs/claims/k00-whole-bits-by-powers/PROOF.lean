import PyProof.Rows.All
import HandS.ForMost
import HandS.ForExc
import HandS.Style
import HandS.DictComp
import HandS.Defaults
import HandS.Walk
import KE.GoesEnum
import HandS.TupAny
import HandS.TupMul
import HandS.Wide
import HandS.TupLe
import HandS.IsInst
import HandS.Codes
import HandS.Conv
import HandS.SortInts
import HandS.RaiseMore
import PySem.Challenge.RW_tightstreams_k00_whole_bits_by_powers
import HandS.Head0
import HandS.Head1
import HandS.Head2
import HandS.HeadEnd
import HandS.HeadHook1
import HandS.HeadHook2
set_option Elab.async false
set_option linter.all false
set_option maxRecDepth 100000
set_option maxHeartbeats 4000000
namespace DL
open PySem PySem.Spec PyProof.Rows L2

/-- data: what a value is, all the way down; .v (.ref a) is a thing that may change, told by the store -/
inductive D where
  | v (x : V)
  | tup (l : List D)
  | lst (l : List D)
  | dic (ks : List Key) (l : List D)
  | dct (ks : List (List Key)) (l : List D)
  | ins (C : Addr) (fs : List Str) (l : List D)
  | scr (l : List D)

abbrev dN : D := .v .non
abbrev dB (b : Bool) : D := .v (.bl b)
abbrev dI (i : Int) : D := .v (.int i)
abbrev dS (l : List Nat) : D := .v (.str ⟨l.toArray⟩)
abbrev dR (a : Addr) : D := .v (.ref a)

abbrev Sto := Addr → Option D
def sup (S : Sto) (a : Addr) (d : D) : Sto := fun b => if b = a then some d else S b
theorem sup_same {S : Sto} {a : Addr} {d : D} : sup S a d a = some d := by unfold sup; rw [if_pos rfl]
theorem sup_ne {S : Sto} {a b : Addr} {d : D} (h : b ≠ a) : sup S a d b = S b := by unfold sup; rw [if_neg h]
theorem sup_sup {S : Sto} {a : Addr} {d e : D} : sup (sup S a d) a e = sup S a e := by
  funext b; unfold sup; split <;> rfl
def Sub (S' S : Sto) : Prop := ∀ a, S' a = none ∨ S' a = S a
theorem Sub.refl (S : Sto) : Sub S S := fun _ => .inr rfl
theorem Sub.sup {S : Sto} {a : Addr} {d : D} (h : S a = none) : Sub S (sup S a d) := fun b => by
  by_cases e : b = a
  · subst e; exact .inl h
  · exact .inr (sup_ne e).symm
theorem Sub.trans {A B C : Sto} (h : Sub A B) (k : Sub B C) : Sub A C := fun a => by
  rcases h a with e | e
  · exact .inl e
  · rcases k a with f | f
    · exact .inl (e.trans f)
    · exact .inr (e.trans f)

/-! ### data stands for values -/
section
variable (K : PySem.W.Frag) (S : Sto) (F : Addr → Prop) (H : Hp)
/-- a thing that nobody changes any more -/
def At (a : Addr) (u : HO) : Prop := Rd H a u ∧ S a = none ∧ ¬ F a
def KTup (a : Addr) (xs : List V) : Prop := ∃ (o : Obj) (its : Array Value) (n : Nat), K.lookup a = some o ∧ o.cls = .type "tuple" ∧ o.data = .seq its n ∧ its.size ≤ sizeLine ∧ Vals xs its.toList
def KLst (a : Addr) (xs : List V) : Prop := ∃ (o : Obj) (its : Array Value) (n : Nat), K.lookup a = some o ∧ o.cls = .type "list" ∧ o.dict = none ∧ o.data = .seq its n ∧ its.size ≤ sizeLine ∧ Vals xs its.toList
mutual
def RepV : D → V → Prop
  | .v x, y => y = x
  | .tup l, y => ∃ a vs, y = .ref a ∧ (At S F H a (.tup vs) ∨ KTup K a vs) ∧ RepVs l vs
  | .lst l, y => ∃ a vs, y = .ref a ∧ H a = some (.lst vs) ∧ S a = none ∧ ¬ F a ∧ RepVs l vs
  | .dic ks l, y => ∃ a kvs, y = .ref a ∧ At S F H a (.dK kvs) ∧ kvs.map (·.1) = ks ∧ RepVs l (kvs.map (·.2))
  | .dct ks l, y => ∃ a kvs, y = .ref a ∧ At S F H a (.dT kvs) ∧ kvs.map (·.1) = ks ∧ RepVs l (kvs.map (·.2))
  | .ins _ _ _, _ => False
  | .scr l, y => ∃ a vs, y = .ref a ∧ ((∃ o, H a = some (.frz o (.lst vs)) ∧ S a = none ∧ ¬ F a) ∨ KLst K a vs) ∧ RepVs l vs
def RepVs : List D → List V → Prop
  | [], vs => vs = []
  | d :: l, vs => ∃ x r, vs = x :: r ∧ RepV d x ∧ RepVs l r
end
def RepO : HO → D → Prop
  | .lst vs, .lst l => RepVs K S F H l vs
  | .dK kvs, .dic ks l => kvs.map (·.1) = ks ∧ RepVs K S F H l (kvs.map (·.2))
  | .dT kvs, .dct ks l => kvs.map (·.1) = ks ∧ RepVs K S F H l (kvs.map (·.2))
  | .ins C _ fs, .ins C' ks l => C = C' ∧ fs.map (·.1) = ks ∧ RepVs K S F H l (fs.map (·.2))
  | _, _ => False
structure Ok : Prop where
  rep : ∀ a d, S a = some d → ¬ F a ∧ ∃ o, H a = some o ∧ RepO K S F H o d
  hid : ∀ a, F a → ∃ o, H a = some o
end

section
variable {K : PySem.W.Frag} {S S' S1 S2 : Sto} {F F' : Addr → Prop} {H H' H1 H2 : Hp}
def Keep (S : Sto) (F : Addr → Prop) (H : Hp) (S' : Sto) (F' : Addr → Prop) (H' : Hp) : Prop :=
  ∀ a o, H a = some o → S a = none → ¬ F a → H' a = some o ∧ S' a = none ∧ ¬ F' a
theorem Keep.at {a : Addr} {u : HO} (k : Keep S F H S' F' H') (h : At S F H a u) : At S' F' H' a u := by
  obtain ⟨r, s, f⟩ := h
  rcases r with r | ⟨o, r⟩
  · obtain ⟨h1, h2, h3⟩ := k a _ r s f
    exact ⟨.inl h1, h2, h3⟩
  · obtain ⟨h1, h2, h3⟩ := k a _ r s f
    exact ⟨.inr ⟨o, h1⟩, h2, h3⟩
mutual
theorem RepV.keep (k : Keep S F H S' F' H') : ∀ (d : D) (v : V), RepV K S F H d v → RepV K S' F' H' d v
  | .v _, _, h => h
  | .tup l, _, h => by
    obtain ⟨a, vs, e, t, r⟩ := h
    exact ⟨a, vs, e, t.imp (fun t => k.at t) id, RepVs.keep k l vs r⟩
  | .lst l, _, h => by
    obtain ⟨a, vs, e, t, s, f, r⟩ := h
    obtain ⟨h1, h2, h3⟩ := k a _ t s f
    exact ⟨a, vs, e, h1, h2, h3, RepVs.keep k l vs r⟩
  | .dic ks l, _, h => by
    obtain ⟨a, kvs, e, t, q, r⟩ := h
    exact ⟨a, kvs, e, k.at t, q, RepVs.keep k l _ r⟩
  | .dct ks l, _, h => by
    obtain ⟨a, kvs, e, t, q, r⟩ := h
    exact ⟨a, kvs, e, k.at t, q, RepVs.keep k l _ r⟩
  | .ins _ _ _, _, h => h.elim
  | .scr l, _, h => by
    obtain ⟨a, vs, e, ⟨o, t, s, f⟩ | t, r⟩ := h
    · obtain ⟨h1, h2, h3⟩ := k a _ t s f
      exact ⟨a, vs, e, .inl ⟨o, h1, h2, h3⟩, RepVs.keep k l vs r⟩
    · exact ⟨a, vs, e, .inr t, RepVs.keep k l vs r⟩
theorem RepVs.keep (k : Keep S F H S' F' H') : ∀ (l : List D) (vs : List V), RepVs K S F H l vs → RepVs K S' F' H' l vs
  | [], _, h => h
  | d :: l, _, h => by
    obtain ⟨x, r, e, h1, h2⟩ := h
    exact ⟨x, r, e, RepV.keep k d x h1, RepVs.keep k l r h2⟩
end
theorem RepO.keep (k : Keep S F H S' F' H') {o : HO} {d : D} (h : RepO K S F H o d) : RepO K S' F' H' o d := by
  cases o <;> cases d <;> first | exact h.elim | skip
  · exact RepVs.keep k _ _ h
  · exact ⟨h.1, RepVs.keep k _ _ h.2⟩
  · exact ⟨h.1, RepVs.keep k _ _ h.2⟩
  · exact ⟨h.1, h.2.1, RepVs.keep k _ _ h.2.2⟩
theorem RepVs.length : ∀ {l : List D} {vs : List V}, RepVs K S F H l vs → vs.length = l.length
  | [], _, h => by rw [show _ = [] from h]; rfl
  | d :: l, _, h => by
    obtain ⟨x, r, e, h1, h2⟩ := h
    rw [e, List.length_cons, List.length_cons, RepVs.length h2]
theorem RepVs.get : ∀ {l : List D} {vs : List V} {i : Nat} {d : D}, RepVs K S F H l vs → l[i]? = some d → ∃ v, vs[i]? = some v ∧ RepV K S F H d v
  | [], _, _, _, _, e => by simp at e
  | d :: l, _, 0, d', h, e => by
    obtain ⟨x, r, rfl, h1, h2⟩ := h
    have e' : d = d' := by simpa using e
    exact ⟨x, rfl, e' ▸ h1⟩
  | d :: l, _, i + 1, d', h, e => by
    obtain ⟨x, r, rfl, h1, h2⟩ := h
    obtain ⟨v, g1, g2⟩ := RepVs.get (i := i) h2 (by simpa using e)
    exact ⟨v, by simpa using g1, g2⟩
theorem RepVs.append : ∀ {l m : List D} {vs ws : List V}, RepVs K S F H l vs → RepVs K S F H m ws → RepVs K S F H (l ++ m) (vs ++ ws)
  | [], _, _, _, h, k => by rw [show _ = [] from h]; exact k
  | d :: l, m, _, ws, h, k => by
    obtain ⟨x, r, rfl, h1, h2⟩ := h
    exact ⟨x, r ++ ws, rfl, h1, RepVs.append h2 k⟩
theorem RepVs.take : ∀ {l : List D} {vs : List V} (n : Nat), RepVs K S F H l vs → RepVs K S F H (l.take n) (vs.take n)
  | l, vs, 0, h => by rw [List.take_zero, List.take_zero]; exact rfl
  | [], _, n + 1, h => by rw [show _ = [] from h]; exact rfl
  | d :: l, _, n + 1, h => by
    obtain ⟨x, r, rfl, h1, h2⟩ := h
    exact ⟨x, r.take n, rfl, h1, RepVs.take n h2⟩
theorem RepVs.drop : ∀ {l : List D} {vs : List V} (n : Nat), RepVs K S F H l vs → RepVs K S F H (l.drop n) (vs.drop n)
  | l, vs, 0, h => by rw [List.drop_zero, List.drop_zero]; exact h
  | [], _, n + 1, h => by rw [show _ = [] from h]; exact rfl
  | d :: l, _, n + 1, h => by
    obtain ⟨x, r, rfl, h1, h2⟩ := h
    exact RepVs.drop n h2
theorem RepVs.set : ∀ {l : List D} {vs : List V} {d : D} {v : V} (i : Nat), RepV K S F H d v → RepVs K S F H l vs → RepVs K S F H (l.set i d) (vs.set i v)
  | [], _, _, _, i, _, h => by rw [show _ = [] from h]; exact rfl
  | d :: l, _, e, v, 0, h, k => by
    obtain ⟨x, r, rfl, h1, h2⟩ := k
    exact ⟨v, r, rfl, h, h2⟩
  | d :: l, _, e, v, i + 1, h, k => by
    obtain ⟨x, r, rfl, h1, h2⟩ := k
    exact ⟨x, r.set i v, rfl, h1, RepVs.set i h h2⟩
theorem RepVs.eraseIdx : ∀ {l : List D} {vs : List V} (i : Nat), RepVs K S F H l vs → RepVs K S F H (l.eraseIdx i) (vs.eraseIdx i)
  | [], _, i, h => by rw [show _ = [] from h]; exact rfl
  | d :: l, _, 0, k => by
    obtain ⟨x, r, rfl, h1, h2⟩ := k
    exact h2
  | d :: l, _, i + 1, k => by
    obtain ⟨x, r, rfl, h1, h2⟩ := k
    exact ⟨x, r.eraseIdx i, rfl, h1, RepVs.eraseIdx i h2⟩
theorem RepVs.cons {d : D} {v : V} {l : List D} {vs : List V} (h : RepV K S F H d v) (r : RepVs K S F H l vs) : RepVs K S F H (d :: l) (v :: vs) := ⟨v, vs, rfl, h, r⟩
theorem RepVs.one {d : D} {v : V} (h : RepV K S F H d v) : RepVs K S F H [d] [v] := ⟨v, [], rfl, h, rfl⟩
theorem RepVs.reverse : ∀ {l : List D} {vs : List V}, RepVs K S F H l vs → RepVs K S F H l.reverse vs.reverse
  | [], _, h => by rw [show _ = [] from h]; exact rfl
  | d :: l, _, h => by
    obtain ⟨x, r, rfl, h1, h2⟩ := h
    rw [List.reverse_cons, List.reverse_cons]
    exact RepVs.append (RepVs.reverse h2) (.one h1)

/-! ### steps -/
structure Step (F : Addr → Prop) (S : Sto) (H : Hp) (S' : Sto) (H' : Hp) : Prop where
  keep : Keep S F H S' F H'
  hid : ∀ a, F a → H' a = H a
theorem Step.refl : Step F S H S H := ⟨fun _ _ h s f => ⟨h, s, f⟩, fun _ _ => rfl⟩
theorem Step.trans (a : Step F S H S1 H1) (b : Step F S1 H1 S2 H2) : Step F S H S2 H2 :=
  ⟨fun x o h s f => let ⟨h1, s1, f1⟩ := a.keep x o h s f; b.keep x o h1 s1 f1, fun x h => (b.hid x h).trans (a.hid x h)⟩
theorem Ok.none_of (ok : Ok K S F H) {p : Addr} (h : H p = none) : S p = none ∧ ¬ F p := by
  constructor
  · cases e : S p with
    | none => rfl
    | some d =>
      obtain ⟨_, o, q, _⟩ := ok.rep p d e
      rw [h] at q; cases q
  · intro f
    obtain ⟨o, q⟩ := ok.hid p f
    rw [h] at q; cases q
/-- a new thing that nobody changes -/
theorem Ok.lay (ok : Ok K S F H) {p : Addr} {o : HO} (h : H p = none) : Step F S H S (upd H p o) ∧ Ok K S F (upd H p o) := by
  have st : Step F S H S (upd H p o) := by
    refine ⟨fun a u e s f => ⟨?_, s, f⟩, fun a f => ?_⟩
    · rw [upd_ne (ne_of_none e h)]; exact e
    · obtain ⟨u, e⟩ := ok.hid a f
      rw [upd_ne (ne_of_none e h)]
  refine ⟨st, ⟨fun a d e => ?_, fun a f => ?_⟩⟩
  · obtain ⟨f, u, e1, r⟩ := ok.rep a d e
    exact ⟨f, u, by rw [upd_ne (ne_of_none e1 h)]; exact e1, r.keep st.keep⟩
  · obtain ⟨u, e⟩ := ok.hid a f
    exact ⟨u, by rw [upd_ne (ne_of_none e h)]; exact e⟩
/-- a new thing that changes -/
theorem Ok.make (ok : Ok K S F H) {p : Addr} {o : HO} {d : D} (h : H p = none) (r : RepO K S F H o d) : Step F S H (sup S p d) (upd H p o) ∧ Ok K (sup S p d) F (upd H p o) := by
  obtain ⟨sp, fp⟩ := ok.none_of h
  have st : Step F S H (sup S p d) (upd H p o) := by
    refine ⟨fun a u e s f => ?_, fun a f => ?_⟩
    · have ne := ne_of_none e h
      rw [upd_ne ne, sup_ne ne]; exact ⟨e, s, f⟩
    · obtain ⟨u, e⟩ := ok.hid a f
      rw [upd_ne (ne_of_none e h)]
  refine ⟨st, ⟨fun a e q => ?_, fun a f => ?_⟩⟩
  · by_cases ea : a = p
    · subst ea
      rw [sup_same] at q; cases q
      exact ⟨fp, o, upd_same, r.keep st.keep⟩
    · rw [sup_ne ea] at q
      obtain ⟨f, u, e1, r⟩ := ok.rep a e q
      exact ⟨f, u, by rw [upd_ne ea]; exact e1, r.keep st.keep⟩
  · obtain ⟨u, e⟩ := ok.hid a f
    exact ⟨u, by rw [upd_ne (ne_of_none e h)]; exact e⟩
/-- a thing that changes is changed -/
theorem Ok.turn (ok : Ok K S F H) {p : Addr} {o : HO} {d0 d : D} (h : S p = some d0) (r : RepO K S F H o d) : Step F S H (sup S p d) (upd H p o) ∧ Ok K (sup S p d) F (upd H p o) := by
  obtain ⟨fp, o0, hp, _⟩ := ok.rep p d0 h
  have st : Step F S H (sup S p d) (upd H p o) := by
    refine ⟨fun a u e s f => ?_, fun a f => ?_⟩
    · have ne : a ≠ p := fun z => by rw [z, h] at s; cases s
      rw [upd_ne ne, sup_ne ne]; exact ⟨e, s, f⟩
    · have ne : a ≠ p := fun z => fp (z ▸ f)
      rw [upd_ne ne]
  refine ⟨st, ⟨fun a e q => ?_, fun a f => ?_⟩⟩
  · by_cases ea : a = p
    · subst ea
      rw [sup_same] at q; cases q
      exact ⟨fp, o, upd_same, r.keep st.keep⟩
    · rw [sup_ne ea] at q
      obtain ⟨f, u, e1, r⟩ := ok.rep a e q
      exact ⟨f, u, by rw [upd_ne ea]; exact e1, r.keep st.keep⟩
  · have ne : a ≠ p := fun z => fp (z ▸ f)
    obtain ⟨u, e⟩ := ok.hid a f
    exact ⟨u, by rw [upd_ne ne]; exact e⟩

/-! ### what changed may be taken as what stays -/
mutual
inductive Fr (S S' : Sto) : D → D → Prop
  | same (d : D) : Fr S S' d d
  | lst {a : Addr} {l m : List D} : S a = some (.lst l) → S' a = none → Frs S S' l m → Fr S S' (.v (.ref a)) (.lst m)
  | dic {a : Addr} {ks : List Key} {l m : List D} : S a = some (.dic ks l) → S' a = none → Frs S S' l m → Fr S S' (.v (.ref a)) (.dic ks m)
  | dct {a : Addr} {ks : List (List Key)} {l m : List D} : S a = some (.dct ks l) → S' a = none → Frs S S' l m → Fr S S' (.v (.ref a)) (.dct ks m)
  | tup {l m : List D} : Frs S S' l m → Fr S S' (.tup l) (.tup m)
  | lst' {l m : List D} : Frs S S' l m → Fr S S' (.lst l) (.lst m)
inductive Frs (S S' : Sto) : List D → List D → Prop
  | nil : Frs S S' [] []
  | cons {d e : D} {l m : List D} : Fr S S' d e → Frs S S' l m → Frs S S' (d :: l) (e :: m)
end
theorem Frs.refl : ∀ l : List D, Frs S S' l l
  | [] => .nil
  | d :: l => .cons (.same d) (Frs.refl l)
theorem Sub.keep (h : Sub S' S) : Keep S F H S' F H := fun a o e s f => ⟨e, by rcases h a with q | q; exact q; exact q.trans s, f⟩
mutual
theorem Fr.rep (ok : Ok K S F H) (h : Sub S' S) : ∀ {d e : D} {v : V}, Fr S S' d e → RepV K S F H d v → RepV K S' F H e v
  | _, _, v, .same d, r => RepV.keep h.keep d v r
  | _, _, v, .lst ha hn hs, r => by
    obtain ⟨fp, o, ho, q⟩ := ok.rep _ _ ha
    cases o <;> first | exact q.elim | skip
    exact ⟨_, _, r, ho, hn, fp, Frs.rep ok h hs q⟩
  | _, _, v, .dic ha hn hs, r => by
    obtain ⟨fp, o, ho, q⟩ := ok.rep _ _ ha
    cases o <;> first | exact q.elim | skip
    exact ⟨_, _, r, ⟨.inl ho, hn, fp⟩, q.1, Frs.rep ok h hs q.2⟩
  | _, _, v, .dct ha hn hs, r => by
    obtain ⟨fp, o, ho, q⟩ := ok.rep _ _ ha
    cases o <;> first | exact q.elim | skip
    exact ⟨_, _, r, ⟨.inl ho, hn, fp⟩, q.1, Frs.rep ok h hs q.2⟩
  | _, _, v, .tup hs, r => by
    obtain ⟨a, vs, e, t, q⟩ := r
    exact ⟨a, vs, e, t.imp (fun t => (h.keep (H := H)).at t) id, Frs.rep ok h hs q⟩
  | _, _, v, .lst' hs, r => by
    obtain ⟨a, vs, e, t, s, f, q⟩ := r
    obtain ⟨h1, h2, h3⟩ := h.keep (F := F) (H := H) a _ t s f
    exact ⟨a, vs, e, h1, h2, h3, Frs.rep ok h hs q⟩
theorem Frs.rep (ok : Ok K S F H) (h : Sub S' S) : ∀ {l m : List D} {vs : List V}, Frs S S' l m → RepVs K S F H l vs → RepVs K S' F H m vs
  | _, _, _, .nil, r => r
  | _, _, _, .cons h1 h2, r => by
    obtain ⟨x, t, e, q1, q2⟩ := r
    exact ⟨x, t, e, Fr.rep ok h h1 q1, Frs.rep ok h h2 q2⟩
end
theorem Ok.sub (ok : Ok K S F H) (h : Sub S' S) : Ok K S' F H := ⟨fun a d e => by
  rcases h a with q | q
  · rw [q] at e; cases e
  · obtain ⟨f, o, ho, r⟩ := ok.rep a d (q.symm.trans e)
    exact ⟨f, o, ho, r.keep h.keep⟩, ok.hid⟩
theorem Step.sub (st : Step F S H S1 H1) (h : Sub S2 S1) : Step F S H S2 H1 := ⟨fun a o e s f => let ⟨h1, s1, f1⟩ := st.keep a o e s f; ⟨h1, by rcases h a with q | q; exact q; exact q.trans s1, f1⟩, st.hid⟩

/-! ### slots -/
abbrev Env' := List (Option D)
def RepE (K : PySem.W.Frag) (S : Sto) (F : Addr → Prop) (H : Hp) (ρ : Env') (σ : L2.St) : Prop :=
  ρ.length = σ.length ∧ ∀ (i : Nat) (d : D), ρ[i]? = some (some d) → ∃ v, σ[i]? = some (some v) ∧ RepV K S F H d v
variable {ρ : Env'} {σ : L2.St}
theorem RepE.keep (k : Keep S F H S' F' H') (r : RepE K S F H ρ σ) : RepE K S' F' H' ρ σ :=
  ⟨r.1, fun i d e => let ⟨v, h1, h2⟩ := r.2 i d e; ⟨v, h1, h2.keep k⟩⟩
theorem RepE.step (st : Step F S H S' H') (r : RepE K S F H ρ σ) : RepE K S' F H' ρ σ := r.keep st.keep
theorem RepV.step {d : D} {v : V} (st : Step F S H S' H') (r : RepV K S F H d v) : RepV K S' F H' d v := r.keep st.keep
theorem RepVs.step {l : List D} {vs : List V} (st : Step F S H S' H') (r : RepVs K S F H l vs) : RepVs K S' F H' l vs := r.keep st.keep
theorem RepE.set {i : Nat} {d : D} {v : V} (r : RepE K S F H ρ σ) (h : RepV K S F H d v) : RepE K S F H (ρ.set i (some d)) (σ.set i (some v)) := by
  refine ⟨by rw [List.length_set, List.length_set]; exact r.1, fun j e q => ?_⟩
  by_cases ji : i = j
  · subst ji
    by_cases hl : i < ρ.length
    · rw [List.getElem?_set_self hl] at q
      cases q
      exact ⟨v, List.getElem?_set_self (r.1 ▸ hl), h⟩
    · rw [List.getElem?_eq_none (by rw [List.length_set]; omega)] at q
      cases q
  · rw [List.getElem?_set_ne ji] at q
    obtain ⟨w, h1, h2⟩ := r.2 j e q
    exact ⟨w, by rw [List.getElem?_set_ne ji]; exact h1, h2⟩
/-- a slot is forgotten -/
theorem RepE.forget {i : Nat} {o : Option V} (r : RepE K S F H ρ σ) : RepE K S F H (ρ.set i none) (σ.set i o) := by
  refine ⟨by rw [List.length_set, List.length_set]; exact r.1, fun j e q => ?_⟩
  by_cases ji : i = j
  · subst ji
    by_cases hl : i < ρ.length
    · rw [List.getElem?_set_self hl] at q
      cases q
    · rw [List.getElem?_eq_none (by rw [List.length_set]; omega)] at q
      cases q
  · rw [List.getElem?_set_ne ji] at q
    obtain ⟨w, h1, h2⟩ := r.2 j e q
    exact ⟨w, by rw [List.getElem?_set_ne ji]; exact h1, h2⟩
end

abbrev XD := String → List D → Sto → Prop
abbrev DK := D → Sto → Prop
abbrev DTE := Env' → Sto → DK → XD → Prop
abbrev DTT := Env' → Sto → (Bool → Sto → Prop) → XD → Prop
abbrev DTA := Env' → Sto → (List D → Sto → Prop) → XD → Prop
structure DEnds where
  nx : Env' → Sto → Prop
  rt : DK
  bk : Env' → Sto → Prop := fun _ _ => False
  ct : Env' → Sto → Prop := fun _ _ => False
  xc : String → List D → Env' → Sto → Prop := fun _ _ _ _ => False
abbrev DTS := DEnds → Env' → Sto → Prop
abbrev DSp := List D → Sto → DK → XD → Prop
abbrev RD2 := D → D → Sto → DK → Prop

abbrev Mg := Str → Option Value
/-- the class by its name -/
def cadV (mg : Mg) (c : String) : Value := (mg (Str.ofString c)).getD .none

section
variable (K : PySem.W.Frag) (mg : Mg)
def RepX (S : Sto) (F : Addr → Prop) (H : Hp) (ds : List D) (dd : Option Addr) : Prop := ds = [] ∨ ∃ d fs, dd = some d ∧ H d = some (.xd fs) ∧ RepVs K S F H ds (fs.map (·.2))
def NK (F : Addr → Prop) (S : Sto) (H : Hp) (QD : DK) (Q : VK) : Prop := ∀ d S' v H', Step F S H S' H' → Ok K S' F H' → RepV K S' F H' d v → QD d S' → Q v H'
def NB (F : Addr → Prop) (S : Sto) (H : Hp) (QD : Bool → Sto → Prop) (Q : Bool → Hp → Prop) : Prop := ∀ d S' H', Step F S H S' H' → Ok K S' F H' → QD d S' → Q d H'
def NA (F : Addr → Prop) (S : Sto) (H : Hp) (QD : List D → Sto → Prop) (Q : List V → Hp → Prop) : Prop := ∀ d S' v H', Step F S H S' H' → Ok K S' F H' → RepVs K S' F H' d v → QD d S' → Q v H'
def XC (F : Addr → Prop) (S : Sto) (H : Hp) (ED : XD) (W : XK) : Prop := ∀ c ds S' dd H', Step F S H S' H' → Ok K S' F H' → RepX K S' F H' ds dd → ED c ds S' → W (cadV mg c) dd H'
def NS (F : Addr → Prop) (S : Sto) (H : Hp) (QD : Env' → Sto → Prop) (Q : L2.St → Hp → Prop) : Prop := ∀ ρ S' σ H', Step F S H S' H' → Ok K S' F H' → RepE K S' F H' ρ σ → QD ρ S' → Q σ H'
def XS (F : Addr → Prop) (S : Sto) (H : Hp) (ED : String → List D → Env' → Sto → Prop) (W : WX) : Prop := ∀ c ds ρ S' σ dd H', Step F S H S' H' → Ok K S' F H' → RepE K S' F H' ρ σ → RepX K S' F H' ds dd → ED c ds ρ S' → W (cadV mg c) dd σ H'
structure NE (F : Addr → Prop) (S : Sto) (H : Hp) (W : WX) (DD : DEnds) (D : Ends) : Prop where
  nx : NS K F S H DD.nx D.nx
  rt : NK K F S H DD.rt D.rt
  bk : NS K F S H DD.bk D.bk
  ct : NS K F S H DD.ct D.ct
  xc : XS K mg F S H DD.xc W
def liftE (W : WX) (t : DTE) : TE := fun σ H Q => ∃ ρ S F QD ED, Ok K S F H ∧ RepE K S F H ρ σ ∧ t ρ S QD ED ∧ NK K F S H QD Q ∧ XC K mg F S H ED (fun c d H' => W c d σ H')
def liftT (W : WX) (t : DTT) : TT := fun σ H Q => ∃ ρ S F QD ED, Ok K S F H ∧ RepE K S F H ρ σ ∧ t ρ S QD ED ∧ NB K F S H QD Q ∧ XC K mg F S H ED (fun c d H' => W c d σ H')
def liftA (W : WX) (t : DTA) : TA := fun σ H Q => ∃ ρ S F QD ED, Ok K S F H ∧ RepE K S F H ρ σ ∧ t ρ S QD ED ∧ NA K F S H QD Q ∧ XC K mg F S H ED (fun c d H' => W c d σ H')
def liftS (W : WX) (t : DTS) : TS := fun D σ H => ∃ ρ S F DD, Ok K S F H ∧ RepE K S F H ρ σ ∧ t DD ρ S ∧ NE K mg F S H W DD D
def liftR (r : RD2) : R2 := fun x y H Q => ∃ S F dx dy QD, Ok K S F H ∧ RepV K S F H dx x ∧ RepV K S F H dy y ∧ r dx dy S QD ∧ NK K F S H QD Q
def liftU (r : D → Sto → DK → Prop) : V → Hp → VK → Prop := fun x H Q => ∃ S F dx QD, Ok K S F H ∧ RepV K S F H dx x ∧ r dx S QD ∧ NK K F S H QD Q
def liftC (r : List D → Sto → DK → Prop) : List V → Hp → VK → Prop := fun xs H Q => ∃ S F ds QD, Ok K S F H ∧ RepVs K S F H ds xs ∧ r ds S QD ∧ NK K F S H QD Q
def liftM (r : D → List D → Sto → DK → Prop) : V → List V → Hp → VK → Prop := fun x xs H Q => ∃ S F d ds QD, Ok K S F H ∧ RepV K S F H d x ∧ RepVs K S F H ds xs ∧ r d ds S QD ∧ NK K F S H QD Q
def liftSp (sp : DSp) : Sp := fun vs H Q E => ∃ S F ds QD ED, Ok K S F H ∧ RepVs K S F H ds vs ∧ sp ds S QD ED ∧ NK K F S H QD Q ∧ XC K mg F S H ED E
end

section
variable {K : PySem.W.Frag} {mg : Mg} {S S' S1 : Sto} {F : Addr → Prop} {H H' H1 : Hp} {ρ : Env'} {σ : L2.St}
theorem NK.step {QD : DK} {Q : VK} (n : NK K F S H QD Q) (st : Step F S H S1 H1) : NK K F S1 H1 QD Q := fun d S' v H' s o r q => n d S' v H' (st.trans s) o r q
theorem NB.step {QD : Bool → Sto → Prop} {Q : Bool → Hp → Prop} (n : NB K F S H QD Q) (st : Step F S H S1 H1) : NB K F S1 H1 QD Q := fun d S' H' s o q => n d S' H' (st.trans s) o q
theorem NA.step {QD : List D → Sto → Prop} {Q : List V → Hp → Prop} (n : NA K F S H QD Q) (st : Step F S H S1 H1) : NA K F S1 H1 QD Q := fun d S' v H' s o r q => n d S' v H' (st.trans s) o r q
theorem XC.step {ED : XD} {W : XK} (n : XC K mg F S H ED W) (st : Step F S H S1 H1) : XC K mg F S1 H1 ED W := fun c ds S' dd H' s o r q => n c ds S' dd H' (st.trans s) o r q
theorem NS.step {QD : Env' → Sto → Prop} {Q : L2.St → Hp → Prop} (n : NS K F S H QD Q) (st : Step F S H S1 H1) : NS K F S1 H1 QD Q := fun ρ S' σ H' s o r q => n ρ S' σ H' (st.trans s) o r q
theorem XS.step {ED : String → List D → Env' → Sto → Prop} {W : WX} (n : XS K mg F S H ED W) (st : Step F S H S1 H1) : XS K mg F S1 H1 ED W := fun c ds ρ S' σ dd H' s o e r q => n c ds ρ S' σ dd H' (st.trans s) o e r q
theorem NE.step {W : WX} {DD : DEnds} {E : Ends} (n : NE K mg F S H W DD E) (st : Step F S H S1 H1) : NE K mg F S1 H1 W DD E := ⟨n.nx.step st, n.rt.step st, n.bk.step st, n.ct.step st, n.xc.step st⟩
theorem XS.xc {ED : String → List D → Env' → Sto → Prop} {W : WX} (n : XS K mg F S H ED W) (re : RepE K S F H ρ σ) : XC K mg F S H (fun c ds S' => ED c ds ρ S') (fun c d H' => W c d σ H') :=
  fun c ds S' dd H' st ok rx q => n c ds ρ S' σ dd H' st ok (re.step st) rx q
end

section
variable {X : Cx} {W : WX}
theorem PE.imp {e : Expr} {t t' : TE} (h : PE X e t) (i : ∀ σ H Q, t' σ H Q → t σ H Q) : PE X e t' := ⟨fun pins s σ H Q I q => h.run pins s σ H Q I (i σ H Q q)⟩
theorem PT.imp {e : Expr} {t t' : TT} (h : PT X e t) (i : ∀ σ H Q, t' σ H Q → t σ H Q) : PT X e t' := ⟨fun pins s σ H Q I q => h.run pins s σ H Q I (i σ H Q q)⟩
theorem PW.imp {e : Expr} {t t' : TT} (h : PW X e t) (i : ∀ σ H Q, t' σ H Q → t σ H Q) : PW X e t' := ⟨fun w pins s σ H Q I q => h.run w pins s σ H Q I (i σ H Q q)⟩
theorem PA.imp {es : List Expr} {t t' : TA} (h : PA X es t) (i : ∀ σ H Q, t' σ H Q → t σ H Q) : PA X es t' := ⟨fun p pins s σ H Q I q => h.run p pins s σ H Q I (i σ H Q q)⟩
theorem PS.imp {st : Stmt} {t t' : TS} (h : PS X st t) (i : ∀ D σ H, t' D σ H → t D σ H) : PS X st t' := ⟨fun pins s σ H D I q => h.run pins s σ H D I (i D σ H q)⟩
theorem PSs.imp {st : List Stmt} {t t' : TS} (h : PSs X st t) (i : ∀ D σ H, t' D σ H → t D σ H) : PSs X st t' := ⟨fun pins s σ H D I q => h.run pins s σ H D I (i D σ H q)⟩
theorem OpR.imp {f : Value → Value → Sem Value} {r r' : R2} (h : OpR X f r) (i : ∀ x y H Q, r' x y H Q → r x y H Q) : OpR X f r' := fun pins s σ H x y v u Q I rx ry q => h pins s σ H x y v u Q I rx ry (i x y H Q q)
theorem UnR.imp {f : Value → Sem Value} {r r' : V → Hp → VK → Prop} (h : UnR X f r) (i : ∀ x H Q, r' x H Q → r x H Q) : UnR X f r' := fun pins s σ H x v Q I rx q => h pins s σ H x v Q I rx (i x H Q q)
theorem CallR.imp {f : Value} {r r' : List V → Hp → VK → Prop} (h : CallR X f r) (i : ∀ xs H Q, r' xs H Q → r xs H Q) : CallR X f r' := fun pins s σ H xs us Q I rx q => h pins s σ H xs us Q I rx (i xs H Q q)
theorem MtR.imp {id : String} {r r' : V → List V → Hp → VK → Prop} (h : MtR X id r) (i : ∀ x xs H Q, r' x xs H Q → r x xs H Q) : MtR X id r' := fun pins s σ H x xs v us Q I rx rxs q => h pins s σ H x xs v us Q I rx rxs (i x xs H Q q)
end

/-- .. of an expression, a test, arguments, statements, over data -/
abbrev DE (X : Cx) (W : WX) (e : Expr) (t : DTE) : Prop := PE X e (liftE X.K X.mg W t)
abbrev DT (X : Cx) (W : WX) (e : Expr) (t : DTT) : Prop := PT X e (liftT X.K X.mg W t)
abbrev DW (X : Cx) (W : WX) (e : Expr) (t : DTT) : Prop := PW X e (liftT X.K X.mg W t)
abbrev DA (X : Cx) (W : WX) (es : List Expr) (t : DTA) : Prop := PA X es (liftA X.K X.mg W t)
abbrev DS (X : Cx) (W : WX) (st : Stmt) (t : DTS) : Prop := PS X st (liftS X.K X.mg W t)
abbrev DSs (X : Cx) (W : WX) (st : List Stmt) (t : DTS) : Prop := PSs X st (liftS X.K X.mg W t)
abbrev DOp (X : Cx) (f : Value → Value → Sem Value) (r : RD2) : Prop := OpR X f (liftR X.K r)
abbrev DUn (X : Cx) (f : Value → Sem Value) (r : D → Sto → DK → Prop) : Prop := UnR X f (liftU X.K r)
abbrev DCl (X : Cx) (f : Value) (r : List D → Sto → DK → Prop) : Prop := CallR X f (liftC X.K r)
abbrev DMt (X : Cx) (id : String) (r : D → List D → Sto → DK → Prop) : Prop := MtR X id (liftM X.K r)

/-! ### expressions -/
def dVar (i : Nat) : DTE := fun ρ S Q _ => ∃ d, ρ[i]? = some (some d) ∧ Q d S
def dC (d : D) : DTE := fun _ S Q _ => Q d S
def dBin (r : RD2) (a b : DTE) : DTE := fun ρ S Q E => a ρ S (fun x S1 => b ρ S1 (fun y S2 => r x y S2 Q) E) E
def dUn (r : D → Sto → DK → Prop) (a : DTE) : DTE := fun ρ S Q E => a ρ S (fun x S1 => r x S1 Q) E
def dNil : DTA := fun _ S Q _ => Q [] S
def dCons (a : DTE) (r : DTA) : DTA := fun ρ S Q E => a ρ S (fun x S1 => r ρ S1 (fun xs S2 => Q (x :: xs) S2) E) E
def dTup (a : DTA) : DTE := fun ρ S Q E => a ρ S (fun xs S1 => xs.length ≤ sizeLine ∧ Q (.tup xs) S1) E
def dLst (a : DTA) : DTE := fun ρ S Q E => a ρ S (fun xs S1 => xs.length ≤ sizeLine ∧ Q (.lst xs) S1) E
def dLstM (a : DTA) : DTE := fun ρ S Q E => a ρ S (fun xs S1 => xs.length ≤ sizeLine ∧ ∀ p, S1 p = none → Q (dR p) (sup S1 p (.lst xs))) E
def dCB (r : List D → Sto → DK → Prop) (a : DTA) : DTE := fun ρ S Q E => a ρ S (fun xs S1 => r xs S1 Q) E
def dMt (r : D → List D → Sto → DK → Prop) (o : DTE) (a : DTA) : DTE := fun ρ S Q E => o ρ S (fun x S1 => a ρ S1 (fun xs S2 => r x xs S2 Q) E) E
def dCall (n : Nat) (sp : DSp) (a : DTA) : DTE := fun ρ S Q E => a ρ S (fun xs S1 => xs.length = n ∧ sp xs S1 Q E) E
def dTst (a : DTE) : DTT := fun ρ S Q E => a ρ S (fun x S1 => ∃ b, x = dB b ∧ Q b S1) E
def dAnd (a b : DTT) : DTT := fun ρ S Q E => a ρ S (fun c S1 => if c = true then b ρ S1 Q E else Q false S1) E
def dOr (a b : DTT) : DTT := fun ρ S Q E => a ρ S (fun c S1 => if c = true then Q true S1 else b ρ S1 Q E) E
def dNot (a : DTT) : DTT := fun ρ S Q E => a ρ S (fun c S1 => Q (!c) S1) E
def dIfE (c : DTT) (a b : DTE) : DTE := fun ρ S Q E => c ρ S (fun c S1 => if c = true then a ρ S1 Q E else b ρ S1 Q E) E
def dAndV (a b : DTE) : DTE := fun ρ S Q E => a ρ S (fun x S1 => ∃ c, x = dB c ∧ if c = true then b ρ S1 Q E else Q (dB false) S1) E
def dOrV (a b : DTE) : DTE := fun ρ S Q E => a ρ S (fun x S1 => ∃ c, x = dB c ∧ if c = true then Q (dB true) S1 else b ρ S1 Q E) E
def dNotV (a : DTE) : DTE := fun ρ S Q E => a ρ S (fun x S1 => ∃ c, x = dB c ∧ Q (dB (!c)) S1) E
def dChain (r r' : RD2) (a b c : DTE) : DTE := fun ρ S Q E => a ρ S (fun x S1 => b ρ S1 (fun y S2 => r x y S2 fun z S3 => ∃ k, z = dB k ∧ if k = true then c ρ S3 (fun w S4 => r' y w S4 Q) E else Q (dB false) S3) E) E

section
variable {X : Cx} {W : WX} {e a b c : Expr} {es rest : List Expr} {ta tb tc : DTE} {tA tB : DTT} {t : DTA} {pos : Pos}
theorem de_var {i : Nat} {x : Str} (h : PE X (.Name x pos) (tVar i)) : DE X W (.Name x pos) (dVar i) := PE.imp h fun σ H Q ⟨ρ, S, F, QD, ED, ok, re, ⟨d, e, q⟩, n, x⟩ => by
  obtain ⟨v, h1, h2⟩ := re.2 i d e
  exact ⟨v, h1, n d S v H .refl ok h2 q⟩
theorem de_v {e : Expr} {v : V} (h : PE X e (tC v)) : DE X W e (dC (.v v)) := PE.imp h fun σ H Q ⟨ρ, S, F, QD, ED, ok, re, q, n, x⟩ => n (.v v) S v H .refl ok rfl q
theorem de_c {e : Expr} {v : V} {d : D} (h : PE X e (tC v)) (hd : ∀ S F H, RepV X.K S F H d v) : DE X W e (dC d) := PE.imp h fun σ H Q ⟨ρ, S, F, QD, ED, ok, re, q, n, x⟩ => n _ S v H .refl ok (hd S F H) q
theorem de_str {x : Str} {l : List Nat} {j : Nat} (h : x = ⟨l.toArray⟩) : DE X W (.Constant (.str x) j pos) (dC (dS l)) := by
  subst h
  exact de_v pe_str
theorem de_bin {op : Operator} {r : RD2} (ho : DOp X (binaryOp op) r) (ha : DE X W a ta) (hb : DE X W b tb) : DE X W (.BinOp a op b pos) (dBin r ta tb) :=
  PE.imp (pe_op ho ha hb) fun σ H Q ⟨ρ, S, F, QD, ED, ok, re, q, n, x⟩ =>
    ⟨ρ, S, F, _, ED, ok, re, q, fun dx S1 v1 H1 st1 ok1 rv1 q1 => ⟨ρ, S1, F, _, ED, ok1, re.step st1, q1, fun dy S2 v2 H2 st2 ok2 rv2 q2 => ⟨S2, F, dx, dy, QD, ok2, rv1.step st2, rv2, q2, n.step (st1.trans st2)⟩, x.step st1⟩, x⟩
theorem tOp_lift {r : RD2} {σ : L2.St} {H : Hp} {Q : VK} (h : liftE X.K X.mg W (dBin r ta tb) σ H Q) : tOp (liftR X.K r) (liftE X.K X.mg W ta) (liftE X.K X.mg W tb) σ H Q := by
  obtain ⟨ρ, S, F, QD, ED, ok, re, q, n, x⟩ := h
  exact ⟨ρ, S, F, _, ED, ok, re, q, fun dx S1 v1 H1 st1 ok1 rv1 q1 => ⟨ρ, S1, F, _, ED, ok1, re.step st1, q1, fun dy S2 v2 H2 st2 ok2 rv2 q2 => ⟨S2, F, dx, dy, QD, ok2, rv1.step st2, rv2, q2, n.step (st1.trans st2)⟩, x.step st1⟩, x⟩
theorem de_cmp {op : CmpOp} {r : RD2} (ho : DOp X (compareOp op) r) (ha : DE X W a ta) (hb : DE X W b tb) (hm : behindInMarks op b = false) : DE X W (.Compare a [op] [b] pos) (dBin r ta tb) :=
  PE.imp (pe_cmpR ho ha hb hm) fun _ _ _ => tOp_lift
theorem dt_cmp {op : CmpOp} {r : RD2} (ho : DOp X (compareOp op) r) (ha : DE X W a ta) (hb : DE X W b tb) (hm : behindInMarks op b = false) : DT X W (.Compare a [op] [b] pos) (dTst (dBin r ta tb)) :=
  PT.imp (pt_cmpR ho ha hb hm) fun σ H Q ⟨ρ, S, F, QD, ED, ok, re, q, n, x⟩ => tOp_lift ⟨ρ, S, F, _, ED, ok, re, q, fun d S1 v H1 st ok1 rv ⟨b, e, q⟩ => by
    subst e
    exact ⟨b, rv, n b S1 H1 st ok1 q⟩, x⟩
theorem de_un {op : UnaryOp} {r : D → Sto → DK → Prop} (ho : DUn X (unaryOp op) r) (ha : DE X W a ta) : DE X W (.UnaryOp op a pos) (dUn r ta) :=
  PE.imp (pe_un ho ha) fun σ H Q ⟨ρ, S, F, QD, ED, ok, re, q, n, x⟩ => ⟨ρ, S, F, _, ED, ok, re, q, fun dx S1 v1 H1 st1 ok1 rv1 q1 => ⟨S1, F, dx, QD, ok1, rv1, q1, n.step st1⟩, x⟩
theorem da_nil : DA X W [] dNil := PA.imp pa_nil fun σ H Q ⟨ρ, S, F, QD, ED, ok, re, q, n, x⟩ => n [] S [] H .refl ok rfl q
theorem da_cons (ha : DE X W a ta) (hr : DA X W es t) (hs : starEach (a :: es) X.env = (false, eval a X.env) :: starEach es X.env := by rfl) : DA X W (a :: es) (dCons ta t) :=
  PA.imp (pa_cons ha hr hs) fun σ H Q ⟨ρ, S, F, QD, ED, ok, re, q, n, x⟩ =>
    ⟨ρ, S, F, _, ED, ok, re, q, fun dx S1 v1 H1 st1 ok1 rv1 q1 => ⟨ρ, S1, F, _, ED, ok1, re.step st1, q1, fun ds S2 vs H2 st2 ok2 rv2 q2 => n _ S2 _ H2 (st1.trans st2) ok2 (RepVs.cons (rv1.step st2) rv2) q2, x.step st1⟩, x⟩
theorem de_tup {k : Nat} (ha : DA X W es t) : DE X W (.Tuple es k pos) (dTup t) :=
  PE.imp (pe_tup ha) fun σ H Q ⟨ρ, S, F, QD, ED, ok, re, q, n, x⟩ => ⟨ρ, S, F, _, ED, ok, re, q, fun ds S1 vs H1 st1 ok1 rv1 ⟨l1, q1⟩ => ⟨rv1.length ▸ l1, fun p hp => by
    obtain ⟨st2, ok2⟩ := ok1.lay (o := .tup vs) hp
    obtain ⟨sp, fp⟩ := ok1.none_of hp
    exact n (.tup ds) S1 _ _ (st1.trans st2) ok2 ⟨p, vs, rfl, .inl ⟨.inl upd_same, sp, fp⟩, rv1.step st2⟩ q1⟩, x⟩
theorem de_lst (ha : DA X W es t) : DE X W (.List es pos) (dLst t) :=
  PE.imp (pe_lst ha) fun σ H Q ⟨ρ, S, F, QD, ED, ok, re, q, n, x⟩ => ⟨ρ, S, F, _, ED, ok, re, q, fun ds S1 vs H1 st1 ok1 rv1 ⟨l1, q1⟩ => ⟨rv1.length ▸ l1, fun p hp => by
    obtain ⟨st2, ok2⟩ := ok1.lay (o := .lst vs) hp
    obtain ⟨sp, fp⟩ := ok1.none_of hp
    exact n (.lst ds) S1 _ _ (st1.trans st2) ok2 ⟨p, vs, rfl, upd_same, sp, fp, rv1.step st2⟩ q1⟩, x⟩
theorem de_lstM (ha : DA X W es t) : DE X W (.List es pos) (dLstM t) :=
  PE.imp (pe_lst ha) fun σ H Q ⟨ρ, S, F, QD, ED, ok, re, q, n, x⟩ => ⟨ρ, S, F, _, ED, ok, re, q, fun ds S1 vs H1 st1 ok1 rv1 ⟨l1, q1⟩ => ⟨rv1.length ▸ l1, fun p hp => by
    obtain ⟨sp, fp⟩ := ok1.none_of hp
    obtain ⟨st2, ok2⟩ := ok1.make (o := .lst vs) (d := .lst ds) hp rv1
    exact n (dR p) _ _ _ (st1.trans st2) ok2 rfl (q1 p sp)⟩, x⟩
/-! tests -/
theorem dt_val (h : DE X W e ta) (he : ∀ whole, isTrue e X.env whole = (do let v ← whole; standAt e.pos; holding [v] (truthy v)) := by intro _; rfl) : DT X W e (dTst ta) :=
  PT.imp (pt_val h he) fun σ H Q ⟨ρ, S, F, QD, ED, ok, re, q, n, x⟩ => ⟨ρ, S, F, _, ED, ok, re, q, fun d S1 v H1 st ok1 rv ⟨b, e, q⟩ => by
    subst e
    exact ⟨b, rv, n b S1 H1 st ok1 q⟩, x⟩
theorem dw_and1 (ha : DT X W a tA) : DW X W (.BoolOp .And [a] pos) tA := pw_and1 ha
theorem dw_or1 (ha : DT X W a tA) : DW X W (.BoolOp .Or [a] pos) tA := pw_or1 ha
theorem dw_and (ha : DT X W a tA) (hb : DW X W (.BoolOp .And (b :: rest) pos) tB) : DW X W (.BoolOp .And (a :: b :: rest) pos) (dAnd tA tB) :=
  PW.imp (pw_and ha hb) fun σ H Q ⟨ρ, S, F, QD, ED, ok, re, q, n, x⟩ => ⟨ρ, S, F, _, ED, ok, re, q, fun c S1 H1 st ok1 q => by
    cases c with
    | true => exact ⟨ρ, S1, F, QD, ED, ok1, re.step st, q, n.step st, x.step st⟩
    | false => exact n false S1 H1 st ok1 q, x⟩
theorem dw_or (ha : DT X W a tA) (hb : DW X W (.BoolOp .Or (b :: rest) pos) tB) : DW X W (.BoolOp .Or (a :: b :: rest) pos) (dOr tA tB) :=
  PW.imp (pw_or ha hb) fun σ H Q ⟨ρ, S, F, QD, ED, ok, re, q, n, x⟩ => ⟨ρ, S, F, _, ED, ok, re, q, fun c S1 H1 st ok1 q => by
    cases c with
    | false => exact ⟨ρ, S1, F, QD, ED, ok1, re.step st, q, n.step st, x.step st⟩
    | true => exact n true S1 H1 st ok1 q, x⟩
theorem dt_not (ha : DT X W a tA) : DT X W (.UnaryOp .Not a pos) (dNot tA) :=
  PT.imp (pt_not ha) fun σ H Q ⟨ρ, S, F, QD, ED, ok, re, q, n, x⟩ => ⟨ρ, S, F, _, ED, ok, re, q, fun c S1 H1 st ok1 q => n (!c) S1 H1 st ok1 q, x⟩
theorem de_ifE (hc : DT X W c tA) (ha : DE X W a ta) (hb : DE X W b tb) : DE X W (.IfExp c a b pos) (dIfE tA ta tb) :=
  PE.imp (pe_ifExp hc ha hb) fun σ H Q ⟨ρ, S, F, QD, ED, ok, re, q, n, x⟩ => ⟨ρ, S, F, _, ED, ok, re, q, fun c S1 H1 st ok1 q => by
    cases c with
    | true => exact ⟨ρ, S1, F, QD, ED, ok1, re.step st, q, n.step st, x.step st⟩
    | false => exact ⟨ρ, S1, F, QD, ED, ok1, re.step st, q, n.step st, x.step st⟩, x⟩
theorem de_one {op} (h : DE X W a ta) : DE X W (.BoolOp op [a] pos) ta := pe_one h
theorem de_and (ha : DE X W a ta) (hb : DE X W (.BoolOp .And (b :: rest) pos) tb) : DE X W (.BoolOp .And (a :: b :: rest) pos) (dAndV ta tb) :=
  PE.imp (pe_and ha hb) fun σ H Q ⟨ρ, S, F, QD, ED, ok, re, q, n, x⟩ => ⟨ρ, S, F, _, ED, ok, re, q, fun d S1 v H1 st ok1 rv ⟨c, e, q⟩ => by
    subst e
    refine ⟨c, rv, ?_⟩
    cases c with
    | true => exact ⟨ρ, S1, F, QD, ED, ok1, re.step st, q, n.step st, x.step st⟩
    | false => exact n (dB false) S1 _ H1 st ok1 rfl q, x⟩
theorem de_or (ha : DE X W a ta) (hb : DE X W (.BoolOp .Or (b :: rest) pos) tb) : DE X W (.BoolOp .Or (a :: b :: rest) pos) (dOrV ta tb) :=
  PE.imp (pe_or ha hb) fun σ H Q ⟨ρ, S, F, QD, ED, ok, re, q, n, x⟩ => ⟨ρ, S, F, _, ED, ok, re, q, fun d S1 v H1 st ok1 rv ⟨c, e, q⟩ => by
    subst e
    refine ⟨c, rv, ?_⟩
    cases c with
    | false => exact ⟨ρ, S1, F, QD, ED, ok1, re.step st, q, n.step st, x.step st⟩
    | true => exact n (dB true) S1 _ H1 st ok1 rfl q, x⟩
theorem de_not (ha : DE X W a ta) : DE X W (.UnaryOp .Not a pos) (dNotV ta) :=
  PE.imp (pe_not ha) fun σ H Q ⟨ρ, S, F, QD, ED, ok, re, q, n, x⟩ => ⟨ρ, S, F, _, ED, ok, re, q, fun d S1 v H1 st ok1 rv ⟨c, e, q⟩ => by
    subst e
    exact ⟨c, rv, n (dB (!c)) S1 _ H1 st ok1 rfl q⟩, x⟩
/-! calls -/
def dCBx : Unit := ()
theorem de_callB {id : String} {r : List D → Sto → DK → Prop} {x : Str} {p : Pos} (hc : DCl X (.builtin id) r) (hg : Gl X x) (hm : X.mg x = none) (hv : bootBuiltins x = some (.builtin id)) (ha : DA X W (e :: es) t) (hn : x ≠ "__name__" := by decide) (hdb : (x == ("__debug__" : Str)) = false := by decide)
    (he : starEach (e :: es) X.env = (false, eval e X.env) :: starEach es X.env := by rfl) (hpl : (backTo pos (starEach es X.env)).any (·.1) = false := by rfl) : DE X W (.Call (.Name x p) (e :: es) [] pos) (dCB r t) :=
  PE.imp (pe_callB hc hg hm hv ha hn hdb he hpl) fun σ H Q ⟨ρ, S, F, QD, ED, ok, re, q, n, x⟩ => ⟨ρ, S, F, _, ED, ok, re, q, fun ds S1 vs H1 st1 ok1 rv1 q1 => ⟨S1, F, ds, QD, ok1, rv1, q1, n.step st1⟩, x⟩
theorem de_callTy {T : String} {r : List D → Sto → DK → Prop} {x : Str} {p : Pos} (hc : DCl X (.type T) r) (hg : Gl X x) (hm : X.mg x = none) (hv : bootBuiltins x = some (.type T)) (ha : DA X W (e :: es) t) (hn : x ≠ "__name__" := by decide) (hdb : (x == ("__debug__" : Str)) = false := by decide)
    (he : starEach (e :: es) X.env = (false, eval e X.env) :: starEach es X.env := by rfl) (hpl : (backTo pos (starEach es X.env)).any (·.1) = false := by rfl) : DE X W (.Call (.Name x p) (e :: es) [] pos) (dCB r t) :=
  PE.imp (pe_callTy hc hg hm hv ha hn hdb he hpl) fun σ H Q ⟨ρ, S, F, QD, ED, ok, re, q, n, x⟩ => ⟨ρ, S, F, _, ED, ok, re, q, fun ds S1 vs H1 st1 ok1 rv1 q1 => ⟨S1, F, ds, QD, ok1, rv1, q1, n.step st1⟩, x⟩
/-- where what is raised goes -/
structure Pas (X : Cx) (W : WX) : Prop where
  run : ∀ σ, PassesAt (L2.CX X.prog X.w) X σ (WE W σ)
theorem pas_of (tk : Takes X W) : Pas X W := ⟨fun σ => passAt tk σ⟩
abbrev W0 : WX := fun _ _ _ _ => False
theorem pas0 : Pas X W0 := ⟨fun σ pins H s e s' I c => by
  obtain ⟨_, _, _, _, _, _, _, _, _, _, _, _, z⟩ := c
  exact z.elim⟩
/-- a def that may be called -/
structure Cal (P : Program) (w : World) (K : PySem.W.Frag) (mg : Mg) (base : Heap) (x : Str) (n k : Nat) (sp : DSp) : Prop where
  ex : ∃ f fd ps, mg x = some (.ref f) ∧ PySem.W.keepIn K (.ref f) = true ∧ Binds K fd ps [] ∧ ps.length = n ∧ FnOk P w K mg base (L2.CX P w) k f fd ps fun vs H Q E => vs.length = n ∧ liftSp K mg sp vs H Q E
theorem de_call {x : Str} {n k : Nat} {sp : DSp} {p : Pos} (C : Cal X.prog X.w X.K X.mg X.base x n k sp) (hr : Room k X.A) (hp : Pas X W) (hg : Gl X x) (ha : DA X W (e :: es) t) (hdb : (x == ("__debug__" : Str)) = false := by decide)
    (he : starEach (e :: es) X.env = (false, eval e X.env) :: starEach es X.env := by rfl) (hpl : (backTo pos (starEach es X.env)).any (·.1) = false := by rfl) : DE X W (.Call (.Name x p) (e :: es) [] pos) (dCall n sp t) := by
  obtain ⟨f, fd, ps, hm, hk, hb, hl, F⟩ := C.ex
  exact PE.imp (pe_callS F hr hg hm hk hb hp.run ha hdb he hpl) fun σ H Q ⟨ρ, S, F, QD, ED, ok, re, q, n, x⟩ => ⟨ρ, S, F, _, ED, ok, re, q, fun ds S1 vs H1 st1 ok1 rv1 ⟨l1, q1⟩ => ⟨rv1.length.trans l1, S1, F, ds, QD, ED, ok1, rv1, q1, n.step st1, x.step st1⟩, x⟩
end

/-! ### statements -/
abbrev DTG := D → Env' → Sto → (Env' → Sto → Prop) → Prop
abbrev DTGs := List D → Env' → Sto → (Env' → Sto → Prop) → Prop
abbrev DTI := Env' → Sto → (List D → (Sto → Prop) → Sto → Prop) → XD → Prop
section
variable (K : PySem.W.Frag) (mg : Mg)
def Out (is : List Nat) (σ σ' : L2.St) : Prop := σ'.length = σ.length ∧ ∀ j : Nat, j ∉ is → σ'[j]? = σ[j]?
def NSi (is : List Nat) (σ : L2.St) (F : Addr → Prop) (S : Sto) (H : Hp) (QD : Env' → Sto → Prop) (Q : L2.St → Hp → Prop) : Prop :=
  ∀ ρ S' σ' H', Step F S H S' H' → Ok K S' F H' → RepE K S' F H' ρ σ' → Out is σ σ' → QD ρ S' → Q σ' H'
def liftG (is : List Nat) (g : DTG) : TG := fun v σ H Q => ∃ d ρ S F QD, Ok K S F H ∧ RepE K S F H ρ σ ∧ RepV K S F H d v ∧ g d ρ S QD ∧ NSi K is σ F S H QD Q
def liftGs (is : List Nat) (g : DTGs) : TGs := fun vs σ H Q => ∃ ds ρ S F QD, Ok K S F H ∧ RepE K S F H ρ σ ∧ RepVs K S F H ds vs ∧ g ds ρ S QD ∧ NSi K is σ F S H QD Q
structure ItRep (F : Addr → Prop) (J : It) (its : List D) (G : Sto → Prop) (S : Sto) (H : Hp) : Prop where
  goes : ∀ i S' F' H', i < its.length → Keep S F H S' F' H' → Ok K S' F' H' → G S' → J.go i H'
  stops : ∀ S' F' H', Keep S F H S' F' H' → Ok K S' F' H' → G S' → J.stop its.length H'
  yields : ∀ i S' F' H' x H'', i < its.length → Keep S F H S' F' H' → Ok K S' F' H' → G S' → J.yld i H' x H'' → ∃ d, its[i]? = some d ∧ Step F' S' H' S' H'' ∧ Ok K S' F' H'' ∧ RepV K S' F' H'' d x
def liftI (W : WX) (t : DTI) : TI := fun σ H Q => ∃ ρ S F QD ED, Ok K S F H ∧ RepE K S F H ρ σ ∧ t ρ S QD ED ∧
  (∀ its G S1 J H1, Step F S H S1 H1 → Ok K S1 F H1 → ItRep K F J its G S1 H1 → QD its G S1 → Q J H1) ∧ XC K mg F S H ED (fun c d H' => W c d σ H')
end
abbrev DG (X : Cx) (is : List Nat) (tg : Expr) (g : DTG) : Prop := PG X tg (liftG X.K is g)
abbrev DGs (X : Cx) (is : List Nat) (tgs : List Expr) (g : DTGs) : Prop := PGs X tgs (liftGs X.K is g)
abbrev NX : XD := fun _ _ _ => False
abbrev DI (X : Cx) (W : WX) (tg it : Expr) (t : DTI) : Prop := PI X tg it (liftI X.K X.mg W t)
abbrev DPTs (X : Cx) (W : WX) (ifs : List Expr) (t : DTT) : Prop := PTs X ifs (liftT X.K X.mg W t)

/-- slots forgotten, frozen -/
def FrE (S S' : Sto) (ρ ρ' : Env') : Prop := ρ'.length = ρ.length ∧ ∀ (i : Nat) (e : D), ρ'[i]? = some (some e) → ∃ d, ρ[i]? = some (some d) ∧ Fr S S' d e
theorem FrE.refl (S S' : Sto) (ρ : Env') : FrE S S' ρ ρ := ⟨rfl, fun i e h => ⟨e, h, .same e⟩⟩
theorem FrE.cons {S S' : Sto} {d e : D} {ρ ρ' : Env'} (h : Fr S S' d e) (t : FrE S S' ρ ρ') : FrE S S' (some d :: ρ) (some e :: ρ') := by
  refine ⟨by rw [List.length_cons, List.length_cons, t.1], fun i x q => ?_⟩
  cases i with
  | zero =>
    have q' : e = x := by simpa using q
    exact ⟨d, rfl, q' ▸ h⟩
  | succ i => exact t.2 i x (by simpa using q)
theorem FrE.gone {S S' : Sto} {o : Option D} {ρ ρ' : Env'} (t : FrE S S' ρ ρ') : FrE S S' (o :: ρ) (none :: ρ') := by
  refine ⟨by rw [List.length_cons, List.length_cons, t.1], fun i x q => ?_⟩
  cases i with
  | zero => simp at q
  | succ i => exact t.2 i x (by simpa using q)
theorem FrE.nil {S S' : Sto} : FrE S S' [] [] := FrE.refl _ _ _
theorem FrE.rep {K : PySem.W.Frag} {S S' : Sto} {F : Addr → Prop} {H : Hp} {ρ ρ' : Env'} {σ : L2.St} (ok : Ok K S F H) (h : Sub S' S) (f : FrE S S' ρ ρ') (r : RepE K S F H ρ σ) : RepE K S' F H ρ' σ :=
  ⟨f.1.trans r.1, fun i e q => by
    obtain ⟨d, h1, h2⟩ := f.2 i e q
    obtain ⟨v, g1, g2⟩ := r.2 i d h1
    exact ⟨v, g1, h2.rep ok h g2⟩⟩
def Lax (P : Env' → Sto → Prop) : Env' → Sto → Prop := fun ρ S => ∃ S' ρ', Sub S' S ∧ FrE S S' ρ ρ' ∧ P ρ' S'
theorem Lax.of {P : Env' → Sto → Prop} {ρ : Env'} {S : Sto} (h : P ρ S) : Lax P ρ S := ⟨S, ρ, .refl S, .refl S S ρ, h⟩
/-- what is handed back: what changed may be dropped, or stay as it is -/
def Fin (Q : DK) : DK := fun d S => ∃ S' d', Sub S' S ∧ Fr S S' d d' ∧ Q d' S'
theorem Fin.of {Q : DK} {d : D} {S : Sto} (h : Q d S) : Fin Q d S := ⟨S, d, .refl S, .same d, h⟩

def dNext : DTS := fun D ρ S => D.nx ρ S
def dSeq (t u : DTS) : DTS := fun D ρ S => t { D with nx := u D } ρ S
def dDrop (te : DTE) : DTS := fun D ρ S => te ρ S (fun _ S1 => D.nx ρ S1) (fun c ds S' => D.xc c ds ρ S')
def dRet (te : DTE) : DTS := fun D ρ S => te ρ S D.rt (fun c ds S' => D.xc c ds ρ S')
def dRetN : DTS := fun D _ S => D.rt dN S
def dBreak : DTS := fun D ρ S => D.bk ρ S
def dCont : DTS := fun D ρ S => D.ct ρ S
def dIf (c : DTT) (t u : DTS) : DTS := fun D ρ S => c ρ S (fun b S1 => if b = true then t D ρ S1 else u D ρ S1) (fun c ds S' => D.xc c ds ρ S')
def dAsg (te : DTE) (g : DTG) : DTS := fun D ρ S => te ρ S (fun x S1 => g x ρ S1 D.nx) (fun c ds S' => D.xc c ds ρ S')
def gN (i : Nat) : DTG := fun d ρ S Q => Q (ρ.set i (some d)) S
def gs0 : DTGs := fun ds ρ S Q => ds = [] ∧ Q ρ S
def gsC (g : DTG) (gs : DTGs) : DTGs := fun ds ρ S Q => ∃ d r, ds = d :: r ∧ g d ρ S (fun ρ1 S1 => gs r ρ1 S1 Q)
/-- the items of a tuple, a list -/
def itemsOf (S : Sto) : D → Option (List D)
  | .tup l => some l
  | .lst l => some l
  | .v (.ref a) => match S a with
    | some (.lst l) => some l
    | _ => none
  | _ => none
def gT (n : Nat) (gs : DTGs) : DTG := fun d ρ S Q => ∃ l, itemsOf S d = some l ∧ l.length = n ∧ gs l ρ S Q
def gSub (o i : DTE) (r : D → D → D → Sto → (Sto → Prop) → Prop) : DTG := fun d ρ S Q => o ρ S (fun x S1 => i ρ S1 (fun y S2 => r x y d S2 fun S3 => Q ρ S3) NX) NX
def dAug (i : Nat) (te : DTE) (r : RD2) : DTS := fun D ρ S => ∃ x, ρ[i]? = some (some x) ∧ te ρ S (fun y S1 => r x y S1 fun z S2 => D.nx (ρ.set i (some z)) S2) (fun c ds S' => D.xc c ds ρ S')
def setAll : Env' → List Nat → List D → Env'
  | ρ, i :: is, d :: ds => setAll (ρ.set i (some d)) is ds
  | ρ, _, _ => ρ
def dPar (is : List Nat) (ta : DTA) : DTS := fun D ρ S => ta ρ S (fun ds S1 => ds.length = is.length ∧ D.nx (setAll ρ is ds) S1) (fun c ds S' => D.xc c ds ρ S')
def dFor (it : DTI) (g : DTG) (body : DTS) : DTS := fun D ρ S => it ρ S (fun its G S1 => ∃ I : Nat → Env' → Sto → Prop, I 0 ρ S1 ∧ ∀ k ρ S, k ≤ its.length → I k ρ S → G S ∧ (k = its.length → D.nx ρ S) ∧
  ∀ x, its[k]? = some x → g x ρ S fun ρ2 S2 => body { D with nx := Lax (I (k + 1)), ct := Lax (I (k + 1)), bk := D.nx } ρ2 S2) (fun c ds S' => D.xc c ds ρ S')
def dWhile (c : DTT) (body : DTS) : DTS := fun D ρ S => ∃ I : Nat → Env' → Sto → Prop, (∃ m, I m ρ S) ∧ ∀ m ρ S, I m ρ S →
  c ρ S (fun b S1 => if b = true then body { D with nx := Lax fun ρ' S' => ∃ m', m' < m ∧ I m' ρ' S', ct := Lax fun ρ' S' => ∃ m', m' < m ∧ I m' ρ' S', bk := D.nx } ρ S1 else D.nx ρ S1) (fun c ds S' => D.xc c ds ρ S')
def wipeE (ρ : Env') : List Nat → Env'
  | [] => ρ
  | v :: vs => (wipeE ρ vs).set v none
def dYes : DTT := fun _ S Q _ => Q true S
def dLc (vs : List Nat) (it : DTI) (g : DTG) (tt : DTT) (te : DTE) : DTE := fun ρ S Q E => it ρ S (fun its G S1 => ∃ I : Nat → List D → Sto → Prop, I 0 [] S1 ∧ ∀ k acc S, k ≤ its.length → I k acc S → G S ∧ (k = its.length → Q (.lst acc) S) ∧
  ∀ x, its[k]? = some x → g x (wipeE ρ vs) S fun ρ2 S2 => tt ρ2 S2 (fun b S3 => if b = true then te ρ2 S3 (fun y S4 => acc.length < sizeLine ∧ I (k + 1) (acc ++ [y]) S4) NX else I (k + 1) acc S3) NX) E

section
variable {X : Cx} {W : WX} {e a b c : Expr} {es rest : List Expr} {ta tb te : DTE} {tA tB tc : DTT} {t u : DTS} {pos : Pos} {st : Stmt} {sts : List Stmt}
theorem dss_nil : DSs X W [] dNext := PSs.imp pss_nil fun D σ H ⟨ρ, S, F, DD, ok, re, q, n⟩ => n.nx ρ S σ H .refl ok re q
theorem dss_cons (h1 : DS X W st t) (h2 : DSs X W sts u) : DSs X W (st :: sts) (dSeq t u) := PSs.imp (pss_cons h1 h2) fun D σ H ⟨ρ, S, F, DD, ok, re, q, n⟩ =>
  ⟨ρ, S, F, _, ok, re, q, ⟨fun ρ' S' σ' H' st' ok' re' q' => ⟨ρ', S', F, DD, ok', re', q', n.step st'⟩, n.rt, n.bk, n.ct, n.xc⟩⟩
theorem dss_one (h1 : DS X W st t) : DSs X W [st] t := pss_one h1
theorem ds_pass : DS X W (.Pass pos) dNext := PS.imp ps_pass fun D σ H ⟨ρ, S, F, DD, ok, re, q, n⟩ => n.nx ρ S σ H .refl ok re q
theorem ds_break : DS X W (.Break pos) dBreak := PS.imp ps_break fun D σ H ⟨ρ, S, F, DD, ok, re, q, n⟩ => n.bk ρ S σ H .refl ok re q
theorem ds_continue : DS X W (.Continue pos) dCont := PS.imp ps_continue fun D σ H ⟨ρ, S, F, DD, ok, re, q, n⟩ => n.ct ρ S σ H .refl ok re q
theorem ds_doc {x : Str} {j : Nat} {pos' : Pos} : DS X W (.Expr (.Constant (.str x) j pos) pos') dNext := PS.imp ps_doc fun D σ H ⟨ρ, S, F, DD, ok, re, q, n⟩ => n.nx ρ S σ H .refl ok re q
theorem ds_expr (he : DE X W e te) (hs : swapsWith e none pos.line X.env = pure false := by rfl) : DS X W (.Expr e pos) (dDrop te) := PS.imp (ps_expr he hs) fun D σ H ⟨ρ, S, F, DD, ok, re, q, n⟩ =>
  ⟨ρ, S, F, _, _, ok, re, q, fun d S1 v H1 st1 ok1 rv q1 => n.nx ρ S1 σ H1 st1 ok1 (re.step st1) q1, n.xc.xc re⟩
theorem ds_ret (he : DE X W e te) : DS X W (.Return (some e) pos) (dRet te) := PS.imp (ps_ret he) fun D σ H ⟨ρ, S, F, DD, ok, re, q, n⟩ => ⟨ρ, S, F, _, _, ok, re, q, n.rt, n.xc.xc re⟩
theorem ds_retN : DS X W (.Return none pos) dRetN := PS.imp ps_retN fun D σ H ⟨ρ, S, F, DD, ok, re, q, n⟩ => n.rt dN S .non H .refl ok rfl q
theorem ds_if {as bs : List Stmt} (hc : DT X W c tc) (ha : DSs X W as t) (hb : DSs X W bs u) : DS X W (.If c as bs pos) (dIf tc t u) := PS.imp (ps_if hc ha hb) fun D σ H ⟨ρ, S, F, DD, ok, re, q, n⟩ =>
  ⟨ρ, S, F, _, _, ok, re, q, fun b S1 H1 st1 ok1 q1 => by
    cases b with
    | true => exact ⟨ρ, S1, F, DD, ok1, re.step st1, q1, n.step st1⟩
    | false => exact ⟨ρ, S1, F, DD, ok1, re.step st1, q1, n.step st1⟩, n.xc.xc re⟩
/-! targets -/
theorem Out.refl {is : List Nat} {σ : L2.St} : Out is σ σ := ⟨rfl, fun _ _ => rfl⟩
theorem Out.trans {is : List Nat} {σ σ1 σ2 : L2.St} (a : Out is σ σ1) (b : Out is σ1 σ2) : Out is σ σ2 := ⟨b.1.trans a.1, fun j hj => (b.2 j hj).trans (a.2 j hj)⟩
theorem Out.mono {is js : List Nat} {σ σ1 : L2.St} (a : Out is σ σ1) (h : ∀ i ∈ is, i ∈ js) : Out js σ σ1 := ⟨a.1, fun j hj => a.2 j fun z => hj (h j z)⟩
theorem dg_name {i : Nat} {x : Str} (hN : X.N.Nodup) (hi : X.N[i]? = some x) (hx : Loc X.env.scope x) (hf : X.fn x = true ∨ X.env.scope.names.lookup x = some .local := by first | exact .inl rfl | exact .inr rfl | assumption) : DG X [i] (.Name x pos) (gN i) := by
  refine ⟨fun pins s σ H v u Q I r h => (pg_name hN hi hx hf).run pins s σ H v u Q I r ?_⟩
  obtain ⟨d, ρ, S, F, QD, ok, re, rv, q, n⟩ := h
  refine n _ S _ H .refl ok (re.set rv) ⟨List.length_set, fun j hj => ?_⟩ q
  exact List.getElem?_set_ne fun z => hj (by simp [z])
theorem dgs_nil {is : List Nat} : DGs X is [] gs0 := by
  refine ⟨fun pins s σ H vs us Q I r h => pgs_nil.run pins s σ H vs us Q I r ?_⟩
  obtain ⟨d, ρ, S, F, QD, ok, re, rv, ⟨e, q⟩, n⟩ := h
  subst e
  exact ⟨rv, n _ S _ H .refl ok re .refl q⟩
theorem dgs_cons {is js ks : List Nat} {g : DTG} {gs : DTGs} (h1 : DG X is e g) (h2 : DGs X js es gs) (hs : (assignEach (e :: es) X.env).map (·.2) = assign e X.env :: (assignEach es X.env).map (·.2) := by rfl) (hk : ks = is ++ js := by rfl) :
    DGs X ks (e :: es) (gsC g gs) := by
  subst hk
  refine ⟨fun pins s σ H vs us Q I r h => (pgs_cons h1 h2 hs).run pins s σ H vs us Q I r ?_⟩
  obtain ⟨ds, ρ, S, F, QD, ok, re, rv, ⟨d, rr, e1, q⟩, n⟩ := h
  subst e1
  obtain ⟨v, vr, rfl, r1, r2⟩ := rv
  refine ⟨v, vr, rfl, d, ρ, S, F, _, ok, re, r1, q, fun ρ1 S1 σ1 H1 st1 ok1 re1 o1 q1 => ⟨rr, ρ1, S1, F, QD, ok1, re1, r2.step st1, q1, fun ρ2 S2 σ2 H2 st2 ok2 re2 o2 q2 => ?_⟩⟩
  exact n ρ2 S2 σ2 H2 (st1.trans st2) ok2 re2 ((o1.mono fun i hi => List.mem_append_left _ hi).trans (o2.mono fun i hi => List.mem_append_right _ hi)) q2
theorem PG.or {tg : Expr} {t1 t2 : TG} (h1 : PG X tg t1) (h2 : PG X tg t2) : PG X tg (fun v σ H Q => t1 v σ H Q ∨ t2 v σ H Q) := ⟨fun pins s σ H v u Q I r h => h.elim (h1.run pins s σ H v u Q I r) (h2.run pins s σ H v u Q I r)⟩
theorem PG.imp {tg : Expr} {t1 t2 : TG} (h1 : PG X tg t1) (i : ∀ v σ H Q, t2 v σ H Q → t1 v σ H Q) : PG X tg t2 := ⟨fun pins s σ H v u Q I r h => h1.run pins s σ H v u Q I r (i v σ H Q h)⟩
variable {K : PySem.W.Frag} {S : Sto} {F : Addr → Prop} {H : Hp}
theorem RepV.sqt {l : List D} {v : V} (h : RepV K S F H (.tup l) v) : ∃ a vs, v = .ref a ∧ SqT K H a vs ∧ RepVs K S F H l vs := by
  obtain ⟨a, vs, e, t, r⟩ := h
  exact ⟨a, vs, e, t.imp (fun t => t.1) id, r⟩
/-- a list that is read: it stays, or it changes and stands in the store -/
theorem items_rep {d : D} {l : List D} {v : V} (ok : Ok K S F H) (h : RepV K S F H d v) (e : itemsOf S d = some l) : ∃ a vs, v = .ref a ∧ (SqT K H a vs ∨ H a = some (.lst vs)) ∧ RepVs K S F H l vs := by
  cases d with
  | v x =>
    cases x <;> first | (simp [itemsOf] at e; done) | skip
    rename_i a
    simp only [itemsOf] at e
    cases q : S a with
    | none => rw [q] at e; simp at e
    | some d0 =>
      rw [q] at e
      cases d0 <;> first | (simp at e; done) | skip
      rename_i m
      have e' : m = l := by simpa using e
      subst e'
      obtain ⟨f, o, ho, r⟩ := ok.rep a _ q
      cases o <;> first | exact r.elim | skip
      rename_i vs
      exact ⟨a, vs, h, .inr ho, r⟩
  | tup m =>
    have e' : m = l := by simpa [itemsOf] using e
    subst e'
    obtain ⟨a, vs, e, s, r⟩ := h.sqt
    exact ⟨a, vs, e, .inl s, r⟩
  | lst m =>
    have e' : m = l := by simpa [itemsOf] using e
    subst e'
    obtain ⟨a, vs, e, s, _, _, r⟩ := h
    exact ⟨a, vs, e, .inr s, r⟩
  | dic _ _ => simp [itemsOf] at e
  | dct _ _ => simp [itemsOf] at e
  | ins _ _ _ => simp [itemsOf] at e
  | scr _ => simp [itemsOf] at e
theorem dg_tup {is : List Nat} {k n : Nat} {gs : DTGs} (hc : X.calm = true) (h : DGs X is es gs) (hn : (assignEach es X.env).length = n := by rfl) (hst : (assignEach es X.env).findIdx? (·.1) = none := by rfl) : DG X is (.Tuple es k pos) (gT n gs) :=
  PG.imp (PG.or (pg_tup hc h hn hst) (pg_lst hc h hn hst)) fun v σ H Q ⟨d, ρ, S, F, QD, ok, re, rv, ⟨l, e, hl, q⟩, n⟩ => by
    obtain ⟨a, vs, e1, s, r⟩ := items_rep ok rv e
    rcases s with s | s
    · exact .inl ⟨a, vs, e1, s, r.length.trans hl, l, ρ, S, F, QD, ok, re, r, q, n⟩
    · exact .inr ⟨a, vs, e1, SqL.of s, r.length.trans hl, l, ρ, S, F, QD, ok, re, r, q, n⟩
theorem ds_asg {is : List Nat} {tg : Expr} {g : DTG} (he : DE X W e te) (hg : DG X is tg g) (hs : swapsWithSole [tg] e pos.line X.env = pure false := by rfl) (hw : swappedStores [tg] e X.env = pure none := by rfl)
    (h1 : (assignEach [tg] X.env).map (·.2) = [assign tg X.env] := by rfl) : DS X W (.Assign [tg] e pos) (dAsg te g) := PS.imp (ps_asg he hg hs hw h1) fun D σ H ⟨ρ, S, F, DD, ok, re, q, n⟩ =>
  ⟨ρ, S, F, _, _, ok, re, q, fun d S1 v H1 st1 ok1 rv q1 => ⟨d, ρ, S1, F, DD.nx, ok1, re.step st1, rv, q1, fun ρ2 S2 σ2 H2 st2 ok2 re2 o2 q2 => n.nx ρ2 S2 σ2 H2 (st1.trans st2) ok2 re2 q2⟩, n.xc.xc re⟩
theorem ds_set {i : Nat} {x : Str} {pos' : Pos} (hN : X.N.Nodup) (hi : X.N[i]? = some x) (hx : Loc X.env.scope x) (he : DE X W e te) (hs : swapsWith e (some (.Name x pos')) pos.line X.env = pure false := by rfl) (hf : X.fn x = true ∨ X.env.scope.names.lookup x = some .local := by first | exact .inl rfl | exact .inr rfl | assumption) :
    DS X W (.Assign [.Name x pos'] e pos) (dAsg te (gN i)) := PS.imp (ps_set hN hi hx he hs hf) fun D σ H ⟨ρ, S, F, DD, ok, re, q, n⟩ =>
  ⟨ρ, S, F, _, _, ok, re, q, fun d S1 v H1 st1 ok1 rv q1 => n.nx _ S1 _ H1 st1 ok1 ((re.step st1).set rv) q1, n.xc.xc re⟩
theorem ds_aug {i : Nat} {x : Str} {op : Operator} {r : RD2} {pos' : Pos} (hN : X.N.Nodup) (hi : X.N[i]? = some x) (hx : Loc X.env.scope x) (he : DE X W e te) (ho : DOp X (inplaceOp op) r) (hf : X.fn x = true ∨ X.env.scope.names.lookup x = some .local := by first | exact .inl rfl | exact .inr rfl | assumption) :
    DS X W (.AugAssign (.Name x pos') op e pos) (dAug i te r) := PS.imp (ps_aug (ti := liftR X.K r) hN hi hx he ho hf) fun D σ H ⟨ρ, S, F, DD, ok, re, ⟨d, e1, q⟩, n⟩ => by
  obtain ⟨v, h1, h2⟩ := re.2 i d e1
  exact ⟨v, h1, ρ, S, F, _, _, ok, re, q, fun dy S1 y H1 st1 ok1 rv1 q1 => ⟨S1, F, d, dy, _, ok1, h2.step st1, rv1, q1, fun dz S2 z H2 st2 ok2 rv2 q2 => n.nx _ S2 _ H2 (st1.trans st2) ok2 ((re.step (st1.trans st2)).set rv2) q2⟩, n.xc.xc re⟩
theorem ds_par {i j : Nat} {x y : Str} {ta : DTA} {px py pt : Pos} {kt k2 pt2} (hc : X.calm = true) (hN : X.N.Nodup) (hi : X.N[i]? = some x) (hj : X.N[j]? = some y) (hij : i ≠ j)
    (hx : X.env.scope.names.lookup x = some .local) (hy : X.env.scope.names.lookup y = some .local) (ha : DA X W [a, b] ta)
    (hw : swappedStores [.Tuple [.Name x px, .Name y py] kt pt] (.Tuple [a, b] k2 pt2) X.env = pure (some [x, y]))
    (hs : swapsWithSole [.Tuple [.Name x px, .Name y py] kt pt] (.Tuple [a, b] k2 pt2) pos.line X.env = pure false := by rfl) :
    DS X W (.Assign [.Tuple [.Name x px, .Name y py] kt pt] (.Tuple [a, b] k2 pt2) pos) (dPar [i, j] ta) := PS.imp (ps_par hc hN hi hj hij hx hy ha hw hs) fun D σ H ⟨ρ, S, F, DD, ok, re, q, n⟩ =>
  ⟨ρ, S, F, _, _, ok, re, q, fun ds S1 vs H1 st1 ok1 rv ⟨l1, q1⟩ => by
    match ds, l1, rv, q1 with
    | [d1, d2], _, rv, q1 =>
      obtain ⟨v1, r1, rfl, h1, v2, r2, rfl, h2, h3⟩ := rv
      cases h3
      exact ⟨v1, v2, rfl, n.nx _ S1 _ H1 st1 ok1 (((re.step st1).set h1).set h2) q1⟩, n.xc.xc re⟩
theorem ds_par3 {i j l : Nat} {x y z : Str} {ta : DTA} {px py pz pt : Pos} {kt k2 pt2} (hc : X.calm = true) (hN : X.N.Nodup) (hi : X.N[i]? = some x) (hj : X.N[j]? = some y) (hl : X.N[l]? = some z) (hij : i ≠ j) (hil : i ≠ l) (hjl : j ≠ l)
    (hx : X.env.scope.names.lookup x = some .local) (hy : X.env.scope.names.lookup y = some .local) (hz : X.env.scope.names.lookup z = some .local) (ha : DA X W [a, b, c] ta)
    (hw : swappedStores [.Tuple [.Name x px, .Name y py, .Name z pz] kt pt] (.Tuple [a, b, c] k2 pt2) X.env = pure (some [x, y, z]))
    (hs : swapsWithSole [.Tuple [.Name x px, .Name y py, .Name z pz] kt pt] (.Tuple [a, b, c] k2 pt2) pos.line X.env = pure false := by rfl) :
    DS X W (.Assign [.Tuple [.Name x px, .Name y py, .Name z pz] kt pt] (.Tuple [a, b, c] k2 pt2) pos) (dPar [i, j, l] ta) := PS.imp (ps_par3 hc hN hi hj hl hij hil hjl hx hy hz ha hw hs) fun D σ H ⟨ρ, S, F, DD, ok, re, q, n⟩ =>
  ⟨ρ, S, F, _, _, ok, re, q, fun ds S1 vs H1 st1 ok1 rv ⟨l1, q1⟩ => by
    match ds, l1, rv, q1 with
    | [d1, d2, d3], _, rv, q1 =>
      obtain ⟨v1, r1, rfl, h1, v2, r2, rfl, h2, v3, r3, rfl, h3, h4⟩ := rv
      cases h4
      exact ⟨v1, v2, v3, rfl, n.nx _ S1 _ H1 st1 ok1 ((((re.step st1).set h1).set h2).set h3) q1⟩, n.xc.xc re⟩
/-! loops -/
theorem Lax.elim {P : Env' → Sto → Prop} {σ : L2.St} {ρ : Env'} {S1 : Sto} {H1 : Hp} (ok : Ok K S F H) (re : RepE K S F H ρ σ) (h : Lax P ρ S) : ∃ ρ' S', Sub S' S ∧ Ok K S' F H ∧ RepE K S' F H ρ' σ ∧ P ρ' S' := by
  obtain ⟨S', ρ', s, f, p⟩ := h
  exact ⟨ρ', S', s, ok.sub s, f.rep ok s re, p⟩
theorem ds_for {iter tg : Expr} {is : List Nat} {body : List Stmt} {it : DTI} {g : DTG} {tb : DTS} (hp : PassesOwn (model X.prog X.w) X.A X.env X.xe) (hc : X.calm = true) (hi : DI X W tg iter it) (hg : DG X is tg g) (hb : DSs X W body tb)
    (hs : ∀ x, foldedSetIterable iter X.env x = pure x := by intro _; rfl) : DS X W (.For tg iter body [] pos) (dFor it g tb) := PS.imp (ps_for hp hc hi hg hb hs) fun D σ H ⟨ρ, S, F, DD, ok, re, q, n⟩ =>
  ⟨ρ, S, F, _, _, ok, re, q, fun its G S1 J H1 st1 ok1 ir ⟨I, i0, turn⟩ => by
    refine ⟨fun i m σ' H' => ∃ ρ' S', i ≤ its.length ∧ m = its.length - i ∧ Step F S1 H1 S' H' ∧ Ok X.K S' F H' ∧ RepE X.K S' F H' ρ' σ' ∧ I i ρ' S', ⟨_, ρ, S1, Nat.zero_le _, rfl, .refl, ok1, re.step st1, i0⟩, ?_⟩
    rintro i m σ' H' ⟨ρ', S', hi, em, st', ok', re', iv⟩
    obtain ⟨hG, hend, hturn⟩ := turn i ρ' S' hi iv
    by_cases hlt : i < its.length
    · refine .inr ⟨ir.goes i S' F H' hlt st'.keep ok' hG, fun σ2 H2 => ∃ ρ2 S2, Step F S1 H1 S2 H2 ∧ Ok X.K S2 F H2 ∧ RepE X.K S2 F H2 ρ2 σ2 ∧ I (i + 1) ρ2 S2, fun σ2 H2 ⟨ρ2, S2, a1, a2, a3, a4⟩ => ⟨m - 1, by omega, ρ2, S2, hlt, by omega, a1, a2, a3, a4⟩, fun x H2 hy => ?_⟩
      obtain ⟨d, hd, st2, ok2, rv⟩ := ir.yields i S' F H' x H2 hlt st'.keep ok' hG hy
      refine ⟨d, ρ', S', F, _, ok2, re'.step st2, rv, hturn d hd, fun ρ3 S3 σ3 H3 st3 ok3 re3 o3 q3 => ⟨ρ3, S3, F, _, ok3, re3, q3, ?_⟩⟩
      have base := (st'.trans st2).trans st3
      have lax : NS X.K F S3 H3 (Lax (I (i + 1))) fun σ2 H2 => ∃ ρ2 S2, Step F S1 H1 S2 H2 ∧ Ok X.K S2 F H2 ∧ RepE X.K S2 F H2 ρ2 σ2 ∧ I (i + 1) ρ2 S2 := fun ρ4 S4 σ4 H4 st4 ok4 re4 q4 => by
        obtain ⟨ρ5, S5, s5, ok5, re5, p5⟩ := q4.elim (S1 := S) (H1 := H) (ρ := ρ4) ok4 re4
        exact ⟨ρ5, S5, (base.trans st4).sub s5, ok5, re5, p5⟩
      have ne := (n.step st1).step base
      exact ⟨lax, ne.rt, ne.nx, lax, ne.xc⟩
    · have e : i = its.length := by omega
      subst e
      exact .inl ⟨ir.stops S' F H' st'.keep ok' hG, ((n.step st1).step st').nx ρ' S' σ' H' .refl ok' re' (hend rfl)⟩, n.xc.xc re⟩
theorem ds_while {body : List Stmt} {tb : DTS} (hp : PassesOwn (model X.prog X.w) X.A X.env X.xe) (hc : DT X W c tc) (hb : DSs X W body tb) : DS X W (.While c body [] pos) (dWhile tc tb) := PS.imp (ps_while hp hc hb) fun D σ H ⟨ρ, S, F, DD, ok, re, ⟨I, ⟨m0, i0⟩, turn⟩, n⟩ => by
  refine ⟨fun m σ' H' => ∃ ρ' S', Step F S H S' H' ∧ Ok X.K S' F H' ∧ RepE X.K S' F H' ρ' σ' ∧ I m ρ' S', ⟨m0, ρ, S, .refl, ok, re, i0⟩, ?_⟩
  rintro m σ' H' ⟨ρ', S', st', ok', re', iv⟩
  refine ⟨ρ', S', F, _, _, ok', re', turn m ρ' S' iv, fun b S1 H1 st1 ok1 q1 => ?_, (n.step st').xc.xc re'⟩
  have base := st'.trans st1
  cases b with
  | true =>
    refine iteT ⟨fun σ2 H2 => ∃ ρ2 S2, Step F S H S2 H2 ∧ Ok X.K S2 F H2 ∧ RepE X.K S2 F H2 ρ2 σ2 ∧ ∃ m', m' < m ∧ I m' ρ2 S2, fun σ2 H2 ⟨ρ2, S2, a1, a2, a3, m', a4, a5⟩ => ⟨m', a4, ρ2, S2, a1, a2, a3, a5⟩, ρ', S1, F, _, ok1, re'.step st1, q1, ?_⟩
    have lax : NS X.K F S1 H1 (Lax fun ρ' S' => ∃ m', m' < m ∧ I m' ρ' S') fun σ2 H2 => ∃ ρ2 S2, Step F S H S2 H2 ∧ Ok X.K S2 F H2 ∧ RepE X.K S2 F H2 ρ2 σ2 ∧ ∃ m', m' < m ∧ I m' ρ2 S2 := fun ρ4 S4 σ4 H4 st4 ok4 re4 q4 => by
      obtain ⟨ρ5, S5, s5, ok5, re5, p5⟩ := q4.elim (S1 := S) (H1 := H) (ρ := ρ4) ok4 re4
      exact ⟨ρ5, S5, (base.trans st4).sub s5, ok5, re5, p5⟩
    have ne := n.step base
    exact ⟨lax, ne.rt, ne.nx, lax, ne.xc⟩
  | false =>
    exact iteF <| (n.step base).nx ρ' S1 σ' H1 .refl ok1 (re'.step st1) q1
end
section
variable {X : Cx} {W : WX} {e a b c : Expr} {es rest : List Expr} {ta tb te : DTE} {tA tB tc : DTT} {pos : Pos}
variable {K : PySem.W.Frag} {mg : Mg} {S S' S1 : Sto} {F : Addr → Prop} {H H' H1 : Hp} {ρ : Env'} {σ : L2.St}
/-! ### comprehensions -/
theorem wipe_rep : ∀ (vs : List Nat), RepE K S F H ρ σ → RepE K S F H (wipeE ρ vs) (wipe σ vs)
  | [], r => r
  | v :: vs, r => (wipe_rep vs r).forget
theorem out_wipe {σ1 σ2 : L2.St} : ∀ {vs : List Nat}, Out vs σ1 σ2 → wipe σ2 vs = wipe σ1 vs := fun {vs} o => by
  have hv : ∀ (vs : List Nat) (σ : L2.St) (j : Nat), (wipe σ vs)[j]? = if j ∈ vs then (if j < σ.length then some none else none) else σ[j]? := fun vs => by
    induction vs with
    | nil => intro σ j; simp [wipe]
    | cons v vs ih =>
      intro σ j
      show ((wipe σ vs).set v none)[j]? = _
      rw [List.getElem?_set, wipe_length, ih]
      by_cases e : v = j
      · subst e; simp
      · have e' : j ≠ v := fun z => e z.symm
        simp [e, e', List.mem_cons]
  apply List.ext_getElem?
  intro j
  rw [hv, hv, o.1]
  by_cases h : j ∈ vs
  · simp [h]
  · simp [h]; exact o.2 j h
theorem out_self : ∀ (vs : List Nat) (σ : L2.St), Out vs σ (wipe σ vs) := fun vs σ => ⟨wipe_length σ vs, fun j hj => wipe_out hj⟩
theorem wipe_wipe (σ : L2.St) (vs : List Nat) : wipe (wipe σ vs) vs = wipe σ vs := out_wipe (out_self vs σ)
theorem xc0 {W : XK} : XC K mg F S H NX W := fun _ _ _ _ _ _ _ _ h => h.elim
theorem Keep.trans {S2 : Sto} {F1 F2 : Addr → Prop} {H2 : Hp} (a : Keep S F H S1 F1 H1) (b : Keep S1 F1 H1 S2 F2 H2) : Keep S F H S2 F2 H2 := fun x o h s f => let ⟨h1, s1, f1⟩ := a x o h s f; b x o h1 s1 f1
theorem dpts_nil : DPTs X W [] dYes := ⟨fun pins s σ H Q I ⟨ρ, S, F, QD, ED, ok, re, q, n, x⟩ => pts_nil.run pins s σ H Q I (n true S H .refl ok q)⟩
theorem dpts_one (h : DT X W c tc) : DPTs X W [c] tc := pts_one h
/-- a hidden list grows -/
theorem grow {H2 : Hp} {D : Addr} {o o' : HO} (ok : Ok K S (fun a => F a ∨ a = D) H2) (hD : H2 D = some o) (nf : ¬ F D) : Ok K S (fun a => F a ∨ a = D) (upd H2 D o') ∧ Keep S (fun a => F a ∨ a = D) H2 S (fun a => F a ∨ a = D) (upd H2 D o') := by
  have k : Keep S (fun a => F a ∨ a = D) H2 S (fun a => F a ∨ a = D) (upd H2 D o') := fun a u e s f => by
    have ne : a ≠ D := fun z => f (.inr z)
    rw [upd_ne ne]
    exact ⟨e, s, f⟩
  refine ⟨⟨fun a d e => ?_, fun a f => ?_⟩, k⟩
  · obtain ⟨f, u, e1, r⟩ := ok.rep a d e
    have ne : a ≠ D := fun z => f (.inr z)
    exact ⟨f, u, by rw [upd_ne ne]; exact e1, r.keep k⟩
  · by_cases ea : a = D
    · exact ⟨o', by rw [ea]; exact upd_same⟩
    · obtain ⟨u, e⟩ := ok.hid a f
      exact ⟨u, by rw [upd_ne ea]; exact e⟩
/-- from the hidden frame back -/
theorem RepVs.unhide {D : Addr} {l : List L2.V} {ds : List DL.D} (r : RepVs K S (fun a => F a ∨ a = D) H ds l) : RepVs K S F H ds l := r.keep fun a o e s f => ⟨e, s, fun z => f (.inl z)⟩
theorem Ok.unhide {D : Addr} (ok : Ok K S (fun a => F a ∨ a = D) H) : Ok K S F H := ⟨fun a d e => by
  obtain ⟨f, u, e1, r⟩ := ok.rep a d e
  exact ⟨fun z => f (.inl z), u, e1, r.keep fun a o e s f => ⟨e, s, fun z => f (.inl z)⟩⟩, fun a f => ok.hid a (.inl f)⟩
/-- the frame with the new list hidden -/
theorem hide {D : Addr} {o : HO} (ok : Ok K S F H) (hD : H D = none) : Ok K S (fun a => F a ∨ a = D) (upd H D o) ∧ Keep S F H S (fun a => F a ∨ a = D) (upd H D o) := by
  obtain ⟨sD, fD⟩ := ok.none_of hD
  have k : Keep S F H S (fun a => F a ∨ a = D) (upd H D o) := fun a u e s f => by
    have ne := ne_of_none e hD
    rw [upd_ne ne]
    exact ⟨e, s, fun z => z.elim f ne⟩
  refine ⟨⟨fun a d e => ?_, fun a f => ?_⟩, k⟩
  · obtain ⟨f, u, e1, r⟩ := ok.rep a d e
    have ne := ne_of_none e1 hD
    exact ⟨fun z => z.elim f ne, u, by rw [upd_ne ne]; exact e1, r.keep k⟩
  · by_cases ea : a = D
    · exact ⟨o, by rw [ea]; exact upd_same⟩
    · obtain ⟨u, e⟩ := ok.hid a (f.resolve_right ea)
      exact ⟨u, by rw [upd_ne ea]; exact e⟩
/-- steps with a hidden list, seen from ahead -/
structure Hid (F : Addr → Prop) (D : Addr) (S : Sto) (H : Hp) (S' : Sto) (H' : Hp) : Prop where
  keep : Keep S F H S' (fun a => F a ∨ a = D) H'
  hid : ∀ a, F a → H' a = H a
theorem Hid.then {D : Addr} {S2 : Sto} {H2 : Hp} (h : Hid F D S H S1 H1) (st : Step (fun a => F a ∨ a = D) S1 H1 S2 H2) : Hid F D S H S2 H2 :=
  ⟨fun a o e s f => let ⟨h1, s1, f1⟩ := h.keep a o e s f; st.keep a o h1 s1 f1, fun a f => (st.hid a (.inl f)).trans (h.hid a f)⟩
theorem Hid.grow {D : Addr} {o : HO} (h : Hid F D S H S1 H1) (nf : ¬ F D) : Hid F D S H S1 (upd H1 D o) := by
  refine ⟨fun a u e s f => ?_, fun a f => ?_⟩
  · obtain ⟨h1, s1, f1⟩ := h.keep a u e s f
    have ne : a ≠ D := fun z => f1 (.inr z)
    rw [upd_ne ne]; exact ⟨h1, s1, f1⟩
  · have ne : a ≠ D := fun z => nf (z ▸ f)
    rw [upd_ne ne]; exact h.hid a f
theorem Hid.step {D : Addr} (h : Hid F D S H S1 H1) : Step F S H S1 H1 := ⟨fun a o e s f => let ⟨h1, s1, f1⟩ := h.keep a o e s f; ⟨h1, s1, fun z => f1 (.inl z)⟩, h.hid⟩
theorem hid_start {D : Addr} {o : HO} (ok : Ok K S F H) (hD : H D = none) : Hid F D S H S (upd H D o) := ⟨(hide (o := o) ok hD).2, fun a f => by
  obtain ⟨u, e⟩ := ok.hid a f
  rw [upd_ne (ne_of_none e hD)]⟩
theorem de_lc {elt tg iter : Expr} {ifs : List Expr} {scope : Scope} {own : List (Str × Nat)} {is : List Nat} {it : DTI} {g : DTG} {tt : DTT} (hc : X.calm = true) (hN : X.N.Nodup) (hi : DI X W tg iter it) (ok : BlkOk X.N X.env.scope scope own)
    (hg : ∀ (s : Shared) (H : Hp) (C : Addr) (cl : List (Str × Addr)) (fp : List Addr), DG (X.blk s H scope (compEnvC scope cl C X.env) fp) is tg g)
    (ht : ∀ (s : Shared) (H : Hp) (C : Addr) (cl : List (Str × Addr)) (fp : List Addr), DPTs (X.blk s H scope (compEnvC scope cl C X.env) fp) W0 ifs tt)
    (he : ∀ (s : Shared) (H : Hp) (C : Addr) (cl : List (Str × Addr)) (fp : List Addr), DE (X.blk s H scope (compEnvC scope cl C X.env) fp) W0 elt te) (his : ∀ i ∈ is, i ∈ own.map (·.2)) (hs : ∀ x, foldedSetIterable iter X.env x = pure x := by intro _; rfl) :
    DE X W (.ListComp elt [⟨tg, iter, ifs, 0⟩] scope pos) (dLc (own.map (·.2)) it g tt te) := PE.imp (pe_lc (g := liftG X.K is g) (tt := liftT X.K X.mg W0 tt) (te := liftE X.K X.mg W0 te) hc hN hi ok hg ht he hs) fun σ H Q ⟨ρ, S, F, QD, ED, ok, re, q, n, x⟩ =>
  ⟨ρ, S, F, _, ED, ok, re, q, fun its G S1 J H1 st1 ok1 ir ⟨I, i0, turn⟩ D hD => by
    obtain ⟨sD, fD⟩ := ok1.none_of hD
    refine ⟨fun i m H' => ∃ acc S' vs, i ≤ its.length ∧ m = its.length - i ∧ Hid F D S1 H1 S' H' ∧ Ok X.K S' (fun a => F a ∨ a = D) H' ∧ H' D = some (.lst vs) ∧ RepVs X.K S' (fun a => F a ∨ a = D) H' acc vs ∧ I i acc S',
      ⟨_, [], S1, [], Nat.zero_le _, rfl, hid_start ok1 hD, (hide ok1 hD).1, upd_same, rfl, i0⟩, ?_⟩
    rintro i m H' ⟨acc, S', vs, hi, em, hd, ok', hv, rv, iv⟩
    obtain ⟨hG, hend, hturn⟩ := turn i acc S' hi iv
    by_cases hlt : i < its.length
    · refine .inr ⟨ir.goes i S' _ H' hlt hd.keep ok' hG, fun H2 => ∃ acc S2 vs, Hid F D S1 H1 S2 H2 ∧ Ok X.K S2 (fun a => F a ∨ a = D) H2 ∧ H2 D = some (.lst vs) ∧ RepVs X.K S2 (fun a => F a ∨ a = D) H2 acc vs ∧ I (i + 1) acc S2,
        fun H2 ⟨acc, S2, vs, a1, a2, a3, a4, a5⟩ => ⟨m - 1, by omega, acc, S2, vs, hlt, by omega, a1, a2, a3, a4, a5⟩, fun x H2 hy => ?_⟩
      obtain ⟨d, hd2, st2, ok2, rd⟩ := ir.yields i S' _ H' x H2 hlt hd.keep ok' hG hy
      have re2 : RepE X.K S' (fun a => F a ∨ a = D) H2 ρ σ := re.keep ((st1.keep.trans hd.keep).trans st2.keep)
      refine ⟨d, _, S', _, _, ok2, wipe_rep _ re2, rd, hturn d hd2, fun ρ3 S3 σ3 H3 st3 ok3 re3 o3 q3 => ⟨(out_wipe (o3.mono his)).trans (wipe_wipe _ _), ρ3, S3, _, _, NX, ok3, re3, q3, fun b S4 H4 st4 ok4 q4 => ?_, xc0⟩⟩
      have h4 : Hid F D S1 H1 S4 H4 := ((hd.then st2).then st3).then st4
      have e4 : H4 D = some (.lst vs) := by rw [st4.hid D (.inr rfl), st3.hid D (.inr rfl), st2.hid D (.inr rfl)]; exact hv
      have rv4 : RepVs X.K S4 (fun a => F a ∨ a = D) H4 acc vs := ((rv.step st2).step st3).step st4
      cases b with
      | true =>
        refine iteT ⟨ρ3, S4, _, _, NX, ok4, re3.step st4, q4, fun d5 S5 v5 H5 st5 ok5 rv5 ⟨hl, q5⟩ => ?_, xc0⟩
        have h5 := h4.then st5
        have e5 : H5 D = some (.lst vs) := by rw [st5.hid D (.inr rfl)]; exact e4
        have rv6 : RepVs X.K S5 (fun a => F a ∨ a = D) H5 (acc ++ [d5]) (vs ++ [v5]) := (rv4.step st5).append (.one rv5)
        obtain ⟨okg, kg⟩ := DL.grow (o' := .lst (vs ++ [v5])) ok5 e5 fD
        exact ⟨vs, e5, by rw [rv4.length]; exact hl, acc ++ [d5], S5, vs ++ [v5], h5.grow fD, okg, upd_same, rv6.keep kg, q5⟩
      | false => exact iteF ⟨acc, S4, vs, h4, ok4, e4, rv4, q4⟩
    · have e : i = its.length := by omega
      subst e
      refine .inl ⟨ir.stops S' _ H' hd.keep ok' hG, (n.step st1) (.lst acc) S' (.ref D) H' hd.step ok'.unhide ⟨D, vs, rfl, hv, ?_, fD, rv.unhide⟩ (hend rfl)⟩
      cases q : S' D with
      | none => rfl
      | some d0 => exact absurd (.inr rfl) (ok'.rep D d0 q).1, x⟩
end
/-! ### what is walked: a list, a tuple, a text; alone, counted, two or three beside each other -/
inductive Sk where
  | l (a : Addr) | t (a : Addr) | s (z : Str) (tk : Tok)
namespace Sk
def it : Sk → Addr → Nat → Heap → Prop
  | .l a, it, i, h => h.IsListIter it a i
  | .t a, it, i, h => h.IsTupleIter it a i
  | .s z tk, it, i, h => h.IsStrIter it (strIterType z) z tk i
def src : Sk → Array Value → Heap → Prop
  | .l a, its, h => h.IsList a its
  | .t a, its, h => h.IsTuple a its
  | .s _ _, _, _ => True
def fp : Sk → List Addr
  | .l a => [a]
  | .t a => [a]
  | .s _ _ => []
def n : Sk → Array Value → Nat
  | .s z _, _ => z.cps.size
  | _, its => its.size
def P : Sk → Array Value → Nat → Value → Prop
  | .s z _, _ => fun i v => ∃ c u, z.cps[i]? = some c ∧ v = .str ⟨#[c]⟩ u
  | _, its => fun i v => its[i]? = some v
def o : Sk → Obj
  | .l a => { cls := .type "list_iterator", data := .fields #[.ref a, .int 0 0] }
  | .t a => { cls := .type "tuple_iterator", data := .fields #[.ref a, .int 0 0] }
  | .s x tk => { cls := .type (strIterType x), data := .fields #[.str x tk, .int 0 0] }
def val : Sk → Value
  | .l a => .ref a
  | .t a => .ref a
  | .s x tk => .str x tk
def G (K : PySem.W.Frag) : Sk → List V → Hp → Prop
  | .l a, xs, H => SqL K H a xs
  | .t a, xs, H => SqT K H a xs
  | .s z _, xs, _ => xs = z.cps.toList.map fun c => V.str ⟨#[c]⟩
theorem draws {prog : Program} {w : World} {A : Around} (hh : A.handled = none) (k : Sk) (i : Addr) (hne : ∀ a ∈ k.fp, a ≠ i) (its : Array Value) : Draws prog w A i (i :: k.fp) (k.n its) (k.P its) (fun j h => k.it i j h ∧ k.src its h) := by
  cases k with
  | l a => exact Draws.list hh i a (hne a (by simp [fp])) its
  | t a => exact Draws.tuple hh i a (hne a (by simp [fp])) its
  | s z tk =>
    have d := Draws.text (prog := prog) (w := w) hh i z tk
    exact { live := fun j h st => d.live j h st.1, frame := fun j h h' st k => ⟨d.frame j h h' st.1 k, trivial⟩,
            item := fun j s Q E hj st hq => d.item j s Q E hj st.1 fun x h' tk p st' sb => hq x h' tk p ⟨st', trivial⟩ sb,
            done := fun s Q E st hq => d.done s Q E st.1 hq }
theorem begins (k : Sk) (its : Array Value) : Begins k.val k.o (k.src its) := by
  cases k with
  | l a => exact begins_list a its
  | t a => exact begins_tuple a its
  | s z tk => exact begins_text z tk
theorem it0 (k : Sk) {i : Addr} {h : Heap} (e : h.get? i = some k.o) : k.it i 0 h := by
  cases k <;> exact ⟨_, e, rfl, rfl⟩
theorem itObj (k : Sk) {i : Addr} {j : Nat} {h : Heap} (st : k.it i j h) : ∃ o, h.get? i = some o ∧ ∀ v, o.data ≠ .cell v := by
  cases k with
  | l a => obtain ⟨o, e, _, d⟩ := st; exact ⟨o, e, fun v q => by rw [d] at q; cases q⟩
  | t a => obtain ⟨o, e, _, d⟩ := st; exact ⟨o, e, fun v q => by rw [d] at q; cases q⟩
  | s z tk => obtain ⟨o, e, _, d⟩ := st; exact ⟨o, e, fun v q => by rw [d] at q; cases q⟩
theorem itKeep (k : Sk) {i : Addr} {j : Nat} {h h' : Heap} (st : k.it i j h) (hk : ∀ o, h.get? i = some o → h'.get? i = some o) : k.it i j h' := by
  cases k with
  | l a => obtain ⟨o, e, c⟩ := st; exact ⟨o, hk o e, c⟩
  | t a => obtain ⟨o, e, c⟩ := st; exact ⟨o, hk o e, c⟩
  | s z tk => obtain ⟨o, e, c⟩ := st; exact ⟨o, hk o e, c⟩
theorem here {X : Cx} {pins : List (Addr × Obj)} {σ : L2.St} {H : Hp} {s : Shared} (I : Inv X pins σ H s) (k : Sk) {xs : List V} (g : k.G X.K xs H) :
    ∃ its, k.src its s.heap ∧ k.n its = xs.length ∧ ∀ i v, k.P its i v → ∃ x, xs[i]? = some x ∧ RelV x v := by
  cases k with
  | l a =>
    obtain ⟨its, r, p, _⟩ := I.list g
    refine ⟨its.toArray, p.isList, by simpa [n] using r.length.symm, fun i v e => ?_⟩
    have e' : its[i]? = some v := by simpa [P] using e
    have hl : i < xs.length := by
      rw [r.length]
      exact (List.getElem?_eq_some_iff.mp e').1
    obtain ⟨u, h1, h2⟩ := r.get (List.getElem?_eq_getElem hl)
    rw [e'] at h1; cases h1
    exact ⟨_, List.getElem?_eq_getElem hl, h2⟩
  | t a =>
    obtain ⟨its, r, p, _⟩ := I.tuple g
    refine ⟨its.toArray, p, by simpa [n] using r.length.symm, fun i v e => ?_⟩
    have e' : its[i]? = some v := by simpa [P] using e
    have hl : i < xs.length := by
      rw [r.length]
      exact (List.getElem?_eq_some_iff.mp e').1
    obtain ⟨u, h1, h2⟩ := r.get (List.getElem?_eq_getElem hl)
    rw [e'] at h1; cases h1
    exact ⟨_, List.getElem?_eq_getElem hl, h2⟩
  | s z tk =>
    have g' : xs = z.cps.toList.map fun c => V.str ⟨#[c]⟩ := g
    subst g'
    refine ⟨#[], trivial, by simp [n], fun i v e => ?_⟩
    obtain ⟨c, u, h1, rfl⟩ := e
    exact ⟨.str ⟨#[c]⟩, by simp [h1], u, rfl⟩
theorem fp_lt (k : Sk) {its : Array Value} {h : Heap} (s : k.src its h) : ∀ b ∈ k.fp, b < h.objs.size := by
  cases k with
  | l a =>
    intro b hb
    obtain ⟨o, e, _⟩ := s
    rw [show b = a by simpa [fp] using hb]
    exact Heap.lt_size e
  | t a =>
    intro b hb
    obtain ⟨o, e, _⟩ := s
    rw [show b = a by simpa [fp] using hb]
    exact Heap.lt_size e
  | s z tk => intro b hb; simp [fp] at hb
end Sk

/-- new tuples at each turn: Row i H vs: what may stand in the i-th, the things being as in H -/
def ItW (n : Nat) (G : Hp → Prop) (Row : Nat → Hp → List V → Prop) : It :=
  ⟨fun i H => i < n ∧ G H, fun i H v H' => ∃ T vs, v = .ref T ∧ H T = none ∧ H' = upd H T (.tup vs) ∧ Row i H vs, fun i H => i = n ∧ G H⟩
theorem turn_walksT {P : Program} {w : World} {K : PySem.W.Frag} {elts : List Expr} {kk : Nat} {tpos : Pos} {I : Addr} {wr : List Addr} {n : Nat} {ι : Type} {fp : ι → List Addr} {Pt : ι → Nat → Array Value → Prop} {St : ι → Nat → Heap → Prop} {Mid : ι → Nat → Addr → Heap → Prop}
    {SI : Nat → Heap → Prop} {G : Hp → Prop} {Row : Nat → Hp → List V → Prop} {Good : ι → Hp → Prop}
    (D : ∀ (a : ι) (H : Hp), Good a H → ∀ A : Around, A.handled = none → WalksT P w A I (fp a) wr n (Pt a) (St a) (Mid a)) (hI : I ∈ wr)
    (hobj : ∀ i h, SI i h → ∀ b ∈ wr, ∃ o, h.get? b = some o ∧ ∀ v, o.data ≠ .cell v)
    (hkeep : ∀ i h h', SI i h → (∀ b ∈ wr, ∀ o, h.get? b = some o → h'.get? b = some o) → SI i h')
    (hin : ∀ (X : Cx), X.prog = P → X.w = w → X.K = K → ∀ pins s σ H, Inv X pins σ H s → G H → ∀ i, SI i s.heap → ∃ a, Good a H ∧ St a i s.heap)
    (hout : ∀ a i h, St a i h → SI i h)
    (hrow : ∀ a i H vals, Good a H → i < n → Pt a i vals → ∃ vs, Row i H vs ∧ Vals vs vals.toList ∧ vs.length ≤ sizeLine)
    (hself : ∀ (A : Around) (i : Nat) (s : Shared) (Q : Value → Shared → Prop) (E : Value → Shared → Prop), SI i s.heap → Q (.ref I) s → wpAny (model P w) A (pyIter (.ref I)) Q E s) :
    Turn P w K (.Tuple elts kk tpos) (ItW n G Row) wr I SI where
  mem := hI
  obj := hobj
  keep := hkeep
  item := by
    intro X hP hw hK hc i pins s σ H E J hf st hg
    obtain ⟨a, good, sa⟩ := hin X hP hw hK pins s σ H J hg.2 i st
    have d := D a H good X.A (J.ok.hd hc)
    refine d.item i s _ _ hg.1 sa fun T vals h' tk hp hT it md kp => ?_
    refine ⟨_, rfl, d.go _ _ _ i T _ _ _ md fun h'' sa' kp' => ?_⟩
    obtain ⟨vs, hr, hv, hl⟩ := hrow a i H vals good hg.1 hp
    have hTw : T ∉ wr := d.apart i T h' md
    obtain ⟨oT, eT, cT, nT, dT⟩ := it
    have eT2 : h''.get? T = some oT := kp' T oT hTw eT
    subst hP hw hK
    have new : ObjOk X.prog X.w (upd H T (.tup vs)) h'' T (.tup vs) := ⟨hl, vals.toList, hv, ⟨oT, eT2, cT, nT, by simpa using dT⟩⟩
    have J1 : Inv X pins σ (upd H T (.tup vs)) { s with heap := h'', toks := tk } := J.turnedNew (ch := wr) (fun b ob hb q => kp' b ob hb (kp b ob hb q)) hf hT new
    refine ⟨.ref T, _, J1, rfl, ⟨T, vs, rfl, J.hok.fresh hT, rfl, hr⟩, hout a _ _ sa', fun b hb => ?_⟩
    have hb' : b ≠ T := fun z => hTw (z ▸ hb)
    rw [upd_ne hb']
    exact (hf b hb).1
  done := by
    intro X hP hw hK hc i pins s σ H E J hf st hg
    obtain ⟨rfl, hG⟩ := hg
    obtain ⟨a, good, sa⟩ := hin X hP hw hK pins s σ H J hG _ st
    have d := D a H good X.A (J.ok.hd hc)
    refine d.done s _ _ sa fun h' tk kp => ⟨rfl, ?_⟩
    exact J.turnedL (t' := tk) (ch := wr) (fun b o hb q => kp b o hb q) hf
  self := hself

/-- the i-th of xs, whatever the list stands for in H -/
def RowAt (K : PySem.W.Frag) (k : Sk) (i : Nat) (H : Hp) (x : V) : Prop := ∀ xs, k.G K xs H → xs[i]? = some x
theorem Sk.inj {X : Cx} {pins : List (Addr × Obj)} {σ : L2.St} {H : Hp} {s : Shared} (I : Inv X pins σ H s) (k : Sk) {xs ys : List V} (g : k.G X.K xs H) (g' : k.G X.K ys H) : xs = ys := by
  cases k with
  | l a => exact I.list_inj g g'
  | t a => exact I.tuple_inj g g'
  | s z tk => exact Eq.trans g (Eq.symm g')
theorem turn_enumK {P : Program} {w : World} {K : PySem.W.Frag} {elts : List Expr} {kk : Nat} {tpos : Pos} (k : Sk) (n : Nat) (e i : Addr) (hei : e ≠ i) (hf : ∀ a ∈ k.fp, a ≠ i ∧ a ≠ e) :
    Turn P w K (.Tuple elts kk tpos) (ItW n (fun H => ∃ xs, k.G K xs H ∧ xs.length = n) fun j H vs => ∃ x, vs = [.int (j : Nat), x] ∧ RowAt K k j H x) [e, i] e (fun j h => (∃ old, IsEnum h e i ((j : Nat) : Int) old) ∧ k.it i j h) :=
  turn_walksT (ι := Array Value) (fp := fun _ => e :: i :: k.fp) (Good := fun its H => k.n its = n ∧ ∀ j v, k.P its j v → ∃ x, RelV x v ∧ RowAt K k j H x)
    (Pt := fun its j vals => ∃ t x, k.P its j x ∧ vals = #[Value.int (j : Nat) t, x]) (St := fun its j h => (∃ old, IsEnum h e i ((j : Nat) : Int) old) ∧ k.it i j h ∧ k.src its h)
    (Mid := fun its j T h => (∃ x, IsEnumOut h e i ((j : Nat) + 1) x T) ∧ (k.it i (j + 1) h ∧ k.src its h) ∧ T ≠ e ∧ T ≠ i)
    (fun its H good A hh => by
      have q := WalksT.enumerateD (k.draws (prog := P) (w := w) (A := A.in1) hh i (fun a ha => (hf a ha).1) its) e hei (by
        intro z
        rcases List.mem_cons.mp z with z | z
        · exact hei z
        · exact (hf e z).2 rfl) List.mem_cons_self
      rw [good.1] at q
      exact q)
    (by simp)
    (fun j h st b hb => by
      obtain ⟨⟨old, he⟩, hi⟩ := st
      have e' : b = e ∨ b = i := by simpa using hb
      rcases e' with z | z
      · rw [z]; exact ⟨_, he, fun v q => nomatch q⟩
      · rw [z]; exact k.itObj hi)
    (fun j h h' st hk => let ⟨⟨old, he⟩, hi⟩ := st; ⟨⟨old, hk e (by simp) _ he⟩, k.itKeep hi fun o q => hk i (by simp) o q⟩)
    (fun X hP hw hK pins s σ H J hG j st => by
      subst hK
      obtain ⟨xs, g, hl⟩ := hG
      obtain ⟨its, h1, h2, h3⟩ := k.here J g
      refine ⟨its, ⟨h2.trans hl, fun j v p => ?_⟩, st.1, st.2, h1⟩
      obtain ⟨x, q1, q2⟩ := h3 j v p
      exact ⟨x, q2, fun ys gy => by rw [k.inj J gy g]; exact q1⟩)
    (fun its j h st => ⟨st.1, st.2.1⟩)
    (fun its j H vals good hj p => by
      obtain ⟨t, x, hp, rfl⟩ := p
      obtain ⟨y, r, row⟩ := good.2 j x hp
      exact ⟨[.int (j : Nat), y], ⟨y, rfl, row⟩, .cons ⟨_, rfl⟩ (.cons r .nil), by show 2 ≤ sizeLine; decide⟩)
    (fun A j s Q E st h => let ⟨⟨_, he⟩, _⟩ := st; wpAny_pyIter_enum he h)
/-! ### enumerate(v) begins, whatever v is -/
set_option maxHeartbeats 1000000 in
theorem meets_enum1 {v : Value} {o : Obj} {H : Heap → Prop} (B : Begins v o H) :
    Meets (Builtin.«enumerate.__new__» ⟨[.type "enumerate", v], []⟩) (fun _ R s => H s.heap ∧
      R (.ok (.ret (.ref (s.heap.push o).objs.size))) { s with heap := (s.heap.push o).push { cls := .type "enumerate", data := .fields #[.none, .bool false, .ref s.heap.objs.size, rawInt 0, .none, .none] } }) :=
  .of_wp fun prog w A R s h => by
    obtain ⟨hp, g, d, tk, os⟩ := s; obtain ⟨h1, h⟩ := h
    have hsub := sub_enumerate
    have q1 : ∀ {A' : Around} {E : Value → Shared → Prop} {Q : Value → Shared → Prop}, Q (.ref hp.objs.size) ⟨hp.push o, g, d, tk, os⟩ → wpAny (model prog w) A' (pyIter v) Q E ⟨hp, g, d, tk, os⟩ :=
      fun q => B.iter prog w _ _ ⟨hp, g, d, tk, os⟩ _ h1 q
    wp_walk using q1
    refine wpAny_stack_any fun st => wpAny_pure ?_
    split
    · rename_i c _ _ _ _ _
      cases (c == Value.type "enumerate")
      · wp_walk using q1
        exact ⟨_, rfl, h⟩
      · wp_walk using q1
        exact ⟨_, rfl, h⟩
    · wp_walk using q1
      exact ⟨_, rfl, h⟩
section
variable {prog : Program} {w : World} {A : Around} {E : Value → Shared → Prop} {s : Shared}
theorem enum_begins1 {v : Value} {o : Obj} {H : Heap → Prop} {Q : Value → Shared → Prop} (B : Begins v o H) (h1 : H s.heap)
    (h : ∀ h', IsEnum h' (s.heap.objs.size + 1) s.heap.objs.size 0 .none → h'.get? s.heap.objs.size = some o → h'.objs.size = s.heap.objs.size + 2 →
      (∀ b o, s.heap.get? b = some o → h'.get? b = some o) → Q (.ref (s.heap.objs.size + 1)) { s with heap := h' }) :
    wpAny (model prog w) A (call (.type "enumerate") [v]) Q E s := by
  refine callType_new F.called_enumerate (by decide) (F.typeCall_enumerate_1 _) (F.newCall_enumerate_1 _) (fun obj => F.args_object_init_2 obj _) F.entry_enumerate_new
    (meets_enum1 B) ⟨h1, ?_⟩
  have hz : (s.heap.push o).objs.size = s.heap.objs.size + 1 := Heap.size_push ..
  show _ ∧ _
  rw [hz]
  have he : IsEnum ((s.heap.push o).push { cls := .type "enumerate", data := .fields #[.none, .bool false, .ref s.heap.objs.size, rawInt 0, .none, .none] }) (s.heap.objs.size + 1) s.heap.objs.size 0 .none := by
    have := Heap.get?_push_size (s.heap.push o) (o := { cls := .type "enumerate", data := .fields #[.none, .bool false, .ref s.heap.objs.size, rawInt 0, .none, .none] }) rfl
    rw [hz] at this; exact this
  exact ⟨⟨_, he, rfl⟩, h _ he (Heap.get?_push_of_some _ (Heap.get?_push_size _ B.free)) (by rw [Heap.size_push, hz]) fun b o x => Heap.get?_push_of_some _ (Heap.get?_push_of_some _ x)⟩
end
section
variable {X : Cx}
theorem enum_pie {pins : List (Addr × Obj)} {σ : L2.St} {H : Hp} {s : Shared} {R : It → Hp → Prop} {E : Value → Shared → Prop} {elts : List Expr} {kk : Nat} {tpos : Pos} (I : Inv X pins σ H s) (k : Sk) {xs : List V} (g : k.G X.K xs H)
    (q : R (ItW xs.length (fun H => ∃ ys, k.G X.K ys H ∧ ys.length = xs.length) fun j H vs => ∃ x, vs = [.int (j : Nat), x] ∧ RowAt X.K k j H x) H) :
    wpAny (model X.prog X.w) X.A (call (.type "enumerate") [k.val]) (fun v s1 => wpAny (model X.prog X.w) X.A (pyIter v) (PIE X pins σ (.Tuple elts kk tpos) R) E s1) E s := by
  obtain ⟨its, h1, _, _⟩ := k.here I g
  refine enum_begins1 (k.begins its) h1 fun h' he ho hsz hk => wpAny_pyIter_enum he ?_
  have I2 : Inv X pins σ H { s with heap := h' } := I.kept (t' := s.toks) hk
  have lt := k.fp_lt h1
  refine ⟨s.heap.objs.size + 1, [s.heap.objs.size + 1, s.heap.objs.size], _, _, H, rfl, I2, turn_enumK k xs.length (s.heap.objs.size + 1) s.heap.objs.size (Nat.succ_ne_self _) (fun a ha => ?_), ⟨⟨.none, he⟩, k.it0 ho⟩, fun b hb => ?_, q⟩
  · have l1 : a < s.heap.objs.size := lt a ha
    exact ⟨Nat.ne_of_lt l1, Nat.ne_of_lt (Nat.lt_succ_of_lt l1)⟩
  · have e' : b = s.heap.objs.size + 1 ∨ b = s.heap.objs.size := by simpa using hb
    have hle : s.heap.objs.size ≤ b := by
      rcases e' with z | z
      · rw [z]; exact Nat.le_add_right _ _
      · rw [z]; exact Nat.le_refl _
    exact I.fpOk hle (I.hok.fresh hle)
end

/-! ### over data -/
/-- the signs of a text -/
def sl (s : Str) : List Nat := s.cps.toList
def signsD (s : Str) : List D := (sl s).map fun c => dS [c]
def seqOf (S : Sto) : D → Option (List D)
  | .v (.str s) => some (signsD s)
  | d => itemsOf S d
/-- a list that may change stands as it stood -/
def stays (d : D) (l : List D) : Sto → Prop := match d with
  | .v (.ref a) => fun S' => S' a = some (.lst l)
  | _ => fun _ => True
section
variable {K : PySem.W.Frag} {S S' : Sto} {F F' : Addr → Prop} {H H' : Hp}
theorem stays_items {d : D} {l : List D} (e : itemsOf S d = some l) (g : stays d l S') : itemsOf S' d = some l := by
  cases d with
  | v x => cases x <;> first | (simp [itemsOf] at e; done) | skip
           rename_i a
           have g' : S' a = some (.lst l) := g
           simp [itemsOf, g']
  | tup m => exact e
  | lst m => exact e
  | dic _ _ => simp [itemsOf] at e
  | dct _ _ => simp [itemsOf] at e
  | ins _ _ _ => simp [itemsOf] at e
  | scr _ => simp [itemsOf] at e
theorem stays_seq {d : D} {l : List D} (e : seqOf S d = some l) (g : stays d l S') : seqOf S' d = some l := by
  cases d with
  | v x => cases x <;> first | exact e | exact stays_items (S := S) (show itemsOf S (.v (.ref _)) = some l from e) g
  | tup m => exact e
  | lst m => exact e
  | dic _ _ => exact e
  | dct _ _ => exact e
  | ins _ _ _ => exact e
  | scr _ => exact e
theorem signs_rep (s : Str) : RepVs K S F H (signsD s) (s.cps.toList.map fun c => V.str ⟨#[c]⟩) := by
  unfold signsD sl
  generalize s.cps.toList = l
  induction l with
  | nil => exact rfl
  | cons c r ih => exact ⟨_, _, rfl, rfl, ih⟩
/-- what is walked, by its value -/
theorem sk_of {d : D} {l : List D} {x : V} {v : Value} (ok : Ok K S F H) (r : RepV K S F H d x) (e : seqOf S d = some l) (rv : RelV x v) :
    ∃ k : Sk, k.val = v ∧ ∀ S' F' H', Keep S F H S' F' H' → Ok K S' F' H' → stays d l S' → ∃ xs, k.G K xs H' ∧ RepVs K S' F' H' l xs := by
  have main : ∀ m, itemsOf S d = some m → m = l → ∃ k : Sk, k.val = v ∧ ∀ S' F' H', Keep S F H S' F' H' → Ok K S' F' H' → stays d l S' → ∃ xs, k.G K xs H' ∧ RepVs K S' F' H' l xs := by
    intro m em eml
    subst eml
    cases d with
    | tup m =>
      obtain rfl := Option.some.inj (show some m = some _ from em)
      obtain ⟨a, vs, rfl, _, _⟩ := id r
      refine ⟨.t a, rv.symm, fun S' F' H' k ok' _ => ?_⟩
      obtain ⟨b, ws, e2, s2, r2⟩ := (r.keep k).sqt
      cases e2
      exact ⟨ws, s2, r2⟩
    | lst m =>
      obtain rfl := Option.some.inj (show some m = some _ from em)
      obtain ⟨a, vs, rfl, _, _⟩ := id r
      refine ⟨.l a, rv.symm, fun S' F' H' k ok' _ => ?_⟩
      obtain ⟨b, ws, e2, s2, _, _, r2⟩ := r.keep k
      cases e2
      exact ⟨ws, SqL.of s2, r2⟩
    | v y =>
      cases y <;> first | (simp [itemsOf] at em; done) | skip
      rename_i a
      have rx : x = .ref a := r
      subst rx
      refine ⟨.l a, rv.symm, fun S' F' H' k ok' g => ?_⟩
      have g' : S' a = some (.lst m) := g
      obtain ⟨_, o, ho, ro⟩ := ok'.rep a _ g'
      cases o <;> first | exact ro.elim | skip
      exact ⟨_, SqL.of ho, ro⟩
    | dic _ _ => simp [itemsOf] at em
    | dct _ _ => simp [itemsOf] at em
    | ins _ _ _ => simp [itemsOf] at em
    | scr _ => simp [itemsOf] at em
  cases d with
  | v y =>
    cases y with
    | str s =>
      have e1 : signsD s = l := by simpa [seqOf] using e
      subst e1
      have rx : x = .str s := r
      subst rx
      obtain ⟨tk, rfl⟩ := rv
      exact ⟨.s s tk, rfl, fun S' F' H' k ok' g => ⟨_, rfl, signs_rep s⟩⟩
    | non => exact main _ e rfl
    | bl _ => exact main _ e rfl
    | int _ => exact main _ e rfl
    | byt _ => exact main _ e rfl
    | flt _ => exact main _ e rfl
    | ref _ => exact main _ e rfl
    | ty _ => exact main _ e rfl
  | tup _ => exact main _ e rfl
  | lst _ => exact main _ e rfl
  | dic _ _ => exact main _ e rfl
  | dct _ _ => exact main _ e rfl
  | ins _ _ _ => exact main _ e rfl
  | scr _ => exact main _ e rfl
def enumL (l : List D) : List D := l.mapIdx fun i d => .tup [dI (i : Nat), d]
theorem enumL_length (l : List D) : (enumL l).length = l.length := by simp [enumL]
theorem itrep_enum {d : D} {l : List D} {k : Sk} (h : ∀ S' F' H', Keep S F H S' F' H' → Ok K S' F' H' → stays d l S' → ∃ xs, k.G K xs H' ∧ RepVs K S' F' H' l xs) :
    ItRep K F (ItW l.length (fun H => ∃ ys, k.G K ys H ∧ ys.length = l.length) fun j H vs => ∃ x, vs = [.int (j : Nat), x] ∧ RowAt K k j H x) (enumL l) (stays d l) S H where
  goes := fun i S' F' H' hi kp ok g => by
    rw [enumL_length] at hi
    obtain ⟨xs, h1, h2⟩ := h S' F' H' kp ok g
    exact ⟨hi, xs, h1, h2.length⟩
  stops := fun S' F' H' kp ok g => by
    obtain ⟨xs, h1, h2⟩ := h S' F' H' kp ok g
    rw [enumL_length]
    exact ⟨rfl, xs, h1, h2.length⟩
  yields := fun i S' F' H' x H'' hi kp ok g hy => by
    rw [enumL_length] at hi
    obtain ⟨xs, h1, h2⟩ := h S' F' H' kp ok g
    obtain ⟨T, vs, rfl, hT, rfl, y, rfl, row⟩ := hy
    obtain ⟨v, e1, rv⟩ := h2.get (List.getElem?_eq_getElem hi)
    have e2 := row xs h1
    obtain rfl := Option.some.inj (e1.symm.trans e2)
    obtain ⟨st, ok2⟩ := ok.lay (o := .tup [.int (i : Nat), v]) hT
    obtain ⟨sT, fT⟩ := ok.none_of hT
    exact ⟨.tup [dI (i : Nat), l[i]], by simp [enumL, hi], st, ok2, T, _, rfl, .inl ⟨.inl upd_same, sT, fT⟩, _, _, rfl, rfl, _, _, rfl, rv.step st, rfl⟩
end
def dEnum (te : DTE) : DTI := fun ρ S Q E => te ρ S (fun d S1 => ∃ l, seqOf S1 d = some l ∧ Q (enumL l) (stays d l) S1) E
def dSeqI (te : DTE) : DTI := fun ρ S Q E => te ρ S (fun d S1 => ∃ l, seqOf S1 d = some l ∧ Q l (stays d l) S1) E
def dZip (ta tb : DTE) : DTI := fun ρ S Q E => ta ρ S (fun d S1 => tb ρ S1 (fun e S2 => ∃ l m, seqOf S2 d = some l ∧ seqOf S2 e = some m ∧ Q (List.zipWith (fun a b => .tup [a, b]) l m) (fun S' => stays d l S' ∧ stays e m S') S2) E) E
section
variable {X : Cx} {W : WX} {e : Expr} {te : DTE} {pos : Pos}
theorem stays_self {S : Sto} {d : D} {l : List D} (e : seqOf S d = some l) : stays d l S := by
  cases d with
  | v x =>
    cases x <;> first | exact trivial | skip
    rename_i a
    show S a = some (.lst l)
    have e' : itemsOf S (.v (.ref a)) = some l := e
    simp only [itemsOf] at e'
    cases q : S a with
    | none => rw [q] at e'; simp at e'
    | some d0 =>
      rw [q] at e'
      cases d0 <;> first | (simp at e'; done) | skip
      rw [Option.some.inj (show some _ = some l from e')]
  | tup m => exact trivial
  | lst m => exact trivial
  | dic _ _ => exact trivial
  | dct _ _ => exact trivial
  | ins _ _ _ => exact trivial
  | scr _ => exact trivial
end
/-! ### a sequence walked -/
def ItK (K : PySem.W.Frag) : Sk → It
  | .l a => Itl K a
  | .t a => Itt K a
  | .s z _ => Its z
section
variable {X : Cx} {W : WX} {e a b c : Expr} {ta tb tc te : DTE} {pos : Pos} {tg : Expr}
variable {K : PySem.W.Frag} {S S' : Sto} {F F' : Addr → Prop} {H H' : Hp}
theorem seq_pie {pins : List (Addr × Obj)} {σ : L2.St} {H : Hp} {s : Shared} {R : It → Hp → Prop} {E : Value → Shared → Prop} (I : Inv X pins σ H s) (k : Sk) {xs : List V} (g : k.G X.K xs H) (q : R (ItK X.K k) H) :
    wpAny (model X.prog X.w) X.A (pyIter k.val) (PIE X pins σ tg R) E s := by
  cases k with
  | l a =>
    obtain ⟨its, rv, p, hz⟩ := I.list g
    refine wpAny_pyIter_list p.isList ?_
    refine ⟨s.heap.objs.size, [s.heap.objs.size], _, _, H, rfl, I.kept (t' := s.toks) fun b o e => Heap.get?_push_of_some _ e, turn_list a _, ⟨_, Heap.get?_push_size _ rfl, rfl, rfl⟩, fun b hb => ?_, q⟩
    have e : b = s.heap.objs.size := by simpa using hb
    subst e
    exact I.fpOk (Nat.le_refl _) (I.hok.fresh (Nat.le_refl _))
  | t a =>
    obtain ⟨its, rv, p, hz⟩ := I.tuple g
    refine wpAny_pyIter_tuple (show s.heap.IsTuple a its.toArray from p) ?_
    refine ⟨s.heap.objs.size, [s.heap.objs.size], _, _, H, rfl, I.kept (t' := s.toks) fun b o e => Heap.get?_push_of_some _ e, turn_tuple a _, ⟨_, Heap.get?_push_size _ rfl, rfl, rfl⟩, fun b hb => ?_, q⟩
    have e : b = s.heap.objs.size := by simpa using hb
    subst e
    exact I.fpOk (Nat.le_refl _) (I.hok.fresh (Nat.le_refl _))
  | s z tk =>
    cases ha : z.cps.all (· < 128)
    · exact wpAny_pyIter_wide ha (pi_one (tk := s.toks) I _ (turn_str _ z tk "str_iterator" (.inr rfl)) ⟨_, Heap.get?_push_size _ rfl, rfl, rfl⟩ q)
    · exact wpAny_pyIter_ascii ha (pi_one (tk := s.toks) I _ (turn_str _ z tk "str_ascii_iterator" (.inl rfl)) ⟨_, Heap.get?_push_size _ rfl, rfl, rfl⟩ q)
theorem itrep_seq {d : D} {l : List D} {k : Sk} (h : ∀ S' F' H', Keep S F H S' F' H' → Ok K S' F' H' → stays d l S' → ∃ xs, k.G K xs H' ∧ RepVs K S' F' H' l xs) : ItRep K F (ItK K k) l (stays d l) S H where
  goes := fun i S' F' H' hi kp ok g => by
    obtain ⟨xs, h1, h2⟩ := h S' F' H' kp ok g
    have hl := h2.length
    cases k with
    | l a => exact ⟨xs, xs[i], h1, List.getElem?_eq_getElem (by omega)⟩
    | t a => exact ⟨xs, xs[i], h1, List.getElem?_eq_getElem (by omega)⟩
    | s z tk =>
      have h1' : xs = z.cps.toList.map fun c => V.str ⟨#[c]⟩ := h1
      subst h1'
      show i < z.cps.size
      simp at hl
      omega
  stops := fun S' F' H' kp ok g => by
    obtain ⟨xs, h1, h2⟩ := h S' F' H' kp ok g
    have hl := h2.length
    cases k with
    | l a => exact ⟨xs, h1, by omega⟩
    | t a => exact ⟨xs, h1, by omega⟩
    | s z tk =>
      have h1' : xs = z.cps.toList.map fun c => V.str ⟨#[c]⟩ := h1
      subst h1'
      show z.cps.size ≤ l.length
      simp at hl
      omega
  yields := fun i S' F' H' x H'' hi kp ok g hy => by
    obtain ⟨xs, h1, h2⟩ := h S' F' H' kp ok g
    obtain ⟨v, e1, rv⟩ := h2.get (List.getElem?_eq_getElem hi)
    have fin : H'' = H' ∧ xs[i]? = some x := by
      cases k with
      | l a => exact ⟨hy.1, hy.2 xs h1⟩
      | t a => exact ⟨hy.1, hy.2 xs h1⟩
      | s z tk =>
        obtain ⟨e2, c, hc, rfl⟩ := hy
        have h1' : xs = z.cps.toList.map fun c => V.str ⟨#[c]⟩ := h1
        subst h1'
        exact ⟨e2, by simp [hc]⟩
    obtain ⟨rfl, e2⟩ := fin
    obtain rfl := Option.some.inj (e1.symm.trans e2)
    exact ⟨l[i], List.getElem?_eq_getElem hi, .refl, ok, rv⟩
/-- for x in e -/
theorem di_seq (he : DE X W e te) : DI X W tg e (dSeqI te) := by
  refine ⟨fun pins s σ H R I ⟨ρ, S, F, QD, ED, ok, re, q, n, x⟩ => ?_⟩
  refine thn (he.run pins s σ H (fun v H1 => ∃ d S1 l, Step F S H S1 H1 ∧ Ok X.K S1 F H1 ∧ RepV X.K S1 F H1 d v ∧ seqOf S1 d = some l ∧ QD l (stays d l) S1) I ⟨ρ, S, F, _, ED, ok, re, q, fun d S1 v H1 st ok1 rv ⟨l, e, q⟩ => ⟨d, S1, l, st, ok1, rv, e, q⟩, x⟩) fun v s1 ⟨y, H1, I1, r1, d, S1, l, st, ok1, rv, e, q⟩ => ?_
  obtain ⟨k, rfl, hk⟩ := sk_of ok1 rv e r1
  obtain ⟨xs, g, _⟩ := hk S1 F H1 (Step.refl (F := F) (S := S1) (H := H1)).keep ok1 (stays_self e)
  exact seq_pie I1 k g (n l _ S1 _ H1 st ok1 (itrep_seq hk) q)
/-- for i, x in enumerate(e) -/
theorem di_enum {elts : List Expr} {kk : Nat} {tpos p : Pos} (hg : Gl X "enumerate") (hm : X.mg "enumerate" = none) (he : DE X W e te) (hs : starEach [e] X.env = [(false, eval e X.env)] := by rfl) :
    DI X W (.Tuple elts kk tpos) (.Call (.Name "enumerate" p) [e] [] pos) (dEnum te) := by
  refine ⟨fun pins s σ H R I ⟨ρ, S, F, QD, ED, ok, re, q, n, x⟩ => ?_⟩
  have ha : PA X [e] (tCons (liftE X.K X.mg W te) tNil) := pa_cons he pa_nil hs
  refine Call_ (ld_blt I hg hm boot_enumerate (PyProof.Rows.callWith_type1 (thn (ha.run pos pins s σ H (fun vs H1 => ∃ v, vs = [v] ∧ ∃ d S1 l, Step F S H S1 H1 ∧ Ok X.K S1 F H1 ∧ RepV X.K S1 F H1 d v ∧ seqOf S1 d = some l ∧ QD (enumL l) (stays d l) S1) I
    ⟨ρ, S, F, _, ED, ok, re, q, fun d S1 v H1 st ok1 rv ⟨l, e, q⟩ => ⟨v, rfl, d, S1, l, st, ok1, rv, e, q⟩, x⟩) fun us s1 ⟨vs, H1, I1, r1, v, e0, d, S1, l, st, ok1, rv, e, q⟩ => ?_) hs rfl))
  subst e0
  obtain ⟨u, rfl, ru⟩ := Vals.one r1
  obtain ⟨k, rfl, hk⟩ := sk_of ok1 rv e ru
  obtain ⟨xs, g, hr⟩ := hk S1 F H1 (Step.refl (F := F) (S := S1) (H := H1)).keep ok1 (stays_self e)
  refine enum_pie I1 k g ?_
  rw [hr.length]
  exact n _ _ S1 _ H1 st ok1 (itrep_enum hk) q
/-! ### ranges -/
def rangeD (lo c : Int) (n : Nat) : List D := (List.range n).map fun i : Nat => dI (lo + (i : Int) * c)
theorem rangeD_length {lo c : Int} {n : Nat} : (rangeD lo c n).length = n := by simp [rangeD]
theorem rangeD_get {lo c : Int} {n i : Nat} (h : i < n) : (rangeD lo c n)[i]? = some (dI (lo + (i : Int) * c)) := by simp [rangeD, h]
theorem rangeD_mem {lo c : Int} {n i : Nat} {d : D} (h : (rangeD lo c n)[i]? = some d) : i < n ∧ d = dI (lo + (i : Int) * c) := by
  have hl := (List.getElem?_eq_some_iff.mp h).1
  rw [rangeD_length] at hl
  rw [rangeD_get hl] at h
  exact ⟨hl, (Option.some.inj h).symm⟩
abbrev GT : Sto → Prop := fun _ => True
def dRng1 (t : DTA) : DTI := fun ρ S Q E => t ρ S (fun ds S1 => ∃ j : Int, ds = [dI j] ∧ (-(2 ^ 62) ≤ j ∧ j < 2 ^ 62) ∧ Q (rangeD 0 1 j.toNat) GT S1) E
def dRng2 (t : DTA) : DTI := fun ρ S Q E => t ρ S (fun ds S1 => ∃ i j : Int, ds = [dI i, dI j] ∧ (-(2 ^ 62) ≤ i ∧ i < 2 ^ 62 ∧ -(2 ^ 62) ≤ j ∧ j < 2 ^ 62) ∧ Q (rangeD i 1 (j - i).toNat) GT S1) E
def dRng3 (t : DTA) : DTI := fun ρ S Q E => t ρ S (fun ds S1 => ∃ (i j c : Int) (n : Nat), ds = [dI i, dI j, dI c] ∧ RgC i j c n ∧ Q (rangeD i c n) GT S1) E
theorem itrep_rngC {lo c : Int} {n : Nat} : ItRep K F (Itc lo c n) (rangeD lo c n) GT S H where
  goes := fun i S' F' H' hi kp ok g => by rw [rangeD_length] at hi; exact hi
  stops := fun S' F' H' kp ok g => by rw [rangeD_length]; exact Nat.le_refl n
  yields := fun i S' F' H' x H'' hi kp ok g hy => by
    rw [rangeD_length] at hi
    obtain ⟨rfl, rfl⟩ := hy
    exact ⟨_, rangeD_get hi, .refl, ok, rfl⟩
theorem itrep_rng1 {lo : Int} {n : Nat} : ItRep K F (Itr lo n) (rangeD lo 1 n) GT S H where
  goes := fun i S' F' H' hi kp ok g => by rw [rangeD_length] at hi; exact hi
  stops := fun S' F' H' kp ok g => by rw [rangeD_length]; exact Nat.le_refl n
  yields := fun i S' F' H' x H'' hi kp ok g hy => by
    rw [rangeD_length] at hi
    obtain ⟨rfl, rfl⟩ := hy
    exact ⟨_, rangeD_get hi, .refl, ok, by rw [Int.mul_one]; rfl⟩
variable {t : DTA} {p : Pos}
theorem RepVs.ints1 {j : Int} {vs : List V} (h : RepVs K S F H [dI j] vs) : vs = [.int j] := by
  obtain ⟨x, r, rfl, h1, h2⟩ := h
  rw [show x = _ from h1, show r = _ from h2]
theorem RepVs.ints2 {i j : Int} {vs : List V} (h : RepVs K S F H [dI i, dI j] vs) : vs = [.int i, .int j] := by
  obtain ⟨x, r, rfl, h1, h2⟩ := h
  rw [show x = _ from h1, h2.ints1]
theorem RepVs.ints3 {i j k : Int} {vs : List V} (h : RepVs K S F H [dI i, dI j, dI k] vs) : vs = [.int i, .int j, .int k] := by
  obtain ⟨x, r, rfl, h1, h2⟩ := h
  rw [show x = _ from h1, h2.ints2]
theorem di_range1 (hg : Gl X "range") (hm : X.mg "range" = none) (ha : DA X W [a] t) (hs : starEach [a] X.env = [(false, eval a X.env)] := by rfl) : DI X W tg (.Call (.Name "range" p) [a] [] pos) (dRng1 t) := by
  refine ⟨fun pins s σ H R I ⟨ρ, S, F, QD, ED, ok, re, q, n, x⟩ => (pi_range1 hg hm ha hs).run pins s σ H R I ⟨ρ, S, F, _, ED, ok, re, q, fun ds S1 vs H1 st ok1 rv ⟨j, e, ⟨h1, h2⟩, q⟩ => ?_, x⟩⟩
  subst e
  exact ⟨j, rv.ints1, h1, h2, n _ _ S1 _ H1 st ok1 itrep_rng1 q⟩
theorem di_range2 (hg : Gl X "range") (hm : X.mg "range" = none) (ha : DA X W [a, b] t) (hs : starEach [a, b] X.env = [(false, eval a X.env), (false, eval b X.env)] := by rfl) (hs2 : starEach [b] X.env = [(false, eval b X.env)] := by rfl) : DI X W tg (.Call (.Name "range" p) [a, b] [] pos) (dRng2 t) := by
  refine ⟨fun pins s σ H R I ⟨ρ, S, F, QD, ED, ok, re, q, n, x⟩ => (pi_range2 hg hm ha hs hs2).run pins s σ H R I ⟨ρ, S, F, _, ED, ok, re, q, fun ds S1 vs H1 st ok1 rv ⟨i, j, e, h1, q⟩ => ?_, x⟩⟩
  subst e
  exact ⟨i, j, rv.ints2, h1, n _ _ S1 _ H1 st ok1 itrep_rng1 q⟩
theorem di_range3 (hg : Gl X "range") (hm : X.mg "range" = none) (ha : DA X W [a, b, c] t) (hs : starEach [a, b, c] X.env = (false, eval a X.env) :: starEach [b, c] X.env := by rfl) (hpl : (backTo pos (starEach [b, c] X.env)).any (·.1) = false := by rfl) : DI X W tg (.Call (.Name "range" p) [a, b, c] [] pos) (dRng3 t) := by
  refine ⟨fun pins s σ H R I ⟨ρ, S, F, QD, ED, ok, re, q, n, x⟩ => (pi_range3 hg hm ha hs hpl).run pins s σ H R I ⟨ρ, S, F, _, ED, ok, re, q, fun ds S1 vs H1 st ok1 rv ⟨i, j, k, m, e, h1, q⟩ => ?_, x⟩⟩
  subst e
  exact ⟨i, j, k, m, rv.ints3, h1, n _ _ S1 _ H1 st ok1 itrep_rngC q⟩
end
/-! ### a def that may be called -/
section
variable {P : Program} {w : World} {K : PySem.W.Frag} {mg : Mg} {base : Heap}
/-- the slots at the begin -/
def dstart (N : List Str) (ds : List D) : Env' := ds.map some ++ List.replicate (N.length - ds.length) none
theorem start_rep {S : Sto} {F : Addr → Prop} {H : Hp} {N : List Str} : ∀ {ds : List D} {vs : List V}, RepVs K S F H ds vs → RepE K S F H (dstart N ds) (L2.start N vs) := fun {ds vs} r => by
  have hl := r.length
  refine ⟨by simp [dstart, L2.start, hl], fun i d e => ?_⟩
  unfold dstart at e
  unfold L2.start
  by_cases hi : i < ds.length
  · rw [List.getElem?_append_left (by simpa using hi)] at e
    rw [List.getElem?_append_left (by simpa [hl] using hi)]
    rw [List.getElem?_map, List.getElem?_eq_getElem hi] at e
    have e' : ds[i] = d := by simpa using e
    obtain ⟨v, h1, h2⟩ := r.get (List.getElem?_eq_getElem hi)
    exact ⟨v, by rw [List.getElem?_map, h1]; rfl, e' ▸ h2⟩
  · rw [List.getElem?_append_right (by simpa using Nat.le_of_not_lt hi), List.getElem?_replicate] at e
    split at e <;> cases e
/-- what is raised: what changed may be dropped -/
def XFin (E : XD) : String → List D → Env' → Sto → Prop := fun c ds _ S => ∃ S', Sub S' S ∧ E c ds S'
def endsOf (Q : DK) (E : XD) : DEnds := { nx := fun _ S' => Fin Q dN S', rt := Fin Q, xc := XFin E }
theorem RepX.sub {S S' : Sto} {F : Addr → Prop} {H : Hp} {ds : List D} {dd : Option Addr} (h : RepX K S F H ds dd) (s : Sub S' S) : RepX K S' F H ds dd := by
  rcases h with h | ⟨d, fs, h1, h2, h3⟩
  · exact .inl h
  · exact .inr ⟨d, fs, h1, h2, h3.keep s.keep⟩
theorem fnok_of {x qual : Str} {params : Arguments} {body : List Stmt} {scope : Scope} {f : Addr} {fd : FuncData} {N ps : List Str} {k n : Nat} {sp : DSp} {t : DTS} (FF : FunD K x qual params body scope [] [] f fd) (S : FnScope N ps scope)
    (hb : ∀ (kV doc pm : Value) (an : Option Addr) (cdv ct : Value) (us : List Value), us.length = ps.length → bindArgs (PySem.W.fnOf x qual params body scope .none kV doc pm an cdv ct) ⟨us, []⟩ = pure (ps.zip us)) (hn : ps.length = n)
    (d : ∀ (cdv : Value) (A : Around) (outer : List Env) (s : Shared) (H : Hp) (E : XK), Room k (A.deeper (envOfC qual scope s.heap.objs.size f cdv)) →
      DSs (cxOf (L2.CX P w) P w K mg base N qual scope f cdv A outer s H E) (fun cls d _ H => E cls d H) body t)
    (vc : ∀ ds S Q E, ds.length = n → sp ds S Q E → t (endsOf Q E) (dstart N ds) S) : FnOk P w K mg base (L2.CX P w) (k + 1) f fd ps fun vs H Q E => vs.length = n ∧ liftSp K mg sp vs H Q E := by
  refine FF.ok S (fun vs H Q E h => h.1.trans hn.symm) fun cdv A outer s H vs Q E hr ⟨hl, S0, F, ds, QD, ED, ok, rv, q, nk, xc⟩ => ⟨_, d cdv A outer s H E hr, ?_⟩
  have hl2 : ds.length = n := rv.length.symm.trans hl
  refine ⟨dstart N ds, S0, F, _, ok, start_rep rv, vc ds S0 QD ED hl2 q, ⟨?_, ?_, ?_, ?_, ?_⟩⟩
  · rintro ρ S' σ H' st ok' re' ⟨S2, d', sb, fr, q'⟩
    exact nk d' S2 .non H' (st.sub sb) (ok'.sub sb) (fr.rep ok' sb rfl) q'
  · rintro d0 S' v H' st ok' rv' ⟨S2, d', sb, fr, q'⟩
    exact nk d' S2 v H' (st.sub sb) (ok'.sub sb) (fr.rep ok' sb rv') q'
  · intro _ _ _ _ _ _ _ h; exact h.elim
  · intro _ _ _ _ _ _ _ h; exact h.elim
  · rintro c ds' ρ S' σ dd H' st ok' re' rx ⟨S2, sb, q'⟩
    exact xc c ds' S2 dd H' (st.sub sb) (ok'.sub sb) (rx.sub sb) q'
theorem cal_of {gn x qual : Str} {params : Arguments} {body : List Stmt} {scope : Scope} {f : Addr} {fd : FuncData} {N ps : List Str} {k n : Nat} {sp : DSp} {t : DTS} (hm : mg gn = some (.ref f)) (FF : FunD K x qual params body scope [] [] f fd) (S : FnScope N ps scope)
    (hb : ∀ (kV doc pm : Value) (an : Option Addr) (cdv ct : Value) (us : List Value), us.length = ps.length → bindArgs (PySem.W.fnOf x qual params body scope .none kV doc pm an cdv ct) ⟨us, []⟩ = pure (ps.zip us)) (hn : ps.length = n)
    (d : ∀ (cdv : Value) (A : Around) (outer : List Env) (s : Shared) (H : Hp) (E : XK), Room k (A.deeper (envOfC qual scope s.heap.objs.size f cdv)) →
      DSs (cxOf (L2.CX P w) P w K mg base N qual scope f cdv A outer s H E) (fun cls d _ H => E cls d H) body t)
    (vc : ∀ ds S Q E, ds.length = n → sp ds S Q E → t (endsOf Q E) (dstart N ds) S) : Cal P w K mg base gn n (k + 1) sp := ⟨f, fd, ps, hm, FF.kp, FF.bindsN hb, hn, fnok_of FF S hb hn d vc⟩
end
section
variable {X : Cx} {W : WX} {e a b c : Expr} {es : List Expr} {ta tb tc te : DTE} {pos : Pos}
variable {K : PySem.W.Frag} {S S' : Sto} {F F' : Addr → Prop} {H H' : Hp}
/-! ### helpers -/
theorem NK.same {QD : DK} {Q : VK} {d : D} {v : V} (n : NK K F S H QD Q) (ok : Ok K S F H) (r : RepV K S F H d v) (q : QD d S) : Q v H := n d S v H .refl ok r q
theorem NK.sv {QD : DK} {Q : VK} {v : V} (n : NK K F S H QD Q) (ok : Ok K S F H) (q : QD (.v v) S) : Q v H := n (.v v) S v H .refl ok rfl q
/-- a new tuple -/
theorem NK.tup {QD : DK} {Q : VK} {l : List D} {vs : List V} (n : NK K F S H QD Q) (ok : Ok K S F H) (r : RepVs K S F H l vs) (q : QD (.tup l) S) : ∀ p, H p = none → Q (.ref p) (upd H p (.tup vs)) := fun p hp => by
  obtain ⟨st, ok2⟩ := ok.lay (o := .tup vs) hp
  obtain ⟨sp, fp⟩ := ok.none_of hp
  exact n (.tup l) S _ _ st ok2 ⟨p, vs, rfl, .inl ⟨.inl upd_same, sp, fp⟩, r.step st⟩ q
/-- a new list that stays -/
theorem NK.lst {QD : DK} {Q : VK} {l : List D} {vs : List V} (n : NK K F S H QD Q) (ok : Ok K S F H) (r : RepVs K S F H l vs) (q : QD (.lst l) S) : ∀ p, H p = none → Q (.ref p) (upd H p (.lst vs)) := fun p hp => by
  obtain ⟨st, ok2⟩ := ok.lay (o := .lst vs) hp
  obtain ⟨sp, fp⟩ := ok.none_of hp
  exact n (.lst l) S _ _ st ok2 ⟨p, vs, rfl, upd_same, sp, fp, r.step st⟩ q
/-- a new list that changes -/
theorem NK.lstM {QD : DK} {Q : VK} {l : List D} {vs : List V} (n : NK K F S H QD Q) (ok : Ok K S F H) (r : RepVs K S F H l vs) (q : ∀ p, S p = none → QD (dR p) (sup S p (.lst l))) : ∀ p, H p = none → Q (.ref p) (upd H p (.lst vs)) := fun p hp => by
  obtain ⟨sp, fp⟩ := ok.none_of hp
  obtain ⟨st, ok2⟩ := ok.make (o := .lst vs) (d := .lst l) hp r
  exact n (dR p) _ _ _ st ok2 rfl (q p sp)
/-- a tracked list is turned -/
theorem NK.turn {QD : DK} {Q : VK} {a : Addr} {d0 d r : D} {o : HO} {v : V} (n : NK K F S H QD Q) (ok : Ok K S F H) (h : S a = some d0) (ro : RepO K S F H o d) (rr : RepV K S F H r v) (q : QD r (sup S a d)) : Q v (upd H a o) := by
  obtain ⟨st, ok2⟩ := ok.turn h ro
  exact n r _ _ _ st ok2 (rr.step st) q
theorem RepV.v {x v : V} (h : RepV K S F H (.v x) v) : v = x := h
/-- a list: it stays, or it stands in the store -/
def lsOf (S : Sto) : D → Option (List D)
  | .lst l => some l
  | .v (.ref a) => match S a with
    | some (.lst l) => some l
    | _ => none
  | _ => none
theorem ls_rep {d : D} {l : List D} {v : V} (ok : Ok K S F H) (h : RepV K S F H d v) (e : lsOf S d = some l) : ∃ a vs, v = .ref a ∧ H a = some (.lst vs) ∧ RepVs K S F H l vs := by
  cases d with
  | v x =>
    cases x <;> first | (simp [lsOf] at e; done) | skip
    rename_i a
    simp only [lsOf] at e
    cases q : S a with
    | none => rw [q] at e; simp at e
    | some d0 =>
      rw [q] at e
      cases d0 <;> first | (simp at e; done) | skip
      rename_i m
      obtain rfl := Option.some.inj (show some m = some l from e)
      obtain ⟨f, o, ho, r⟩ := ok.rep a _ q
      cases o <;> first | exact r.elim | skip
      exact ⟨a, _, h, ho, r⟩
  | lst m =>
    obtain rfl := Option.some.inj (show some m = some l from e)
    obtain ⟨a, vs, e, s, _, _, r⟩ := h
    exact ⟨a, vs, e, s, r⟩
  | tup m => simp [lsOf] at e
  | dic _ _ => simp [lsOf] at e
  | dct _ _ => simp [lsOf] at e
  | ins _ _ _ => simp [lsOf] at e
  | scr _ => simp [lsOf] at e
/-! ### + -/
def rAdd : RD2 := fun x y S Q => match x, y with
  | .v (.int i), .v (.int j) => Q (dI (i + j)) S
  | .v (.str a), .v (.str b) => a.length + b.length ≤ sizeLine ∧ Q (.v (.str (a ++ b))) S
  | .tup l, .tup m => l.length + m.length ≤ sizeLine ∧ Q (.tup (l ++ m)) S
  | x, y => ∃ l m, lsOf S x = some l ∧ lsOf S y = some m ∧ l.length + m.length ≤ sizeLine ∧ Q (.lst (l ++ m)) S
theorem RepVs.nil_iff {l : List D} {vs : List V} (r : RepVs K S F H l vs) : vs = [] ↔ l = [] := by
  have h := r.length
  constructor
  · intro e; rw [e] at h; exact List.length_eq_zero_iff.mp h.symm
  · intro e; rw [e] at h; exact List.length_eq_zero_iff.mp h
theorem op_addD : DOp X (binaryOp .Add) rAdd := by
  refine OpR.imp (op_add.or (op_add_str.or (op_catA.or op_cat))) fun x y H Q ⟨S, F, dx, dy, QD, ok, rx, ry, q, n⟩ => ?_
  have lists : (∃ l m, lsOf S dx = some l ∧ lsOf S dy = some m ∧ l.length + m.length ≤ sizeLine ∧ QD (.lst (l ++ m)) S) → rCat x y H Q := by
    rintro ⟨l, m, e1, e2, hl, q⟩
    obtain ⟨a, vs, rfl, ha, r1⟩ := ls_rep ok rx e1
    obtain ⟨b, ws, rfl, hb, r2⟩ := ls_rep ok ry e2
    exact ⟨a, b, vs, ws, rfl, rfl, ha, hb, by rw [r1.length, r2.length]; exact hl, n.lst ok (r1.append r2) q⟩
  unfold rAdd at q
  split at q
  · exact .inl ⟨_, _, rx, ry, n.sv ok q⟩
  · exact .inr (.inl ⟨_, _, rx, ry, q.1, n.sv ok q.2⟩)
  · rename_i l m
    obtain ⟨hl, q⟩ := q
    obtain ⟨a, vs, rfl, ha, r1⟩ := rx.sqt
    obtain ⟨b, ws, rfl, hb, r2⟩ := ry.sqt
    refine .inr (.inr (.inl ⟨a, b, vs, ws, rfl, rfl, ha, hb, by rw [r1.length, r2.length]; exact hl, fun e => ?_, fun h1 e => ?_, fun h1 h2 => n.tup ok (r1.append r2) q⟩))
    · rw [r1.nil_iff] at e
      subst e
      exact n.same ok ry q
    · rw [r2.nil_iff] at e
      subst e
      rw [List.append_nil] at q
      exact n.same ok rx q
  · exact .inr (.inr (.inr (lists q)))
/-! ### ints -/
def rI2 (C : Int → Int → Prop) (g : Int → Int → D) : RD2 := fun x y S Q => ∃ i j, x = dI i ∧ y = dI j ∧ C i j ∧ Q (g i j) S
theorem op_I2 {f : Value → Value → Sem Value} {C : Int → Int → Prop} {g : Int → Int → V} (h : OpR X f (rI C g)) : DOp X f (rI2 C fun i j => .v (g i j)) := OpR.imp h fun x y H Q ⟨S, F, dx, dy, QD, ok, rx, ry, ⟨i, j, e1, e2, hc, q⟩, n⟩ => by
  subst e1; subst e2
  exact ⟨i, j, rx, ry, hc, n.sv ok q⟩
def rI20 (g : Int → Int → D) : RD2 := fun x y S Q => ∃ i j, x = dI i ∧ y = dI j ∧ Q (g i j) S
theorem op_I20 {f : Value → Value → Sem Value} {g : Int → Int → V} (h : OpR X f (rI0 g)) : DOp X f (rI20 fun i j => .v (g i j)) := OpR.imp h fun x y H Q ⟨S, F, dx, dy, QD, ok, rx, ry, ⟨i, j, e1, e2, q⟩, n⟩ => by
  subst e1; subst e2
  exact ⟨i, j, rx, ry, n.sv ok q⟩
abbrev rSub : RD2 := rI20 fun i j => dI (i - j)
abbrev rFdiv : RD2 := rI2 CDivW fun i j => dI (i / j)
abbrev rMod : RD2 := rI2 (fun _ j => 0 < j) fun i j => dI (i % j)
abbrev rPow : RD2 := rI2 CPow fun i j => dI (i ^ j.toNat)
abbrev rXor : RD2 := rI20 fun i j => dI (Builtin.bitXor i j)
abbrev rLt : RD2 := rI20 fun i j => dB (decide (i < j))
abbrev rLe : RD2 := rI20 fun i j => dB (decide (i ≤ j))
abbrev rGt : RD2 := rI20 fun i j => dB (decide (j < i))
abbrev rGe : RD2 := rI20 fun i j => dB (decide (j ≤ i))
theorem op_subD : DOp X (binaryOp .Sub) rSub := op_I20 op_sub
theorem op_fdivD : DOp X (binaryOp .FloorDiv) rFdiv := op_I2 op_fdivW
theorem op_modD : DOp X (binaryOp .Mod) rMod := op_I2 op_mod
theorem op_powD : DOp X (binaryOp .Pow) rPow := op_I2 op_pow
theorem op_xorD : DOp X (binaryOp .BitXor) rXor := op_I20 op_xor
theorem op_ltD : DOp X (compareOp .Lt) rLt := op_I20 op_lt
theorem op_leD : DOp X (compareOp .LtE) rLe := op_I20 op_le
theorem op_gtD : DOp X (compareOp .Gt) rGt := op_I20 op_gt
theorem op_geD : DOp X (compareOp .GtE) rGe := op_I20 op_ge
theorem un_negD : DUn X (unaryOp .USub) (fun x S Q => ∃ i, x = dI i ∧ Q (dI (-i)) S) := UnR.imp un_neg fun x H Q ⟨S, F, dx, QD, ok, rx, ⟨i, e, q⟩, n⟩ => by
  subst e
  exact ⟨i, rx, n.sv ok q⟩
/-- * : ints (wide, or one of them small), a list, a tuple so often -/
def rMul : RD2 := fun x y S Q => match x, y with
  | .v (.int i), .v (.int j) => (CMul i j ∨ CMulW i j) ∧ Q (dI (i * j)) S
  | .tup l, .v (.int k) => (l ≠ [] ∧ 2 ≤ k ∧ k ≤ 1000 ∧ l.length ≤ 1000) ∧ Q (.tup (List.replicate k.toNat l).flatten) S
  | x, .v (.int k) => ∃ l, lsOf S x = some l ∧ (-(2 ^ 63) ≤ k ∧ k < 2 ^ 63 ∧ l.length * k.toNat ≤ sizeLine) ∧ Q (.lst (List.replicate k.toNat l).flatten) S
  | _, _ => False
theorem RepVs.rep {l : List D} {vs : List V} (r : RepVs K S F H l vs) : ∀ k : Nat, RepVs K S F H (List.replicate k l).flatten (List.replicate k vs).flatten
  | 0 => rfl
  | k + 1 => by
    rw [List.replicate_succ, List.replicate_succ, List.flatten_cons, List.flatten_cons]
    exact r.append (RepVs.rep r k)
theorem op_mulD : DOp X (binaryOp .Mult) rMul := by
  refine OpR.imp (op_mul.or (op_mulW.or (op_repT.or op_rep))) fun x y H Q ⟨S, F, dx, dy, QD, ok, rx, ry, q, n⟩ => ?_
  unfold rMul at q
  split at q
  · obtain ⟨h | h, q⟩ := q
    · exact .inl ⟨_, _, rx, ry, h, n.sv ok q⟩
    · exact .inr (.inl ⟨_, _, rx, ry, h, n.sv ok q⟩)
  · obtain ⟨⟨h1, h2, h3, h4⟩, q⟩ := q
    obtain ⟨a, vs, rfl, ha, r1⟩ := rx.sqt
    exact .inr (.inr (.inl ⟨a, _, vs, rfl, ry, ha, fun z => h1 (r1.nil_iff.mp z), h2, h3, by rw [r1.length]; exact h4, n.tup ok (r1.rep _) q⟩))
  · obtain ⟨l, e, ⟨h1, h2, h3⟩, q⟩ := q
    obtain ⟨a, vs, rfl, ha, r1⟩ := ls_rep ok rx e
    exact .inr (.inr (.inr ⟨a, _, vs, rfl, ry, ha, h1, h2, by rw [r1.length]; exact h3, n.lst ok (r1.rep _) q⟩))
  · exact q.elim
/-! ### == -/
mutual
def toPy : D → PyData
  | .v .non => .none
  | .v (.bl b) => .bool b
  | .v (.int i) => .int i
  | .v (.str s) => .str s
  | .tup l => .tuple (toPys l)
  | .lst l => .list (toPys l)
  | _ => .none
def toPys : List D → List PyData
  | [] => []
  | d :: l => toPy d :: toPys l
end
mutual
/-- plain data -/
def plain : D → Bool
  | .v .non => true
  | .v (.bl _) => true
  | .v (.int _) => true
  | .v (.str _) => true
  | .tup l => plains l
  | .lst l => plains l
  | _ => false
def plains : List D → Bool
  | [] => true
  | d :: l => plain d && plains l
end
mutual
theorem dp_of : ∀ {d : D} {v : V}, RepV K S F H d v → plain d = true → Dp K H v (toPy d)
  | .v x, v, r, p => by
    have e : v = x := r
    subst e
    cases v <;> first | exact .non | exact .bl _ | exact .int _ | exact .str _ | (simp [plain] at p)
  | .tup l, v, r, p => by
    obtain ⟨a, vs, rfl, s, r1⟩ := RepV.sqt r
    exact .tup s (dp_all r1 p)
  | .lst l, v, r, p => by
    obtain ⟨a, vs, rfl, s, _, _, r1⟩ := r
    exact .lst (SqL.of s) (dp_all r1 p)
  | .dic _ _, _, _, p => by simp [plain] at p
  | .dct _ _, _, _, p => by simp [plain] at p
  | .ins _ _ _, _, _, p => by simp [plain] at p
  | .scr _, _, _, p => by simp [plain] at p
theorem dp_all : ∀ {l : List D} {vs : List V}, RepVs K S F H l vs → plains l = true → DpAll K H vs (toPys l)
  | [], _, r, _ => by rw [show _ = [] from r]; exact .nil
  | d :: l, _, r, p => by
    obtain ⟨x, t, rfl, r1, r2⟩ := r
    have p' : plain d = true ∧ plains l = true := by simpa [plains] using p
    exact .cons (dp_of r1 p'.1) (dp_all r2 p'.2)
end
/-- a list in the store as it stands -/
def view (S : Sto) : D → D
  | .v (.ref a) => match S a with
    | some (.lst l) => .lst l
    | _ => .v (.ref a)
  | d => d
theorem dp_view {d : D} {v : V} (ok : Ok K S F H) (r : RepV K S F H d v) (p : plain (view S d) = true) : Dp K H v (toPy (view S d)) := by
  cases d with
  | v x =>
    cases x <;> first | exact dp_of r p | skip
    rename_i a
    have rv : v = .ref a := r
    subst rv
    simp only [view] at p ⊢
    cases q : S a with
    | none => rw [q] at p; simp [plain] at p
    | some d0 =>
      rw [q] at p
      cases d0 <;> first | (simp [plain] at p; done) | skip
      rename_i m
      obtain ⟨f, o, ho, ro⟩ := ok.rep a _ q
      cases o <;> first | exact ro.elim | skip
      exact .lst (SqL.of ho) (dp_all ro p)
  | tup _ => exact dp_of r p
  | lst _ => exact dp_of r p
  | dic _ _ => exact dp_of r p
  | dct _ _ => exact dp_of r p
  | ins _ _ _ => exact dp_of r p
  | scr _ => exact dp_of r p
def eqD (x y : D) : Bool := PyData.eqv (toPy x) (toPy y)
mutual
/-- plain data, no deeper than so; texts of code points -/
def okD : Nat → D → Bool
  | _, .v .non => true
  | _, .v (.bl _) => true
  | _, .v (.int _) => true
  | _, .v (.str s) => s.cps.all (· < 0x110000)
  | n + 1, .tup l => okDs n l
  | n + 1, .lst l => okDs n l
  | _, _ => false
def okDs : Nat → List D → Bool
  | _, [] => true
  | n, d :: l => okD n d && okDs n l
end
mutual
theorem okD_plain : ∀ (n : Nat) (d : D), okD n d = true → plain d = true ∧ (toPy d).canLay0 = true ∧ (toPy d).depth ≤ n
  | n, .v x, h => by
    cases x <;> first | exact ⟨rfl, rfl, Nat.zero_le _⟩ | (cases n <;> simp [okD] at h; done) | skip
    rename_i s
    have h' : s.cps.all (· < 0x110000) = true := by cases n <;> simpa [okD] using h
    exact ⟨rfl, h', Nat.zero_le _⟩
  | 0, .tup l, h => by simp [okD] at h
  | n + 1, .tup l, h => by
    obtain ⟨h1, h2, h3⟩ := okDs_plain n l (by simpa [okD] using h)
    exact ⟨h1, h2, Nat.succ_le_succ h3⟩
  | 0, .lst l, h => by simp [okD] at h
  | n + 1, .lst l, h => by
    obtain ⟨h1, h2, h3⟩ := okDs_plain n l (by simpa [okD] using h)
    exact ⟨h1, h2, Nat.succ_le_succ h3⟩
  | n, .dic _ _, h => by cases n <;> simp [okD] at h
  | n, .dct _ _, h => by cases n <;> simp [okD] at h
  | n, .ins _ _ _, h => by cases n <;> simp [okD] at h
  | n, .scr _, h => by cases n <;> simp [okD] at h
theorem okDs_plain : ∀ (n : Nat) (l : List D), okDs n l = true → plains l = true ∧ PyData.canLayAll0 (toPys l) = true ∧ PyData.depthAll (toPys l) ≤ n
  | n, [], _ => ⟨rfl, rfl, Nat.zero_le _⟩
  | n, d :: l, h => by
    have h' : okD n d = true ∧ okDs n l = true := by simpa [okDs] using h
    obtain ⟨a1, a2, a3⟩ := okD_plain n d h'.1
    obtain ⟨b1, b2, b3⟩ := okDs_plain n l h'.2
    refine ⟨by simp [plains, a1, b1], by simp [toPys, PyData.canLayAll0, a2, b2], ?_⟩
    show max (toPy d).depth (PyData.depthAll (toPys l)) ≤ n
    omega
end
theorem shp_of {d : D} (h : okD 64 d = true) : plain d = true ∧ SeqAt.shaped (toPy d) = true := by
  obtain ⟨h1, h2, h3⟩ := okD_plain 64 d h
  exact ⟨h1, by unfold SeqAt.shaped; rw [h2, decide_eq_true h3]; rfl⟩
def rEq : RD2 := fun x y S Q => okD 64 (view S x) = true ∧ okD 64 (view S y) = true ∧ Q (dB (eqD (view S x) (view S y))) S
def rNe : RD2 := fun x y S Q => okD 64 (view S x) = true ∧ okD 64 (view S y) = true ∧ Q (dB (!eqD (view S x) (view S y))) S
theorem op_eqE (hu : X.A.units + 64 < cLine) : DOp X (compareOp .Eq) rEq := OpR.imp (op_eqD hu) fun x y H Q ⟨S, F, dx, dy, QD, ok, rx, ry, ⟨h1, h2, q⟩, n⟩ => by
  have p1 := shp_of h1
  have p2 := shp_of h2
  exact ⟨_, _, dp_view ok rx p1.1, dp_view ok ry p2.1, p1.2, p2.2, n.sv ok q⟩
theorem op_neE (hu : X.A.units + 64 < cLine) : DOp X (compareOp .NotEq) rNe := OpR.imp (op_neD hu) fun x y H Q ⟨S, F, dx, dy, QD, ok, rx, ry, ⟨h1, h2, q⟩, n⟩ => by
  have p1 := shp_of h1
  have p2 := shp_of h2
  exact ⟨_, _, dp_view ok rx p1.1, dp_view ok ry p2.1, p1.2, p2.2, n.sv ok q⟩
/-! ### is -/
def isNonD : D → Bool
  | .v v => decide (v = .non)
  | _ => false
def rIs : RD2 := fun x y S Q => match y with
  | .v .non => Q (dB (isNonD x)) S
  | .v (.bl b) => ∃ a, x = dB a ∧ Q (dB (decide (a = b))) S
  | _ => False
def rIsNot : RD2 := fun x y S Q => match y with
  | .v .non => Q (dB (!isNonD x)) S
  | .v (.bl b) => ∃ a, x = dB a ∧ Q (dB (!decide (a = b))) S
  | _ => False
theorem isNon_ok {d : D} {v : V} (r : RepV K S F H d v) : isNonD d = decide (v = .non) := by
  cases d with
  | v x => rw [show v = x from r]; rfl
  | tup _ => obtain ⟨a, vs, rfl, _⟩ := r; rfl
  | lst _ => obtain ⟨a, vs, rfl, _⟩ := r; rfl
  | dic _ _ => obtain ⟨a, vs, rfl, _⟩ := r; rfl
  | dct _ _ => obtain ⟨a, vs, rfl, _⟩ := r; rfl
  | ins _ _ _ => exact r.elim
  | scr _ => obtain ⟨a, vs, rfl, _⟩ := r; rfl
theorem op_isD : DOp X (compareOp .Is) rIs := OpR.imp (op_isN.or op_is_bl) fun x y H Q ⟨S, F, dx, dy, QD, ok, rx, ry, q, n⟩ => by
  unfold rIs at q
  split at q
  · rw [isNon_ok rx] at q
    exact .inl ⟨ry, n.sv ok q⟩
  · obtain ⟨a, rfl, q⟩ := q
    exact .inr ⟨a, _, rx, ry, n.sv ok q⟩
  · exact q.elim
theorem op_isNotD : DOp X (compareOp .IsNot) rIsNot := OpR.imp (op_notN.or op_isnot_bl) fun x y H Q ⟨S, F, dx, dy, QD, ok, rx, ry, q, n⟩ => by
  unfold rIsNot at q
  split at q
  · rw [isNon_ok rx] at q
    exact .inl ⟨ry, n.sv ok q⟩
  · obtain ⟨a, rfl, q⟩ := q
    exact .inr ⟨a, _, rx, ry, n.sv ok q⟩
  · exact q.elim
end
section
variable {X : Cx} {W : WX} {e a b c : Expr} {es : List Expr} {ta tb tc te : DTE} {t : DTA} {pos : Pos}
variable {K : PySem.W.Frag} {S S' : Sto} {F F' : Addr → Prop} {H H' : Hp}
/-! ### x[i] -/
abbrev DIx (X : Cx) (r : RD2) : Prop := IxR X (liftR X.K r)
theorem IxR.imp {r r' : R2} (h : IxR X r) (i : ∀ x y H Q, r' x y H Q → r x y H Q) : IxR X r' := fun value slice pins s σ H x y v u Q I rx ry q hs => h value slice pins s σ H x y v u Q I rx ry (i x y H Q q) hs
theorem de_ix {r : RD2} (hr : DIx X r) (ha : DE X W a ta) (hb : DE X W b tb) (hs : PlainIx b) : DE X W (.Subscript a b pos) (dBin r ta tb) := PE.imp (pe_ix hr ha hb hs) fun _ _ _ => tOp_lift
/-- a tuple, a list, a text at a place -/
def rIxD : RD2 := fun x y S Q => ∃ i l d, y = dI i ∧ seqOf S x = some l ∧ (∀ s, x = .v (.str s) → s.length ≤ sizeLine) ∧ atI l i = some d ∧ Q d S
theorem atI_rep {l : List D} {vs : List V} {i : Int} {d : D} (r : RepVs K S F H l vs) (e : atI l i = some d) : ∃ v, atI vs i = some v ∧ RepV K S F H d v := by
  unfold atI at e ⊢
  rw [r.length]
  cases q : ixN l.length i with
  | none => rw [q] at e; cases e
  | some j =>
    rw [q] at e
    obtain ⟨v, h1, h2⟩ := r.get (show l[j]? = some d from e)
    exact ⟨v, h1, h2⟩
theorem ix_seqD : DIx X rIxD := IxR.imp ix_seq fun x y H Q ⟨S, F, dx, dy, QD, ok, rx, ry, ⟨i, l, d, e1, e2, e3, e4, q⟩, n⟩ => by
  subst e1
  have main : ∀ m, itemsOf S dx = some m → m = l → rIx X.K x y H Q := by
    intro m em eml
    subst eml
    obtain ⟨a, vs, rfl, hs, r⟩ := items_rep ok rx em
    obtain ⟨v, h1, h2⟩ := atI_rep r e4
    rcases hs with hs | hs
    · exact .inr (.inl ⟨a, vs, i, v, rfl, ry, hs, h1, n.same ok h2 q⟩)
    · exact .inl ⟨a, vs, i, v, rfl, ry, SqL.of hs, h1, n.same ok h2 q⟩
  cases dx with
  | v z =>
    cases z with
    | str s =>
      obtain rfl := Option.some.inj (show some (signsD s) = some l from e2)
      refine .inr (.inr ?_)
      unfold atI signsD at e4
      rw [List.length_map] at e4
      unfold rIxS atI
      have hx : x = .str s := rx
      cases q2 : ixN (sl s).length i with
      | none => rw [q2] at e4; cases e4
      | some j =>
        rw [q2] at e4
        have e5 : ((sl s).map fun c => dS [c])[j]? = some d := e4
        rw [List.getElem?_map] at e5
        obtain ⟨c, hc, rfl⟩ := Option.map_eq_some_iff.mp e5
        refine ⟨s, i, c, hx, ry, e3 s rfl, ?_, n.sv ok q⟩
        show (ixN (sl s).length i).bind _ = _
        rw [q2]
        exact hc
    | non => exact main _ e2 rfl
    | bl _ => exact main _ e2 rfl
    | int _ => exact main _ e2 rfl
    | byt _ => exact main _ e2 rfl
    | flt _ => exact main _ e2 rfl
    | ref _ => exact main _ e2 rfl
    | ty _ => exact main _ e2 rfl
  | tup _ => exact main _ e2 rfl
  | lst _ => exact main _ e2 rfl
  | dic _ _ => exact main _ e2 rfl
  | dct _ _ => exact main _ e2 rfl
  | ins _ _ _ => exact main _ e2 rfl
  | scr _ => exact main _ e2 rfl
/-! ### x[i:j] -/
abbrev DTO := Env' → Sto → (Option Int → Sto → Prop) → XD → Prop
def liftO (K : PySem.W.Frag) (mg : Mg) (W : WX) (t : DTO) : TO := fun σ H Q => ∃ ρ S F QD ED, Ok K S F H ∧ RepE K S F H ρ σ ∧ t ρ S QD ED ∧ (∀ o S' H', Step F S H S' H' → Ok K S' F H' → QD o S' → Q o H') ∧ XC K mg F S H ED (fun c d H' => W c d σ H')
abbrev DO (X : Cx) (W : WX) (e : Option Expr) (t : DTO) : Prop := PO X e (liftO X.K X.mg W t)
theorem PO.imp {e : Option Expr} {t t' : TO} (h : PO X e t) (i : ∀ σ H Q, t' σ H Q → t σ H Q) : PO X e t' := ⟨fun pins s σ H Q I q => h.run pins s σ H Q I (i σ H Q q)⟩
def dNoPart : DTO := fun _ S Q _ => Q none S
def dPart (te : DTE) : DTO := fun ρ S Q E => te ρ S (fun d S1 => ∃ i, d = dI i ∧ Q (some i) S1) E
theorem do_none : DO X W none dNoPart := PO.imp po_none fun σ H Q ⟨ρ, S, F, QD, ED, ok, re, q, n, x⟩ => n none S H .refl ok q
theorem do_some (h : DE X W e te) : DO X W (some e) (dPart te) := PO.imp (po_some h) fun σ H Q ⟨ρ, S, F, QD, ED, ok, re, q, n, x⟩ => ⟨ρ, S, F, _, ED, ok, re, q, fun d S1 v H1 st ok1 rv ⟨i, e, q⟩ => by
  subst e
  exact ⟨i, rv, n (some i) S1 H1 st ok1 q⟩, x⟩
def cutL {α : Type} (xs : List α) (lo hi : Option Int) : List α := (xs.drop (HT.sIx xs.length 0 lo)).take (HT.sIx xs.length xs.length hi - HT.sIx xs.length 0 lo)
/-- a slice: of a tuple, of a list, of a text -/
def sliceD (x : D) (lo hi : Option Int) (S : Sto) (Q : DK) : Prop := match x with
  | .tup l => Q (.tup (cutL l lo hi)) S
  | .v (.str s) => s.length ≤ sizeLine ∧ Q (dS (cutL (sl s) lo hi)) S
  | x => ∃ l, lsOf S x = some l ∧ Q (.lst (cutL l lo hi)) S
def dSl (te : DTE) (tl th : DTO) : DTE := fun ρ S Q E => te ρ S (fun x S1 => tl ρ S1 (fun l S2 => th ρ S2 (fun u S3 => sliceD x l u S3 Q) E) E) E
theorem RepVs.cut {l : List D} {vs : List V} {lo hi : Option Int} (r : RepVs K S F H l vs) : RepVs K S F H (cutL l lo hi) (cutV vs lo hi) := by
  unfold cutL cutV
  rw [r.length]
  exact (r.drop _).take _
theorem cut_whole {α : Type} {l : List α} {lo hi : Option Int} (h : HT.sIx l.length 0 lo = 0 ∧ HT.sIx l.length l.length hi = l.length) : cutL l lo hi = l := by
  unfold cutL
  rw [h.1, h.2, List.drop_zero, Nat.sub_zero, List.take_length]
theorem SlR.imp {r r' : V → Option Int → Option Int → Hp → VK → Prop} (h : SlR X r) (i : ∀ x lo hi H Q, r' x lo hi H Q → r x lo hi H Q) : SlR X r' := fun pins s σ H x v vl vu lo hi sl Q I rx hs pl pu q => h pins s σ H x v vl vu lo hi sl Q I rx hs pl pu (i x lo hi H Q q)
theorem de_slice {lo hi : Option Expr} {tl th : DTO} {p2 : Pos} (he : DE X W e te) (hl : DO X W lo tl) (hu : DO X W hi th) : DE X W (.Subscript e (.Slice lo hi none p2) pos) (dSl te tl th) := by
  refine PE.imp (pe_slice (r := fun x lo hi H Q => ∃ S F d QD, Ok X.K S F H ∧ RepV X.K S F H d x ∧ sliceD d lo hi S QD ∧ NK X.K F S H QD Q) (SlR.imp (sl_tupA.or (sl_list.or sl_str)) fun x lo hi H Q ⟨S, F, d, QD, ok, rx, q, n⟩ => ?_) he hl hu)
    fun σ H Q ⟨ρ, S, F, QD, ED, ok, re, q, n, x⟩ => ⟨ρ, S, F, _, ED, ok, re, q, fun d S1 v H1 st1 ok1 rv1 q1 => ⟨ρ, S1, F, _, ED, ok1, re.step st1, q1, fun l S2 H2 st2 ok2 q2 => ⟨ρ, S2, F, _, ED, ok2, re.step (st1.trans st2), q2, fun u S3 H3 st3 ok3 q3 =>
      ⟨S3, F, d, QD, ok3, (rv1.step st2).step st3, q3, n.step ((st1.trans st2).trans st3)⟩, (x.step st1).step st2⟩, x.step st1⟩, x⟩
  unfold sliceD at q
  split at q
  · rename_i l
    obtain ⟨a, vs, rfl, hs, r⟩ := rx.sqt
    refine .inl ⟨a, vs, rfl, hs, fun h => ?_, fun h => n.tup ok r.cut q⟩
    rw [r.length] at h
    rw [cut_whole h] at q
    exact n.same ok rx q
  · rename_i s
    refine .inr (.inr ⟨s, rx, q.1, ?_⟩)
    exact n.sv ok q.2
  · obtain ⟨l, e, q⟩ := q
    obtain ⟨a, vs, rfl, hs, r⟩ := ls_rep ok rx e
    exact .inr (.inl ⟨a, vs, rfl, SqL.of hs, n.lst ok r.cut q⟩)
/-! ### built-in calls -/
theorem RepVs.one_inv {d : D} {vs : List V} (h : RepVs K S F H [d] vs) : ∃ v, vs = [v] ∧ RepV K S F H d v := by
  obtain ⟨x, r, rfl, h1, h2⟩ := h
  rw [show r = [] from h2]
  exact ⟨x, rfl, h1⟩
theorem RepVs.two_inv {d e : D} {vs : List V} (h : RepVs K S F H [d, e] vs) : ∃ v w, vs = [v, w] ∧ RepV K S F H d v ∧ RepV K S F H e w := by
  obtain ⟨x, r, rfl, h1, h2⟩ := h
  obtain ⟨w, rfl, h3⟩ := h2.one_inv
  exact ⟨x, w, rfl, h1, h3⟩
def lenD (ds : List D) (S : Sto) (Q : DK) : Prop := ∃ d, ds = [d] ∧ match d with
  | .v (.str s) => s.length ≤ sizeLine ∧ Q (dI (s.length : Nat)) S
  | d => ∃ l, itemsOf S d = some l ∧ Q (dI (l.length : Nat)) S
theorem cl_len : DCl X (.builtin "len") lenD := CallR.imp (call_len_str.or call_len_seq) fun xs H Q ⟨S, F, ds, QD, ok, rv, ⟨d, e, q⟩, n⟩ => by
  subst e
  obtain ⟨v, rfl, r⟩ := rv.one_inv
  split at q
  · exact .inl ⟨_, by rw [show v = _ from r], q.1, n.sv ok q.2⟩
  · obtain ⟨l, e, q⟩ := q
    obtain ⟨a, vs, rfl, hs, r1⟩ := items_rep ok r e
    refine .inr ⟨a, vs, rfl, ?_, ?_⟩
    · rcases hs with hs | hs
      · exact .inr hs
      · exact .inl (SqL.of hs)
    · rw [r1.length]; exact n.sv ok q
def tupD (ds : List D) (S : Sto) (Q : DK) : Prop := ∃ d l, ds = [d] ∧ itemsOf S d = some l ∧ Q (.tup l) S
theorem items_cases {d : D} {l : List D} (e : itemsOf S d = some l) : d = .tup l ∨ lsOf S d = some l := by
  cases d with
  | tup m => exact .inl (by rw [Option.some.inj (show some m = some l from e)])
  | lst m => exact .inr e
  | v x => cases x <;> exact .inr e
  | dic _ _ => exact .inr e
  | dct _ _ => exact .inr e
  | ins _ _ _ => exact .inr e
  | scr _ => exact .inr e
theorem cl_tuple : DCl X (.type "tuple") tupD := CallR.imp call_tuple_of fun xs H Q ⟨S, F, ds, QD, ok, rv, ⟨d, l, e, e2, q⟩, n⟩ => by
  subst e
  obtain ⟨v, rfl, r⟩ := rv.one_inv
  rcases items_cases e2 with rfl | e3
  · obtain ⟨a, vs, rfl, hs, r1⟩ := r.sqt
    exact ⟨a, vs, rfl, .inr ⟨hs, n.same ok r q⟩⟩
  · obtain ⟨a, vs, rfl, hs, r1⟩ := ls_rep ok r e3
    exact ⟨a, vs, rfl, .inl ⟨SqL.of hs, n.tup ok r1 q⟩⟩
/-- list(x): of a list, a tuple, the script; one that stays -/
def itemsScr (S : Sto) : D → Option (List D)
  | .scr l => some l
  | d => itemsOf S d
def lstD (ds : List D) (S : Sto) (Q : DK) : Prop := ∃ d l, ds = [d] ∧ itemsScr S d = some l ∧ Q (.lst l) S
def lstDM (ds : List D) (S : Sto) (Q : DK) : Prop := ∃ d l, ds = [d] ∧ itemsScr S d = some l ∧ ∀ p, S p = none → Q (dR p) (sup S p (.lst l))
theorem scr_rep {d : D} {l : List D} {v : V} (ok : Ok K S F H) (r : RepV K S F H d v) (e : itemsScr S d = some l) : ∃ a vs, v = .ref a ∧ (SqL K H a vs ∨ SqT K H a vs) ∧ RepVs K S F H l vs := by
  have main : ∀ m, itemsOf S d = some m → m = l → ∃ a vs, v = .ref a ∧ (SqL K H a vs ∨ SqT K H a vs) ∧ RepVs K S F H l vs := by
    intro m em eml
    subst eml
    obtain ⟨a, vs, rfl, hs, r1⟩ := items_rep ok r em
    exact ⟨a, vs, rfl, hs.elim .inr fun z => .inl (SqL.of z), r1⟩
  cases d with
  | scr m =>
    obtain rfl := Option.some.inj (show some m = some l from e)
    obtain ⟨a, vs, rfl, ⟨o, ho, _, _⟩ | hk, r1⟩ := r
    · exact ⟨a, vs, rfl, .inl (.inl (.inr ⟨o, ho⟩)), r1⟩
    · exact ⟨a, vs, rfl, .inl (.inr hk), r1⟩
  | v _ => exact main _ e rfl
  | tup _ => exact main _ e rfl
  | lst _ => exact main _ e rfl
  | dic _ _ => exact main _ e rfl
  | dct _ _ => exact main _ e rfl
  | ins _ _ _ => exact main _ e rfl
theorem cl_list : DCl X (.type "list") lstD := CallR.imp call_list_of fun xs H Q ⟨S, F, ds, QD, ok, rv, ⟨d, l, e, e2, q⟩, n⟩ => by
  subst e
  obtain ⟨v, rfl, r⟩ := rv.one_inv
  obtain ⟨a, vs, rfl, hs, r1⟩ := scr_rep ok r e2
  exact ⟨a, vs, rfl, hs, n.lst ok r1 q⟩
theorem cl_listM : DCl X (.type "list") lstDM := CallR.imp call_list_of fun xs H Q ⟨S, F, ds, QD, ok, rv, ⟨d, l, e, e2, q⟩, n⟩ => by
  subst e
  obtain ⟨v, rfl, r⟩ := rv.one_inv
  obtain ⟨a, vs, rfl, hs, r1⟩ := scr_rep ok r e2
  exact ⟨a, vs, rfl, hs, n.lstM ok r1 q⟩
def intD (ds : List D) (S : Sto) (Q : DK) : Prop := (∃ i, ds = [dI i] ∧ Q (dI i) S) ∨ ∃ b, ds = [dB b] ∧ Q (dI (if b then 1 else 0)) S
theorem cl_int : DCl X (.type "int") intD := CallR.imp call_int1 fun xs H Q ⟨S, F, ds, QD, ok, rv, q, n⟩ => by
  rcases q with ⟨i, e, q⟩ | ⟨b, e, q⟩
  · subst e
    exact .inl ⟨i, rv.ints1, n.sv ok q⟩
  · subst e
    obtain ⟨v, rfl, r⟩ := rv.one_inv
    exact .inr ⟨b, by rw [show v = _ from r], n.sv ok q⟩
def absD (ds : List D) (S : Sto) (Q : DK) : Prop := ∃ i, ds = [dI i] ∧ Q (dI (if i < 0 then -i else i)) S
theorem cl_abs : DCl X (.builtin "abs") absD := CallR.imp call_abs fun xs H Q ⟨S, F, ds, QD, ok, rv, ⟨i, e, q⟩, n⟩ => by
  subst e
  exact ⟨i, rv.ints1, n.sv ok q⟩
def min2D (ds : List D) (S : Sto) (Q : DK) : Prop := ∃ i j, ds = [dI i, dI j] ∧ Q (dI (min i j)) S
def max2D (ds : List D) (S : Sto) (Q : DK) : Prop := ∃ i j, ds = [dI i, dI j] ∧ Q (dI (max i j)) S
theorem cl_min2 (hc : X.calm = true) : DCl X (.builtin "min") min2D := CallR.imp (call_min2 hc) fun xs H Q ⟨S, F, ds, QD, ok, rv, ⟨i, j, e, q⟩, n⟩ => by
  subst e
  refine ⟨i, j, rv.ints2, n.sv ok ?_⟩
  rw [show (if j < i then j else i) = min i j by omega]
  exact q
theorem cl_max2 (hc : X.calm = true) : DCl X (.builtin "max") max2D := CallR.imp (call_max2 hc) fun xs H Q ⟨S, F, ds, QD, ok, rv, ⟨i, j, e, q⟩, n⟩ => by
  subst e
  refine ⟨i, j, rv.ints2, n.sv ok ?_⟩
  rw [show (if j > i then j else i) = max i j by omega]
  exact q
theorem reps_ints : ∀ {ns : List Int} {vs : List V}, RepVs K S F H (ns.map dI) vs → vs = ns.map V.int
  | [], _, h => h
  | n :: ns, _, h => by
    obtain ⟨x, r, rfl, h1, h2⟩ := h
    rw [reps_ints h2, show x = _ from h1]
    rfl
theorem reps_bls : ∀ {ns : List Bool} {vs : List V}, RepVs K S F H (ns.map dB) vs → vs = ns.map V.bl
  | [], _, h => h
  | n :: ns, _, h => by
    obtain ⟨x, r, rfl, h1, h2⟩ := h
    rw [reps_bls h2, show x = _ from h1]
    rfl
theorem reps_strs : ∀ {ns : List (List Nat)} {vs : List V}, RepVs K S F H (ns.map dS) vs → vs = (ns.map fun l => (⟨l.toArray⟩ : Str)).map V.str
  | [], _, h => h
  | n :: ns, _, h => by
    obtain ⟨x, r, rfl, h1, h2⟩ := h
    rw [reps_strs h2, show x = _ from h1]
    rfl
theorem ints_reps (ns : List Int) : RepVs K S F H (ns.map dI) (ns.map V.int) := by
  induction ns with
  | nil => exact rfl
  | cons n ns ih => exact ⟨_, _, rfl, rfl, ih⟩
def sumD (ds : List D) (S : Sto) (Q : DK) : Prop := ∃ (d : D) (ns : List Int), ds = [d] ∧ lsOf S d = some (ns.map dI) ∧ Q (dI ns.sum) S
theorem cl_sum (hc : X.calm = true) : DCl X (.builtin "sum") sumD := CallR.imp (cr_sum hc) fun xs H Q ⟨S, F, ds, QD, ok, rv, ⟨d, ns, e, e2, q⟩, n⟩ => by
  subst e
  obtain ⟨v, rfl, r⟩ := rv.one_inv
  obtain ⟨a, vs, rfl, hs, r1⟩ := ls_rep ok r e2
  rw [reps_ints r1] at hs
  exact ⟨a, ns, rfl, SqL.of hs, n.sv ok q⟩
def allD (ds : List D) (S : Sto) (Q : DK) : Prop := ∃ (d : D) (bs : List Bool), ds = [d] ∧ lsOf S d = some (bs.map dB) ∧ Q (dB (bs.all id)) S
def anyD (ds : List D) (S : Sto) (Q : DK) : Prop := ∃ (d : D) (bs : List Bool), ds = [d] ∧ lsOf S d = some (bs.map dB) ∧ Q (dB (bs.any id)) S
theorem cl_all (hc : X.calm = true) : DCl X (.builtin "all") allD := CallR.imp (cr_all hc) fun xs H Q ⟨S, F, ds, QD, ok, rv, ⟨d, ns, e, e2, q⟩, n⟩ => by
  subst e
  obtain ⟨v, rfl, r⟩ := rv.one_inv
  obtain ⟨a, vs, rfl, hs, r1⟩ := ls_rep ok r e2
  rw [reps_bls r1] at hs
  exact ⟨a, ns, rfl, SqL.of hs, n.sv ok q⟩
theorem cl_any (hc : X.calm = true) : DCl X (.builtin "any") anyD := CallR.imp (cr_any hc) fun xs H Q ⟨S, F, ds, QD, ok, rv, ⟨d, ns, e, e2, q⟩, n⟩ => by
  subst e
  obtain ⟨v, rfl, r⟩ := rv.one_inv
  obtain ⟨a, vs, rfl, hs, r1⟩ := ls_rep ok r e2
  rw [reps_bls r1] at hs
  exact ⟨a, ns, rfl, SqL.of hs, n.sv ok q⟩
/-- the greatest, the least of a list of ints -/
def maxLD (ds : List D) (S : Sto) (Q : DK) : Prop := ∃ (d : D) (ns : List Int), ds = [d] ∧ lsOf S d = some (ns.map dI) ∧ 0 < ns.length ∧ ∀ m, m ∈ ns → (∀ y ∈ ns, y ≤ m) → Q (dI m) S
def minLD (ds : List D) (S : Sto) (Q : DK) : Prop := ∃ (d : D) (ns : List Int), ds = [d] ∧ lsOf S d = some (ns.map dI) ∧ 0 < ns.length ∧ ∀ m, m ∈ ns → (∀ y ∈ ns, m ≤ y) → Q (dI m) S
theorem cl_maxL (hc : X.calm = true) : DCl X (.builtin "max") maxLD := CallR.imp (cr_max hc) fun xs H Q ⟨S, F, ds, QD, ok, rv, ⟨d, ns, e, e2, h0, q⟩, n⟩ => by
  subst e
  obtain ⟨v, rfl, r⟩ := rv.one_inv
  obtain ⟨a, vs, rfl, hs, r1⟩ := ls_rep ok r e2
  rw [reps_ints r1] at hs
  exact ⟨a, ns, rfl, SqL.of hs, h0, fun m h1 h2 => n.sv ok (q m h1 h2)⟩
theorem cl_minL (hc : X.calm = true) : DCl X (.builtin "min") minLD := CallR.imp (cr_min hc) fun xs H Q ⟨S, F, ds, QD, ok, rv, ⟨d, ns, e, e2, h0, q⟩, n⟩ => by
  subst e
  obtain ⟨v, rfl, r⟩ := rv.one_inv
  obtain ⟨a, vs, rfl, hs, r1⟩ := ls_rep ok r e2
  rw [reps_ints r1] at hs
  exact ⟨a, ns, rfl, SqL.of hs, h0, fun m h1 h2 => n.sv ok (q m h1 h2)⟩
def sortID (ds : List D) (S : Sto) (Q : DK) : Prop := ∃ (d : D) (ns : List Int), ds = [d] ∧ lsOf S d = some (ns.map dI) ∧ ∀ ns' : List Int, ns'.Perm ns → ns'.Pairwise (· ≤ ·) → Q (.lst (ns'.map dI)) S
theorem cl_sortedI : DCl X (.builtin "sorted") sortID := CallR.imp cr_sortedI fun xs H Q ⟨S, F, ds, QD, ok, rv, ⟨d, ns, e, e2, q⟩, n⟩ => by
  subst e
  obtain ⟨v, rfl, r⟩ := rv.one_inv
  obtain ⟨a, vs, rfl, hs, r1⟩ := ls_rep ok r e2
  rw [reps_ints r1] at hs
  exact ⟨a, ns, rfl, SqL.of hs, fun ns' p h1 h2 hp => n.lst ok (ints_reps ns') (q ns' h1 h2) p hp⟩
/-! ### isinstance -/
def tyOf (S : Sto) : D → Option String
  | .v .non => some "NoneType"
  | .v (.bl _) => some "bool"
  | .v (.int _) => some "int"
  | .v (.str _) => some "str"
  | .v (.ref a) => match S a with
    | some (.lst _) => some "list"
    | some (.dic _ _) => some "dict"
    | _ => none
  | .tup _ => some "tuple"
  | .lst _ => some "list"
  | _ => none
def isT : String → String → Option Bool
  | "NoneType", "int" => some false | "NoneType", "str" => some false | "NoneType", "tuple" => some false | "NoneType", "bool" => some false | "NoneType", "list" => some false
  | "bool", "int" => some true | "bool", "str" => some false | "bool", "tuple" => some false | "bool", "bool" => some true | "bool", "list" => some false
  | "int", "int" => some true | "int", "str" => some false | "int", "tuple" => some false | "int", "bool" => some false | "int", "list" => some false
  | "str", "int" => some false | "str", "str" => some true | "str", "tuple" => some false | "str", "bool" => some false | "str", "list" => some false
  | "tuple", "int" => some false | "tuple", "str" => some false | "tuple", "tuple" => some true | "tuple", "bool" => some false | "tuple", "list" => some false
  | "list", "int" => some false | "list", "str" => some false | "list", "tuple" => some false | "list", "bool" => some false | "list", "list" => some true
  | _, _ => none
theorem isT_kit {a c : String} {r : Bool} (h : isT a c = some r) : PySem.W.kitOne K (.type a) (.type c) = some r := by
  apply kit_ty
  unfold isT at h
  split at h <;> first | (cases h; decide +kernel) | cases h
def isiD (ds : List D) (S : Sto) (Q : DK) : Prop := ∃ d T n b, ds = [d, .v (.ty T)] ∧ tyOf S d = some n ∧ isT n T = some b ∧ Q (dB b) S
theorem tyX_of {d : D} {v : V} {n : String} (ok : Ok K S F H) (r : RepV K S F H d v) (e : tyOf S d = some n) : TyX K H v (.type n) := by
  cases d with
  | v x =>
    have rv : v = x := r
    subst rv
    cases v with
    | non => cases e; exact .base .non
    | bl b => cases e; exact .base (.bl b)
    | int i => cases e; exact .base (.int i)
    | str z => cases e; exact .base (.str z)
    | ref a =>
      simp only [tyOf] at e
      cases q : S a with
      | none => rw [q] at e; cases e
      | some d0 =>
        rw [q] at e
        obtain ⟨f, o, ho, ro⟩ := ok.rep a _ q
        cases d0 <;> first | (cases e; done) | skip
        · cases e
          cases o <;> first | exact ro.elim | skip
          exact .base (.lst ho)
        · cases e
          cases o <;> first | exact ro.elim | skip
          exact .base (.dK ho)
    | byt _ => cases e
    | flt _ => cases e
    | ty _ => cases e
  | tup l =>
    cases e
    obtain ⟨a, vs, rfl, s | ⟨o, its, m, h1, h2, _⟩, _⟩ := r
    · rcases s.1 with s | ⟨o, s⟩
      · exact .base (.tup s)
      · exact .fTuple s
    · exact .kTuple h1 h2
  | lst l =>
    cases e
    obtain ⟨a, vs, rfl, s, _⟩ := r
    exact .base (.lst s)
  | dic _ _ => cases e
  | dct _ _ => cases e
  | ins _ _ _ => cases e
  | scr _ => cases e
theorem cl_isi : DCl X (.builtin "isinstance") isiD := CallR.imp call_isi fun xs H Q ⟨S, F, ds, QD, ok, rv, ⟨d, T, m, b, e, h1, h2, q⟩, n⟩ => by
  subst e
  obtain ⟨v, w, rfl, r1, r2⟩ := rv.two_inv
  rw [show w = _ from r2]
  exact ⟨v, .ty T, .type m, .type T, b, rfl, .ty T, tyX_of ok r1 h1, isT_kit h2, n.sv ok q⟩
/-! ### texts -/
theorem str_len (l : List Nat) : (⟨l.toArray⟩ : Str).length = l.length := by simp [Str.length]
theorem str_add (l m : List Nat) : (⟨l.toArray⟩ : Str) ++ ⟨m.toArray⟩ = ⟨(l ++ m).toArray⟩ := by
  apply Str.ext'
  show l.toArray ++ m.toArray = _
  simp
def strID (ds : List D) (S : Sto) (Q : DK) : Prop := ∃ i : Int, ds = [dI i] ∧ i.natAbs.log2 < 1920 ∧ Q (.v (.str (toString i))) S
theorem cl_strI : DCl X (.type "str") strID := CallR.imp call_str_int fun xs H Q ⟨S, F, ds, QD, ok, rv, ⟨i, e, h, q⟩, n⟩ => by
  subst e
  exact ⟨i, rv.ints1, h, n.sv ok q⟩
/-- joined lists -/
def joinN (S : List Nat) : List (List Nat) → List Nat
  | [] => []
  | [p] => p
  | p :: q :: r => p ++ (S ++ joinN S (q :: r))
theorem joinN_nil : ∀ ls : List (List Nat), joinN [] ls = ls.flatten
  | [] => rfl
  | [p] => by simp [joinN]
  | p :: q :: r => by
    show p ++ ([] ++ joinN [] (q :: r)) = (p :: q :: r).flatten
    rw [joinN_nil (q :: r)]
    simp
theorem str_join (a : List Nat) : ∀ ls : List (List Nat), Str.join ⟨a.toArray⟩ (ls.map fun l => (⟨l.toArray⟩ : Str)) = ⟨(joinN a ls).toArray⟩
  | [] => rfl
  | [p] => rfl
  | p :: q :: r => by
    show (⟨p.toArray⟩ : Str) ++ ⟨a.toArray⟩ ++ Str.join ⟨a.toArray⟩ ((q :: r).map fun l => (⟨l.toArray⟩ : Str)) = _
    rw [str_join a (q :: r), str_add, str_add]
    show _ = (⟨(p ++ (a ++ joinN a (q :: r))).toArray⟩ : Str)
    rw [List.append_assoc]
/-- sep.join(list or tuple of texts) -/
def joinD (x : D) (ds : List D) (S : Sto) (Q : DK) : Prop := ∃ (a : List Nat) (d : D) (ls : List (List Nat)), x = dS a ∧ ds = [d] ∧ itemsOf S d = some (ls.map dS) ∧ (ls.map List.length).sum + ls.length * a.length ≤ 16777216 ∧ Q (dS (joinN a ls)) S
theorem mt_joinD : DMt X "str.join" joinD := MtR.imp mt_join fun x xs H Q ⟨S, F, dx, ds, QD, ok, rx, rv, ⟨a, d, ls, e1, e2, e3, hl, q⟩, n⟩ => by
  subst e1; subst e2
  obtain ⟨v, rfl, r⟩ := rv.one_inv
  obtain ⟨p, vs, rfl, hs, r1⟩ := items_rep ok r e3
  rw [reps_strs r1] at hs
  refine ⟨⟨a.toArray⟩, p, _, rx, rfl, hs.elim .inr fun z => .inl (SqL.of z), ?_, ?_⟩
  · rw [List.map_map, List.length_map, str_len]
    refine Nat.le_trans (Nat.le_of_eq ?_) hl
    congr 2 <;> exact List.map_congr_left fun l _ => str_len l
  · rw [show Txt.join _ _ = Str.join _ _ from TL.join_eq _ _, str_join]
    exact n.sv ok q
end
section
variable {X : Cx} {W : WX} {e a b c o i : Expr} {es : List Expr} {ta tb tc te to ti : DTE} {t : DTA} {pos : Pos}
variable {K : PySem.W.Frag} {S S' : Sto} {F F' : Addr → Prop} {H H' : Hp}
/-! ### methods of built-in types -/
theorem tyV_of {d : D} {v : V} {n : String} (ok : Ok K S F H) (r : RepV K S F H d v) (e : tyOf S d = some n) (hn : n = "str" ∨ n = "list" ∨ n = "dict") : tyV K n v H := by
  cases d with
  | v x =>
    have rv : v = x := r
    subst rv
    cases v with
    | non => cases e; rcases hn with h | h | h <;> exact absurd h (by decide)
    | bl b => cases e; rcases hn with h | h | h <;> exact absurd h (by decide)
    | int i => cases e; rcases hn with h | h | h <;> exact absurd h (by decide)
    | str z => cases e; exact rfl
    | ref a =>
      simp only [tyOf] at e
      cases q : S a with
      | none => rw [q] at e; cases e
      | some d0 =>
        rw [q] at e
        obtain ⟨f, o, ho, ro⟩ := ok.rep a _ q
        cases d0 <;> first | (cases e; done) | skip
        · cases e
          cases o <;> first | exact ro.elim | skip
          exact .inl ⟨rfl, _, SqL.of ho⟩
        · cases e
          cases o <;> first | exact ro.elim | skip
          exact .inr (.inr (.inl ⟨rfl, .inl ⟨_, ho⟩⟩))
    | byt _ => cases e
    | flt _ => cases e
    | ty _ => cases e
  | tup l => cases e; rcases hn with h | h | h <;> exact absurd h (by decide)
  | lst l =>
    cases e
    obtain ⟨a, vs, rfl, s, _⟩ := r
    exact .inl ⟨rfl, _, SqL.of s⟩
  | dic _ _ => cases e
  | dct _ _ => cases e
  | ins _ _ _ => cases e
  | scr _ => cases e
def dBM (T : String) (r : D → List D → Sto → DK → Prop) (o : DTE) (a : DTA) : DTE := fun ρ S Q E => o ρ S (fun x S1 => tyOf S1 x = some T ∧ a ρ S1 (fun xs S2 => r x xs S2 Q) E) E
def dBM0 (T : String) (r : D → List D → Sto → DK → Prop) (o : DTE) : DTE := fun ρ S Q E => o ρ S (fun x S1 => tyOf S1 x = some T ∧ r x [] S1 Q) E
theorem de_bm {T : String} {name : Str} {id : String} {r : D → List D → Sto → DK → Prop} {apos cpos : Pos} (hT : T = "str" ∨ T = "list" ∨ T = "dict") (pa : PlainAttrs T) (slot : Slot T name id) (hty : typeOf (.builtin id) = pure (.type "method_descriptor")) (hm : DMt X id r) (ho : DE X W o to) (ha : DA X W (e :: es) t)
    (hbase : attributeBase o name X.env (eval o X.env) = eval o X.env := by rfl)
    (hfew : ((backTo cpos (starEach (e :: es) X.env)).all (fun x => !x.1) && (backToKw cpos (keywordEach [] X.env)).all (fun x => x.1.isSome)
      && decide ((e :: es).length + ([] : List Keyword).length + (if ([] : List Keyword).isEmpty then 0 else 1) < 30)) = true := by rfl)
    (hline : (apos.endLine == cpos.line) = true := by rfl) (hs : starEach (e :: es) X.env = (false, eval e X.env) :: starEach es X.env := by rfl) (hpl : (backTo cpos (starEach es X.env)).any (·.1) = false := by rfl) :
    DE X W (.Call (.Attribute o name apos) (e :: es) [] cpos) (dBM T r to t) :=
  PE.imp (pe_bm pa slot hty hm ho ha hbase hfew hline hs hpl) fun σ H Q ⟨ρ, S, F, QD, ED, ok, re, q, n, x⟩ => ⟨ρ, S, F, _, ED, ok, re, q, fun d S1 v H1 st1 ok1 rv1 ⟨ht, q1⟩ =>
    ⟨tyV_of ok1 rv1 ht hT, ρ, S1, F, _, ED, ok1, re.step st1, q1, fun ds S2 vs H2 st2 ok2 rv2 q2 => ⟨S2, F, d, ds, QD, ok2, rv1.step st2, rv2, q2, n.step (st1.trans st2)⟩, x.step st1⟩, x⟩
theorem de_bm0 {T : String} {name : Str} {id : String} {r : D → List D → Sto → DK → Prop} {apos cpos : Pos} (hT : T = "str" ∨ T = "list" ∨ T = "dict") (pa : PlainAttrs T) (slot : Slot T name id) (hty : typeOf (.builtin id) = pure (.type "method_descriptor")) (hm : DMt X id r) (ho : DE X W o to)
    (hbase : attributeBase o name X.env (eval o X.env) = eval o X.env := by rfl) (hline : (apos.endLine == cpos.line) = true := by rfl) : DE X W (.Call (.Attribute o name apos) [] [] cpos) (dBM0 T r to) :=
  PE.imp (pe_bm0 pa slot hty hm ho hbase hline) fun σ H Q ⟨ρ, S, F, QD, ED, ok, re, q, n, x⟩ => ⟨ρ, S, F, _, ED, ok, re, q, fun d S1 v H1 st1 ok1 rv1 ⟨ht, q1⟩ =>
    ⟨tyV_of ok1 rv1 ht hT, S1, F, d, [], QD, ok1, rv1, rfl, q1, n.step st1⟩, x⟩
theorem lst_at {a : Addr} {l : List D} (ok : Ok K S F H) (h : S a = some (.lst l)) : ∃ vs, H a = some (.lst vs) ∧ RepVs K S F H l vs := by
  obtain ⟨f, o, ho, r⟩ := ok.rep a _ h
  cases o <;> first | exact r.elim | skip
  exact ⟨_, ho, r⟩
def appD (x : D) (ds : List D) (S : Sto) (Q : DK) : Prop := ∃ (a : Addr) (l : List D) (y : D), x = dR a ∧ ds = [y] ∧ S a = some (.lst l) ∧ l.length < sizeLine ∧ Q dN (sup S a (.lst (l ++ [y])))
theorem mt_appD : DMt X "list.append" appD := MtR.imp mt_append fun x xs H Q ⟨S, F, dx, ds, QD, ok, rx, rv, ⟨a, l, y, e1, e2, h, hl, q⟩, n⟩ => by
  subst e1; subst e2
  obtain ⟨v, rfl, r⟩ := rv.one_inv
  obtain ⟨vs, ha, r1⟩ := lst_at ok h
  exact ⟨a, vs, v, rx, rfl, ha, by rw [r1.length]; exact hl, n.turn ok h (o := .lst (vs ++ [v])) (d := .lst (l ++ [y])) (r := dN) (r1.append (.one r)) rfl q⟩
def popD (x : D) (ds : List D) (S : Sto) (Q : DK) : Prop := ∃ (a : Addr) (l : List D) (y : D), x = dR a ∧ ds = [] ∧ S a = some (.lst l) ∧ l[l.length - 1]? = some y ∧ Q y (sup S a (.lst l.dropLast))
theorem RepVs.dropLast {l : List D} {vs : List V} (r : RepVs K S F H l vs) : RepVs K S F H l.dropLast vs.dropLast := by
  rw [List.dropLast_eq_take, List.dropLast_eq_take, r.length]
  exact r.take _
theorem mt_popD : DMt X "list.pop" popD := MtR.imp mt_pop fun x xs H Q ⟨S, F, dx, ds, QD, ok, rx, rv, ⟨a, l, y, e1, e2, h, hl, q⟩, n⟩ => by
  subst e1; subst e2
  rw [show xs = [] from rv]
  obtain ⟨vs, ha, r1⟩ := lst_at ok h
  obtain ⟨v, h1, h2⟩ := r1.get hl
  exact ⟨a, vs, v, rx, rfl, ha, by rw [r1.length]; exact h1, n.turn ok h (o := .lst vs.dropLast) (d := .lst l.dropLast) (r := y) r1.dropLast h2 q⟩
def popAtD (x : D) (ds : List D) (S : Sto) (Q : DK) : Prop := ∃ (a : Addr) (l : List D) (i : Int) (y : D), x = dR a ∧ ds = [dI i] ∧ S a = some (.lst l) ∧ (0 ≤ i ∧ i < 2 ^ 63) ∧ l[i.toNat]? = some y ∧ Q y (sup S a (.lst (l.eraseIdx i.toNat)))
theorem mt_popAtD : DMt X "list.pop" popAtD := MtR.imp mt_popAt fun x xs H Q ⟨S, F, dx, ds, QD, ok, rx, rv, ⟨a, l, i, y, e1, e2, h, ⟨h0, h1⟩, hl, q⟩, n⟩ => by
  subst e1; subst e2
  obtain ⟨vs, ha, r1⟩ := lst_at ok h
  obtain ⟨v, g1, g2⟩ := r1.get hl
  have hlt : i.toNat < vs.length := (List.getElem?_eq_some_iff.mp g1).1
  refine ⟨a, vs, i, i.toNat, v, rx, rv.ints1, ha, by omega, h1, ?_, g1, n.turn ok h (o := .lst (vs.eraseIdx i.toNat)) (d := .lst (l.eraseIdx i.toNat)) (r := y) (r1.eraseIdx _) g2 q⟩
  have e : ixN vs.length i = some i.toNat := by
    unfold ixN
    rw [if_pos h0, if_pos (by omega)]
  exact (ixN_seq e).1
/-! ### x[i] = v -/
def setLD (x y d : D) (S : Sto) (Q : Sto → Prop) : Prop := ∃ (a : Addr) (l : List D) (k : Int) (j : Nat), x = dR a ∧ y = dI k ∧ S a = some (.lst l) ∧ ixN l.length k = some j ∧ Q (sup S a (.lst (l.set j d)))
theorem dg_sub (ho : DE X W o to) (hi : DE X W i ti) (ha : ∀ v, assign (.Subscript o i pos) X.env v = (do
      let ov ← holding [v] (eval o X.env)
      let iv ← holding [v, ov] (eval i X.env)
      standAt pos
      holding [v, ov, iv] (setItem ov iv v)
      release [v, ov, iv] []) := by intro _; rfl) : DG X [] (.Subscript o i pos) (gSub to ti setLD) :=
  PG.imp (pg_sub ho hi set_list ha) fun v σ H Q ⟨d, ρ, S, F, QD, ok, re, rv, q, n⟩ => ⟨ρ, S, F, _, NX, ok, re, q, fun dx S1 x H1 st1 ok1 rx q1 => ⟨ρ, S1, F, _, NX, ok1, re.step st1, q1, fun dy S2 y H2 st2 ok2 ry ⟨a, l, k, j, e1, e2, hs, hj, q2⟩ => by
    subst e1; subst e2
    obtain ⟨vs, ha, r1⟩ := lst_at ok2 hs
    have rv2 := (rv.step st1).step st2
    obtain ⟨st3, ok3⟩ := ok2.turn (o := .lst (vs.set j v)) (d := .lst (l.set j d)) hs (r1.set j rv2)
    have st := (st1.trans st2).trans st3
    refine ⟨a, vs, k, j, rx.step st2, ry, ha, by rw [r1.length]; exact hj, n ρ _ σ _ st ok3 (re.step st) .refl q2⟩, xc0⟩, xc0⟩
/-! ### in -/
/-- one sign in a text -/
def rInS : RD2 := fun x y S Q => ∃ (c : Nat) (z : List Nat), x = dS [c] ∧ y = dS z ∧ Q (dB (decide (c ∈ z))) S
theorem op_inSD : DOp X (compareOp .In) rInS := OpR.imp op_in_sign fun x y H Q ⟨S, F, dx, dy, QD, ok, rx, ry, ⟨c, z, e1, e2, q⟩, n⟩ => by
  subst e1; subst e2
  exact ⟨c, ⟨z.toArray⟩, rx, ry, n.sv ok q⟩
/-! ### a text so often -/
theorem op_repStr : OpR X (binaryOp .Mult) (fun x y H Q => ∃ (z : List Nat) (k : Int), x = .str ⟨z.toArray⟩ ∧ y = .int k ∧ 0 ≤ k ∧ k ≤ 16777216 ∧ z.length * k.toNat ≤ sizeLine ∧ z.length ≤ 16777216 ∧ Q (.str ⟨(List.replicate k.toNat z).flatten.toArray⟩) H) := by
  intro pins s σ H x y v u Q I rx ry ⟨z, k, e1, e2, h0, h1, hl, hz, q⟩
  subst e1; subst e2
  obtain ⟨t, rfl⟩ := rx
  obtain ⟨t', rfl⟩ := ry
  have hlen : (⟨z.toArray⟩ : Str).length = z.length := str_len z
  have fl : ∀ (m : Nat) (acc : Array Nat), List.foldl (· ++ ·) acc (List.replicate m z.toArray) = acc ++ (List.replicate m z).flatten.toArray := by
    intro m
    induction m with
    | zero => intro acc; simp
    | succ m ih =>
      intro acc
      rw [List.replicate_succ, List.foldl_cons, ih, List.replicate_succ, List.flatten_cons]
      simp [Array.append_assoc]
  refine PySem.P.mul_str ?_ ?_ ?_ ?_
  · rw [decide_eq_false (by omega), decide_eq_false (by omega)]; rfl
  · intro h1' _
    rw [hlen]
    have hk : 1 ≤ k := by omega
    have : (2 ^ 63 - 1) / k ≥ (2 ^ 63 - 1) / 16777216 := by
      apply Int.le_ediv_of_mul_le (by omega)
      calc (2 ^ 63 - 1) / 16777216 * k ≤ (2 ^ 63 - 1) / 16777216 * 16777216 := Int.mul_le_mul_of_nonneg_left (by omega) (by decide)
        _ ≤ 2 ^ 63 - 1 := by decide
    have h9 : ((2 : Int) ^ 63 - 1) / 16777216 = 549755813887 := by decide
    rw [h9] at this
    omega
  · intro _ _
    rw [hlen]
    unfold Builtin.Str.tooLong
    exact decide_eq_false (by omega)
  · split
    · rename_i hk
      have hk' : k.toNat = 0 := by omega
      refine ⟨by decide, ⟨.str ⟨(List.replicate k.toNat z).flatten.toArray⟩, H, I.tok _, ?_, q⟩⟩
      rw [hk']
      exact ⟨_, rfl⟩
    · split
      · rename_i hk hc
        refine ⟨.str ⟨(List.replicate k.toNat z).flatten.toArray⟩, H, I, ?_, q⟩
        have hz' : (List.replicate k.toNat z).flatten = z := by
          rcases Bool.or_eq_true_iff.mp hc with h | h
          · have : k = 1 := by simpa using h
            rw [this]; simp
          · rw [hlen] at h
            have : z = [] := List.length_eq_zero_iff.mp (by simpa using h)
            rw [this]
            simp
        rw [hz']
        exact ⟨_, rfl⟩
      · refine ⟨?_, ⟨.str ⟨(List.replicate k.toNat z).flatten.toArray⟩, H, I.tok _, ?_, q⟩⟩
        · show Str.length _ ≤ _
          unfold Str.length
          rw [fl]
          simpa [Nat.mul_comm] using hl
        · refine ⟨s.toks, ?_⟩
          rw [fl]
          simp
/-- * : ints (wide, or one of them small), a list, a tuple, a text so often -/
def rMulA : RD2 := fun x y S Q => match x, y with
  | .v (.str z), .v (.int k) => (0 ≤ k ∧ k ≤ 16777216 ∧ (sl z).length * k.toNat ≤ sizeLine ∧ (sl z).length ≤ 16777216) ∧ Q (dS (List.replicate k.toNat (sl z)).flatten) S
  | x, y => rMul x y S Q
theorem op_mulA : DOp X (binaryOp .Mult) rMulA := by
  refine OpR.imp (op_repStr.or op_mulD) fun x y H Q ⟨S, F, dx, dy, QD, ok, rx, ry, q, n⟩ => ?_
  unfold rMulA at q
  split at q
  · rename_i z k
    obtain ⟨⟨h1, h2, h3, h4⟩, q⟩ := q
    exact .inl ⟨sl z, k, rx, ry, h1, h2, h3, h4, n.sv ok q⟩
  · exact .inr ⟨S, F, dx, dy, QD, ok, rx, ry, q, n⟩
/-! ### what never is -/
def dNever : DTS := fun _ _ _ => False
theorem ds_never {st : Stmt} : DS X W st dNever := PS.imp ps_never fun D σ H ⟨ρ, S, F, DD, ok, re, q, n⟩ => q.elim
/-! ### x op y op z -/
theorem tChain_lift {r r' : RD2} {σ : L2.St} {H : Hp} {Q : VK} (h : liftE X.K X.mg W (dChain r r' ta tb tc) σ H Q) : tChain (liftR X.K r) (liftR X.K r') (liftE X.K X.mg W ta) (liftE X.K X.mg W tb) (liftE X.K X.mg W tc) σ H Q := by
  obtain ⟨ρ, S, F, QD, ED, ok, re, q, n, x⟩ := h
  refine ⟨ρ, S, F, _, ED, ok, re, q, fun dx S1 v1 H1 st1 ok1 rv1 q1 => ⟨ρ, S1, F, _, ED, ok1, re.step st1, q1, fun dy S2 v2 H2 st2 ok2 rv2 q2 => ⟨S2, F, dx, dy, _, ok2, rv1.step st2, rv2, q2, fun dz S3 v3 H3 st3 ok3 rv3 ⟨k, e, q3⟩ => ?_⟩, x.step st1⟩, x⟩
  subst e
  refine ⟨k, rv3, ?_⟩
  have st := (st1.trans st2).trans st3
  cases k with
  | true => exact ⟨ρ, S3, F, _, ED, ok3, re.step st, q3, fun dw S4 v4 H4 st4 ok4 rv4 q4 => ⟨S4, F, dy, dw, _, ok4, (rv2.step st3).step st4, rv4, q4, n.step (st.trans st4)⟩, x.step st⟩
  | false => exact n (dB false) S3 _ H3 st ok3 rfl q3
theorem de_chain {op op' : CmpOp} {r r' : RD2} (ho : DOp X (compareOp op) r) (ho' : DOp X (compareOp op') r') (ha : DE X W a ta) (hb : DE X W b tb) (hc : DE X W c tc)
    (hm : lastMarks [op, op'] [b, c] = false := by with_unfolding_all rfl) : DE X W (.Compare a [op, op'] [b, c] pos) (dChain r r' ta tb tc) := PE.imp (pe_chain ho ho' ha hb hc hm) fun _ _ _ => tChain_lift
theorem dt_chain {op op' : CmpOp} {r r' : RD2} (ho : DOp X (compareOp op) r) (ho' : DOp X (compareOp op') r') (ha : DE X W a ta) (hb : DE X W b tb) (hc : DE X W c tc)
    (hm : lastMarks [op, op'] [b, c] = false := by with_unfolding_all rfl) : DT X W (.Compare a [op, op'] [b, c] pos) (dTst (dChain r r' ta tb tc)) :=
  PT.imp (pt_chain ho ho' ha hb hc hm) fun σ H Q ⟨ρ, S, F, QD, ED, ok, re, q, n, x⟩ => tChain_lift ⟨ρ, S, F, _, ED, ok, re, q, fun d S1 v H1 st ok1 rv ⟨b, e, q⟩ => by
    subst e
    exact ⟨b, rv, n b S1 H1 st ok1 q⟩, x⟩
/-! ### module's names -/
theorem de_glob {x : Str} {v : V} {u : Value} (hg : Gl X x) (hm : X.mg x = some u) (r : RelV v u) (hd : (x == ("__debug__" : Str)) = false := by decide) : DE X W (.Name x pos) (dC (.v v)) := de_v (pe_glob hg hm r hd)
theorem de_ty {x : Str} {n : String} (hg : Gl X x) (hm : X.mg x = none) (hv : bootBuiltins x = some (.type n)) (hn : x ≠ "__name__" := by decide) (hd : (x == ("__debug__" : Str)) = false := by decide) : DE X W (.Name x pos) (dC (.v (.ty n))) := de_v (pe_bltn hg hm hv rfl hn hd)
end
section
variable {prog : Program} {w : World} {A : Around} {E : Value → Shared → Prop} {s : Shared}
theorem sliceApplied_rev {sl : Addr} {vl vu vs : Value} {n : Nat} {Q : Int × Int × Nat → Shared → Prop} (hs : s.heap.IsSliceOf sl vl vu vs) (pl : IsPart vl none) (pu : IsPart vu none) (ps : IsPart vs (some (-1)))
    (h : Q ((n : Int) - 1, -1, n) s) : wpAny (model prog w) A (Builtin.Slice.sliceApplied (.ref sl) (pure (n : Int))) Q E s := by
  obtain ⟨os, hos, hcs, hds⟩ := id hs
  unfold Builtin.Slice.sliceApplied Builtin.Slice.sliceFields
  refine wpAny_bind (wpAny_bind (wpAny_field hos hds (x := vl) rfl (wpAny_bind (wpAny_field hos hds (x := vu) rfl (wpAny_bind (wpAny_field hos hds (x := vs) rfl (wpAny_pure ?_)))))))
  refine wpAny_bind (HT.slicePart_ ps ?_)
  show wpAny _ _ (if ((-1 : Int) == 0) = true then _ else _) _ _ s
  rw [if_neg (by decide)]
  refine wpAny_bind (HT.slicePart_ pl (wpAny_bind (HT.slicePart_ pu (wpAny_bind (wpAny_pure ?_)))))
  show wpAny _ _ (match Builtin.Slice.sliceAdjust none none (-1) (n : Int) with | (lo, hi) => pure (lo, (-1 : Int), Builtin.Slice.slicePlaces lo hi (-1))) _ _ s
  have e1 : Builtin.Slice.sliceAdjust none none (-1) (n : Int) = ((n : Int) - 1, -1) := rfl
  rw [e1]
  show wpAny _ _ (pure ((n : Int) - 1, (-1 : Int), Builtin.Slice.slicePlaces ((n : Int) - 1) (-1) (-1))) _ _ s
  have e2 : Builtin.Slice.slicePlaces ((n : Int) - 1) (-1) (-1) = n := by
    unfold Builtin.Slice.slicePlaces
    rw [if_neg (by decide)]
    show (if (n : Int) - 1 > -1 then ((n : Int) - 1 - -1 - 1) / (- -1) + 1 else 0).toNat = n
    rw [show (- -1 : Int) = 1 from rfl, Int.ediv_one]
    split <;> omega
  rw [e2]
  exact wpAny_pure h
theorem pick_rev (xs : Array Value) : ((List.range xs.size).filterMap fun (m : Nat) => xs[((xs.size : Int) - 1 + (m : Int) * -1).toNat]?).toArray = xs.toList.reverse.toArray := by
  congr 1
  apply List.ext_getElem?
  intro i
  have e : ∀ m, m < xs.size → xs[((xs.size : Int) - 1 + (m : Int) * -1).toNat]? = xs.toList.reverse[m]? := fun m hm => by
    have : ((xs.size : Int) - 1 + (m : Int) * -1).toNat = xs.size - 1 - m := by omega
    rw [this, List.getElem?_reverse (by simpa using hm)]
    simp
  have f : ∀ (l : List Nat), (∀ m ∈ l, m < xs.size) → l.filterMap (fun (m : Nat) => xs[((xs.size : Int) - 1 + (m : Int) * -1).toNat]?) = l.filterMap (fun m => xs.toList.reverse[m]?) := fun l hl => by
    induction l with
    | nil => rfl
    | cons m l ih => rw [List.filterMap_cons, List.filterMap_cons, e m (hl m (by simp)), ih fun k hk => hl k (by simp [hk])]
  rw [f _ fun m hm => List.mem_range.mp hm]
  congr 1
  have g : ∀ (l : List Value), (List.range l.length).filterMap (fun m => l[m]?) = l := fun l => by
    induction l with
    | nil => rfl
    | cons x l ih =>
      rw [List.length_cons, List.range_succ_eq_map, List.filterMap_cons]
      show x :: _ = _
      rw [List.filterMap_map]
      congr 1
  have := g xs.toList.reverse
  rwa [List.length_reverse, Array.length_toList] at this
theorem getItem_tuple_rev {t sl : Addr} {items : Array Value} {vl vu vs : Value} {Q : Value → Shared → Prop} (ht : IsTup s.heap t items) (hs : s.heap.IsSliceOf sl vl vu vs) (pl : IsPart vl none) (pu : IsPart vu none) (ps : IsPart vs (some (-1)))
    (h : Q (.ref s.heap.objs.size) { s with heap := s.heap.push { cls := .type "tuple", data := .seq items.toList.reverse.toArray } })
    (hsz : items.size ≤ sizeLine) : wpAny (model prog w) A (getItem (.ref t) (.ref sl)) Q E s := by
  have htake : sizeOk (.seq items.toList.reverse.toArray) := by
    show items.toList.reverse.toArray.size ≤ sizeLine
    simpa using hsz
  obtain ⟨os, hos, hcs, hds⟩ := id hs
  have hTs : s.TypeIs (.ref sl) "slice" := ⟨os, hos, hcs⟩
  unfold getItem
  try with_reducible refine wpAny_holding ?_
  first | refine wpAny_bind (wpAny_pure ?_) | skip
  refine wpAny_bind (wpAny_sequenceKey ht.typeIs (by decide) ?_)
  refine wpAny_bind (wpAny_callSpecial?_slot (name := Str.ofString "__getitem__") ht.typeIs PyProof.Rows.slot_tuple_getitem
    (wpAny_call_entry PyProof.Rows.slot_tuple_getitem ht.typeIs entry_tuple_getitem ?_ (args_tuple_getitem _ _)))
  show wpAny _ _ (Builtin.Tuple.tupleItemsOf (.ref t) >>= _) _ _ s
  refine wpAny_bind (tupleItemsOf_ ht ?_)
  refine wpAny_bind (wpAny_typeOf hTs ?_)
  rw [if_pos (by decide)]
  refine wpAny_bind (sliceApplied_rev hs pl pu ps ?_)
  have hno : ¬ (((items.size : Int) - 1 == 0 && (-1 : Int) == 1 && items.size == items.size) = true) := by
    intro q
    rw [Bool.and_eq_true, Bool.and_eq_true] at q
    exact absurd q.1.2 (by decide)
  show wpAny _ _ (if ((items.size : Int) - 1 == 0 && (-1 : Int) == 1 && items.size == items.size) = true then _ else _) _ _ s
  rw [if_neg hno, pick_rev]
  first
    | exact wpAny_bind (m := Builtin.Tuple.tupleExact _) (wpAny_newObj_type (wpAny_pure ⟨_, rfl, wpAny_pure h⟩) htake)
    | exact wpAny_bind (m := Builtin.Tuple.tupleExact _) (wpAny_newObj_type (wpAny_bind (wpAny_pure (wpAny_pure ⟨_, rfl, wpAny_pure h⟩))) htake)
    | exact wpAny_bind (wpAny_bind (m := Builtin.Tuple.tupleExact _) (wpAny_newObj_type (wpAny_pure (wpAny_pure ⟨_, rfl, wpAny_pure h⟩)) htake))
    | exact wpAny_bind (wpAny_bind (m := Builtin.Tuple.tupleExact _) (wpAny_newObj_type (wpAny_pure ⟨_, rfl, wpAny_pure h⟩) htake))
end
section
variable {X : Cx} {W : WX} {e a b c o i : Expr} {es : List Expr} {ta tb tc te to ti : DTE} {t : DTA} {pos : Pos}
variable {K : PySem.W.Frag} {S S' : Sto} {F F' : Addr → Prop} {H H' : Hp}
def tRevT (K : PySem.W.Frag) (te : TE) : TE := fun σ H Q => te σ H fun x H1 => (∃ a xs, x = .ref a ∧ SqL K H1 a xs ∧ ∀ p, H1 p = none → Q (.ref p) (upd H1 p (.lst xs.reverse))) ∨ (∃ a xs, x = .ref a ∧ SqT K H1 a xs ∧ ∀ p, H1 p = none → Q (.ref p) (upd H1 p (.tup xs.reverse)))
theorem pe_revT {e : Expr} {te : TE} {k : Nat} {p1 p2 p3 pos : Pos} (he : PE X e te) : PE X (.Subscript e (.Slice none none (some (.UnaryOp .USub (.Constant (.int 1) k p1) p2)) p3) pos) (tRevT X.K te) := by
  refine ⟨fun pins s σ H Q I h => ?_⟩
  refine Subscript_ (thn (he.run pins s σ H _ I h) fun v s1 ⟨x, H1, I1, r1, q1⟩ => ?_)
  obtain ⟨a, ex⟩ : ∃ a, x = .ref a := by
    rcases q1 with ⟨a, _, h, _⟩ | ⟨a, _, h, _⟩ <;> exact ⟨a, h⟩
  subst ex
  cases r1
  have hst : PO X (some (.UnaryOp .USub (.Constant (.int 1) k p1) p2)) (tPart (tUn (rU fun i => .int (-i)) (tC (.int 1)))) := po_some (pe_un un_neg pe_int)
  refine wpAny_Slice (thn (po_none.run pins s1 σ H1 (fun o H2 => o = none ∧ H2 = H1) I1 ⟨rfl, rfl⟩) fun vl s2 ⟨l, H2, I2, pl, el, e2⟩ => ?_)
  subst el e2
  refine thn (po_none.run pins s2 σ H2 (fun o H3 => o = none ∧ H3 = H2) I2 ⟨rfl, rfl⟩) fun vu s3 ⟨u, H3, I3, pu, eu, e3⟩ => ?_
  subst eu e3
  refine thn (hst.run pins s3 σ H3 (fun o H4 => o = some (-1) ∧ H4 = H3) I3 ⟨1, rfl, -1, rfl, rfl, rfl⟩) fun vs s4 ⟨o, H4, I4, ps, eo, e4⟩ => ?_
  subst eo e4
  have I5 : Inv X pins σ H4 { s4 with heap := s4.heap.push { cls := .type "slice", data := .fields #[vl, vu, vs] } } := I4.kept (t' := s4.toks) fun b ob q => Heap.get?_push_of_some _ q
  show wpAny (model X.prog X.w) X.A (subscriptTail e (.Slice none none (some (.UnaryOp .USub (.Constant (.int 1) k p1) p2)) p3) (.ref a) (.ref s4.heap.objs.size)) (EP X pins σ Q) X.xe { s4 with heap := s4.heap.push { cls := .type "slice", data := .fields #[vl, vu, vs] } }
  rcases q1 with ⟨a', xs, ex, hx, q⟩ | ⟨a', xs, ex, hx, q⟩
  · cases ex
    obtain ⟨its, r, ht, hz⟩ := I5.list hx
    have hlen := r.length
    refine tail_any (ops := [.ref a, .ref s4.heap.objs.size]) ht.isList.typeIs (PySem.slot_list_getitem.lookup) ?_ (by with_unfolding_all rfl)
    refine wpAny_getItem_list_slice ht.isList (Heap.IsSliceOf.new _ vl vu vs) pl pu ps (by decide) ?_ (by rw [List.size_toArray]; omega)
    rw [PySem.W.krv_pick]
    refine ⟨.ref _, _, I5.laid (t' := s4.toks) (o := .lst xs.reverse) (fun b ob q => Heap.get?_push_of_some _ q) (Nat.le_refl _) ?_, rfl, q _ (I5.hok.fresh (Nat.le_refl _))⟩
    exact ⟨by rw [List.length_reverse]; exact hz, _, 0, r.reverse, Heap.get?_push_size _ rfl⟩
  · cases ex
    obtain ⟨its, r, ht, hz⟩ := I5.tuple hx
    have hlen := r.length
    refine tail_any (ops := [.ref a, .ref s4.heap.objs.size]) ht.typeIs (PyProof.Rows.slot_tuple_getitem.lookup) ?_ (by with_unfolding_all rfl)
    refine getItem_tuple_rev ht (Heap.IsSliceOf.new _ vl vu vs) pl pu ps ?_ (by rw [List.size_toArray]; omega)
    refine ⟨.ref _, _, I5.laid (t' := s4.toks) (o := .tup xs.reverse) (fun b ob q => Heap.get?_push_of_some _ q) (Nat.le_refl _) ?_, rfl, q _ (I5.hok.fresh (Nat.le_refl _))⟩
    exact ⟨by rw [List.length_reverse]; exact hz, its.reverse, r.reverse, ⟨_, Heap.get?_push_size _ rfl, rfl, _, rfl⟩⟩
/-- x[::-1] of a tuple, a list -/
def dRev (te : DTE) : DTE := fun ρ S Q E => te ρ S (fun d S1 => (∃ l, d = .tup l ∧ Q (.tup l.reverse) S1) ∨ ∃ l, lsOf S1 d = some l ∧ Q (.lst l.reverse) S1) E
theorem de_rev {k : Nat} {p1 p2 p3 : Pos} (he : DE X W e te) : DE X W (.Subscript e (.Slice none none (some (.UnaryOp .USub (.Constant (.int 1) k p1) p2)) p3) pos) (dRev te) :=
  PE.imp (pe_revT he) fun σ H Q ⟨ρ, S, F, QD, ED, ok, re, q, n, x⟩ => ⟨ρ, S, F, _, ED, ok, re, q, fun d S1 v H1 st ok1 rv q1 => by
    have n1 := n.step st
    rcases q1 with ⟨l, rfl, q1⟩ | ⟨l, e, q1⟩
    · obtain ⟨a, vs, rfl, hs, r⟩ := rv.sqt
      exact .inr ⟨a, vs, rfl, hs, n1.tup ok1 r.reverse q1⟩
    · obtain ⟨a, vs, rfl, hs, r⟩ := ls_rep ok1 rv e
      exact .inl ⟨a, vs, rfl, SqL.of hs, n1.lst ok1 r.reverse q1⟩, x⟩
/-! tuple(range(..)), list(range(..)) -/
abbrev rNeg : D → Sto → DK → Prop := fun x S Q => ∃ i, x = dI i ∧ Q (dI (-i)) S
theorem rg_rep (a b : Int) : RepVs K S F H (rangeD a 1 (b - a).toNat) (rgV a b) := by
  unfold rangeD rgV
  generalize List.range (b - a).toNat = l
  induction l with
  | nil => exact rfl
  | cons i l ih =>
    refine ⟨_, _, rfl, ?_, ih⟩
    show V.int _ = V.int _
    rw [Int.mul_one]
def dRg1 (k : List D → D) (te : DTE) : DTE := fun ρ S Q E => te ρ S (fun d S1 => ∃ n : Int, d = dI n ∧ RgOk 0 n ∧ Q (k (rangeD 0 1 n.toNat)) S1) E
def dRg2 (k : List D → D) (ta tb : DTE) : DTE := fun ρ S Q E => ta ρ S (fun d S1 => tb ρ S1 (fun d' S2 => ∃ m n : Int, d = dI m ∧ d' = dI n ∧ RgOk m n ∧ Q (k (rangeD m 1 (n - m).toNat)) S2) E) E
variable {p : Pos}
theorem de_tupRg1 {q pos2 : Pos} (hc : X.calm = true) (hg : Gl X "tuple") (hm : X.mg "tuple" = none) (hg2 : Gl X "range") (hm2 : X.mg "range" = none) (ha : DE X W a ta) (na : starEach [a] X.env = (false, eval a X.env) :: starEach [] X.env := by rfl)
    (nb : starEach [.Call (.Name "range" q) [a] [] pos2] X.env = (false, eval (.Call (.Name "range" q) [a] [] pos2) X.env) :: starEach [] X.env := by rfl) :
    DE X W (.Call (.Name "tuple" p) [.Call (.Name "range" q) [a] [] pos2] [] pos) (dRg1 .tup ta) :=
  PE.imp (pe_tupRg hc hg hm (prg_1 hg2 hm2 ha na) nb) fun σ H Q ⟨ρ, S, F, QD, ED, ok, re, q, n, x⟩ => ⟨ρ, S, F, _, ED, ok, re, q, fun d S1 v H1 st ok1 rv ⟨m, e, h, q1⟩ => by
    subst e
    refine ⟨m, rv, h, (n.step st).tup ok1 (rg_rep 0 m) ?_⟩
    rw [Int.sub_zero]; exact q1, x⟩
theorem de_lstRg1 {q pos2 : Pos} (hc : X.calm = true) (hg : Gl X "list") (hm : X.mg "list" = none) (hg2 : Gl X "range") (hm2 : X.mg "range" = none) (ha : DE X W a ta) (na : starEach [a] X.env = (false, eval a X.env) :: starEach [] X.env := by rfl)
    (nb : starEach [.Call (.Name "range" q) [a] [] pos2] X.env = (false, eval (.Call (.Name "range" q) [a] [] pos2) X.env) :: starEach [] X.env := by rfl) :
    DE X W (.Call (.Name "list" p) [.Call (.Name "range" q) [a] [] pos2] [] pos) (dRg1 .lst ta) :=
  PE.imp (pe_listRg hc hg hm (prg_1 hg2 hm2 ha na) nb) fun σ H Q ⟨ρ, S, F, QD, ED, ok, re, q, n, x⟩ => ⟨ρ, S, F, _, ED, ok, re, q, fun d S1 v H1 st ok1 rv ⟨m, e, h, q1⟩ => by
    subst e
    refine ⟨m, rv, h, (n.step st).lst ok1 (rg_rep 0 m) ?_⟩
    rw [Int.sub_zero]; exact q1, x⟩
theorem de_lstRg2 {q pos2 : Pos} (hc : X.calm = true) (hg : Gl X "list") (hm : X.mg "list" = none) (hg2 : Gl X "range") (hm2 : X.mg "range" = none) (ha : DE X W a ta) (hb : DE X W b tb) (na : starEach [a, b] X.env = (false, eval a X.env) :: starEach [b] X.env := by rfl) (na2 : starEach [b] X.env = (false, eval b X.env) :: starEach [] X.env := by rfl) (hp : (backTo pos2 (starEach [b] X.env)).any (·.1) = false := by rfl)
    (nb : starEach [.Call (.Name "range" q) [a, b] [] pos2] X.env = (false, eval (.Call (.Name "range" q) [a, b] [] pos2) X.env) :: starEach [] X.env := by rfl) :
    DE X W (.Call (.Name "list" p) [.Call (.Name "range" q) [a, b] [] pos2] [] pos) (dRg2 .lst ta tb) :=
  PE.imp (pe_listRg hc hg hm (prg_2 hg2 hm2 ha hb na na2 hp) nb) fun σ H Q ⟨ρ, S, F, QD, ED, ok, re, q, n, x⟩ => ⟨ρ, S, F, _, ED, ok, re, q, fun d S1 v H1 st ok1 rv q1 => ⟨ρ, S1, F, _, ED, ok1, re.step st, q1, fun d' S2 v2 H2 st2 ok2 rv2 ⟨m, k, e, e2, h, q2⟩ => by
    subst e; subst e2
    exact ⟨m, k, rv.step st2, rv2, h, (n.step (st.trans st2)).lst ok2 (rg_rep m k) q2⟩, x.step st⟩, x⟩
end
section
variable {ρ : Env'} {S : Sto} {Q : DK} {E : XD} {D0 : DEnds} {a b c e te ta tb : DTE} {tA tB tc : DTT} {A : DTA} {t u : DTS} {i j : Nat}
theorem szL : 16777216 ≤ sizeLine := by decide
theorem i_seq (h : t { D0 with nx := u D0 } ρ S) : dSeq t u D0 ρ S := h
theorem i_next (h : D0.nx ρ S) : dNext D0 ρ S := h
theorem i_drop (h : te ρ S (fun _ S1 => D0.nx ρ S1) (fun c ds S' => D0.xc c ds ρ S')) : dDrop te D0 ρ S := h
theorem i_ret (h : te ρ S D0.rt (fun c ds S' => D0.xc c ds ρ S')) : dRet te D0 ρ S := h
theorem i_retN (h : D0.rt dN S) : dRetN D0 ρ S := h
theorem i_break (h : D0.bk ρ S) : dBreak D0 ρ S := h
theorem i_cont (h : D0.ct ρ S) : dCont D0 ρ S := h
theorem i_if (h : tA ρ S (fun b S1 => if b = true then t D0 ρ S1 else u D0 ρ S1) (fun c ds S' => D0.xc c ds ρ S')) : dIf tA t u D0 ρ S := h
theorem i_asg {g : DTG} (h : te ρ S (fun x S1 => g x ρ S1 D0.nx) (fun c ds S' => D0.xc c ds ρ S')) : dAsg te g D0 ρ S := h
theorem i_par {is : List Nat} (h : A ρ S (fun ds S1 => ds.length = is.length ∧ D0.nx (setAll ρ is ds) S1) (fun c ds S' => D0.xc c ds ρ S')) : dPar is A D0 ρ S := h
theorem i_par2 {x y : D} {k l : Nat} {P : Env' → Sto → Prop} (h : P ((ρ.set k (some x)).set l (some y)) S) : [x, y].length = [k, l].length ∧ P (setAll ρ [k, l] [x, y]) S := ⟨rfl, h⟩
theorem i_par3 {x y z : D} {k l m : Nat} {P : Env' → Sto → Prop} (h : P (((ρ.set k (some x)).set l (some y)).set m (some z)) S) : [x, y, z].length = [k, l, m].length ∧ P (setAll ρ [k, l, m] [x, y, z]) S := ⟨rfl, h⟩
theorem i_aug {r : RD2} {x : D} (hx : ρ[i]? = some (some x)) (h : te ρ S (fun y S1 => r x y S1 fun z S2 => D0.nx (ρ.set i (some z)) S2) (fun c ds S' => D0.xc c ds ρ S')) : dAug i te r D0 ρ S := ⟨x, hx, h⟩
theorem i_gN {d : D} {P : Env' → Sto → Prop} (h : P (ρ.set i (some d)) S) : gN i d ρ S P := h
theorem i_gs0 {P : Env' → Sto → Prop} (h : P ρ S) : gs0 [] ρ S P := ⟨rfl, h⟩
theorem i_gsC {g : DTG} {gs : DTGs} {d : D} {r : List D} {P : Env' → Sto → Prop} (h : g d ρ S (fun ρ1 S1 => gs r ρ1 S1 P)) : gsC g gs (d :: r) ρ S P := ⟨d, r, rfl, h⟩
theorem i_gT {gs : DTGs} {d : D} {l : List D} {n : Nat} {P : Env' → Sto → Prop} (e : itemsOf S d = some l) (hl : l.length = n) (h : gs l ρ S P) : gT n gs d ρ S P := ⟨l, e, hl, h⟩
theorem i_gTt {gs : DTGs} {l : List D} {n : Nat} {P : Env' → Sto → Prop} (hl : l.length = n) (h : gs l ρ S P) : gT n gs (.tup l) ρ S P := ⟨l, rfl, hl, h⟩
theorem i_gSub {o i : DTE} {r : D → D → D → Sto → (Sto → Prop) → Prop} {d : D} {P : Env' → Sto → Prop} (h : o ρ S (fun x S1 => i ρ S1 (fun y S2 => r x y d S2 fun S3 => P ρ S3) NX) NX) : gSub o i r d ρ S P := h
-- expressions
theorem i_var {d : D} (e : ρ[i]? = some (some d)) (h : Q d S) : dVar i ρ S Q E := ⟨d, e, h⟩
theorem i_c {d : D} (h : Q d S) : dC d ρ S Q E := h
theorem i_bin {r : RD2} (h : a ρ S (fun x S1 => b ρ S1 (fun y S2 => r x y S2 Q) E) E) : dBin r a b ρ S Q E := h
theorem i_un {r : D → Sto → DK → Prop} (h : a ρ S (fun x S1 => r x S1 Q) E) : dUn r a ρ S Q E := h
theorem i_nil {Q : List D → Sto → Prop} (h : Q [] S) : dNil ρ S Q E := h
theorem i_cons {Q : List D → Sto → Prop} (h : a ρ S (fun x S1 => A ρ S1 (fun xs S2 => Q (x :: xs) S2) E) E) : dCons a A ρ S Q E := h
theorem i_tup (h : A ρ S (fun xs S1 => xs.length ≤ sizeLine ∧ Q (.tup xs) S1) E) : dTup A ρ S Q E := h
theorem i_lst (h : A ρ S (fun xs S1 => xs.length ≤ sizeLine ∧ Q (.lst xs) S1) E) : dLst A ρ S Q E := h
theorem i_lstM (h : A ρ S (fun xs S1 => xs.length ≤ sizeLine ∧ ∀ p, S1 p = none → Q (dR p) (sup S1 p (.lst xs))) E) : dLstM A ρ S Q E := h
theorem i_cb {r : List D → Sto → DK → Prop} (h : A ρ S (fun xs S1 => r xs S1 Q) E) : dCB r A ρ S Q E := h
theorem i_bm {T : String} {r : D → List D → Sto → DK → Prop} (h : a ρ S (fun x S1 => tyOf S1 x = some T ∧ A ρ S1 (fun xs S2 => r x xs S2 Q) E) E) : dBM T r a A ρ S Q E := h
theorem i_bm0 {T : String} {r : D → List D → Sto → DK → Prop} (h : a ρ S (fun x S1 => tyOf S1 x = some T ∧ r x [] S1 Q) E) : dBM0 T r a ρ S Q E := h
theorem i_tyJoin {P : Prop} {s : Str} (h : P) : tyOf S (.v (.str s)) = some "str" ∧ P := ⟨rfl, h⟩
theorem i_call {n : Nat} {sp : DSp} (h : A ρ S (fun xs S1 => xs.length = n ∧ sp xs S1 Q E) E) : dCall n sp A ρ S Q E := h
theorem i_tst {Q : Bool → Sto → Prop} (h : a ρ S (fun x S1 => ∃ b, x = dB b ∧ Q b S1) E) : dTst a ρ S Q E := h
theorem i_tstB {b : Bool} {Q : Bool → Prop} (h : Q b) : ∃ b', dB b = dB b' ∧ Q b' := ⟨b, rfl, h⟩
theorem i_and {Q : Bool → Sto → Prop} (h : tA ρ S (fun c S1 => if c = true then tB ρ S1 Q E else Q false S1) E) : dAnd tA tB ρ S Q E := h
theorem i_or {Q : Bool → Sto → Prop} (h : tA ρ S (fun c S1 => if c = true then Q true S1 else tB ρ S1 Q E) E) : dOr tA tB ρ S Q E := h
theorem i_not {Q : Bool → Sto → Prop} (h : tA ρ S (fun c S1 => Q (!c) S1) E) : dNot tA ρ S Q E := h
theorem i_ifE (h : tA ρ S (fun c S1 => if c = true then a ρ S1 Q E else b ρ S1 Q E) E) : dIfE tA a b ρ S Q E := h
theorem i_andV (h : a ρ S (fun x S1 => ∃ c, x = dB c ∧ if c = true then b ρ S1 Q E else Q (dB false) S1) E) : dAndV a b ρ S Q E := h
theorem i_orV (h : a ρ S (fun x S1 => ∃ c, x = dB c ∧ if c = true then Q (dB true) S1 else b ρ S1 Q E) E) : dOrV a b ρ S Q E := h
theorem i_notV (h : a ρ S (fun x S1 => ∃ c, x = dB c ∧ Q (dB (!c)) S1) E) : dNotV a ρ S Q E := h
theorem i_chain {r r' : RD2} (h : a ρ S (fun x S1 => b ρ S1 (fun y S2 => r x y S2 fun z S3 => ∃ k, z = dB k ∧ if k = true then c ρ S3 (fun w S4 => r' y w S4 Q) E else Q (dB false) S3) E) E) : dChain r r' a b c ρ S Q E := h
theorem i_itt {A B : Prop} (h : A) : if true = true then A else B := by rw [if_pos rfl]; exact h
theorem i_iff {A B : Prop} (h : B) : if false = true then A else B := by rw [if_neg (by decide)]; exact h
theorem i_nitt {A B : Prop} (h : A) : if (!false) = true then A else B := by rw [if_pos (by decide)]; exact h
theorem i_niff {A B : Prop} (h : B) : if (!true) = true then A else B := by rw [if_neg (by decide)]; exact h
theorem i_pos {P A B : Prop} [Decidable P] (p : P) (h : A) : if decide P = true then A else B := by rw [if_pos (decide_eq_true p)]; exact h
theorem i_neg {P A B : Prop} [Decidable P] (p : ¬ P) (h : B) : if decide P = true then A else B := by rw [if_neg (fun z => p (of_decide_eq_true z))]; exact h
theorem i_npos {P A B : Prop} [Decidable P] (p : ¬ P) (h : A) : if (!decide P) = true then A else B := by rw [if_pos (by rw [decide_eq_false p]; rfl)]; exact h
theorem i_nneg {P A B : Prop} [Decidable P] (p : P) (h : B) : if (!decide P) = true then A else B := by rw [if_neg (by rw [decide_eq_true p]; decide)]; exact h
theorem i_dec {P A B : Prop} [Decidable P] (h1 : P → A) (h2 : ¬ P → B) : if decide P = true then A else B := by
  by_cases p : P
  · exact i_pos p (h1 p)
  · exact i_neg p (h2 p)
-- leaves
theorem r_addI {x y : Int} (h : Q (dI (x + y)) S) : rAdd (dI x) (dI y) S Q := h
theorem r_addS {x y : List Nat} (hl : x.length + y.length ≤ 16777216) (h : Q (dS (x ++ y)) S) : rAdd (dS x) (dS y) S Q := ⟨by rw [str_len, str_len]; exact Nat.le_trans hl szL, by rw [str_add]; exact h⟩
theorem r_addT {x y : List D} (hl : x.length + y.length ≤ 16777216) (h : Q (.tup (x ++ y)) S) : rAdd (.tup x) (.tup y) S Q := ⟨Nat.le_trans hl szL, h⟩
theorem r_addL {x y : List D} (hl : x.length + y.length ≤ 16777216) (h : Q (.lst (x ++ y)) S) : rAdd (.lst x) (.lst y) S Q := ⟨x, y, rfl, rfl, Nat.le_trans hl szL, h⟩
theorem r_I20 {g : Int → Int → D} {x y : Int} (h : Q (g x y) S) : rI20 g (dI x) (dI y) S Q := ⟨x, y, rfl, rfl, h⟩
theorem r_I2 {C : Int → Int → Prop} {g : Int → Int → D} {x y : Int} (hc : C x y) (h : Q (g x y) S) : rI2 C g (dI x) (dI y) S Q := ⟨x, y, rfl, rfl, hc, h⟩
theorem r_sub {x y : Int} (h : Q (dI (x - y)) S) : rSub (dI x) (dI y) S Q := ⟨x, y, rfl, rfl, h⟩
theorem r_lt {x y : Int} (h : Q (dB (decide (x < y))) S) : rLt (dI x) (dI y) S Q := ⟨x, y, rfl, rfl, h⟩
theorem r_le {x y : Int} (h : Q (dB (decide (x ≤ y))) S) : rLe (dI x) (dI y) S Q := ⟨x, y, rfl, rfl, h⟩
theorem r_gt {x y : Int} (h : Q (dB (decide (y < x))) S) : rGt (dI x) (dI y) S Q := ⟨x, y, rfl, rfl, h⟩
theorem r_ge {x y : Int} (h : Q (dB (decide (y ≤ x))) S) : rGe (dI x) (dI y) S Q := ⟨x, y, rfl, rfl, h⟩
theorem small_log {j : Int} (h0 : 0 < j) (h : j < 2 ^ 64) : j.natAbs.log2 < 9000 := by
  refine Nat.lt_of_lt_of_le ((Nat.log2_lt (by omega)).mpr (by omega : j.natAbs < 2 ^ 64)) (by decide)
theorem r_fdiv {x y : Int} (h0 : 0 < y) (h1 : y < 2 ^ 64) (h : Q (dI (x / y)) S) : rFdiv (dI x) (dI y) S Q := ⟨x, y, rfl, rfl, ⟨h0, small_log h0 h1⟩, h⟩
theorem r_mod {x y : Int} (h0 : 0 < y) (h : Q (dI (x % y)) S) : rMod (dI x) (dI y) S Q := ⟨x, y, rfl, rfl, h0, h⟩
theorem r_pow {x y : Int} (h0 : 0 ≤ y) (h1 : y ≤ 1000000) (h2 : x.natAbs < 2 ^ 64) (h : Q (dI (x ^ y.toNat)) S) : rPow (dI x) (dI y) S Q := ⟨x, y, rfl, rfl, ⟨h0, h1, h2⟩, h⟩
theorem r_neg {x : Int} (h : Q (dI (-x)) S) : rNeg (dI x) S Q := ⟨x, rfl, h⟩
theorem r_mulI {x y : Int} (hc : CMul x y ∨ CMulW x y) (h : Q (dI (x * y)) S) : rMulA (dI x) (dI y) S Q := ⟨hc, h⟩
theorem r_mulL {x y : Int} (h1 : -(2 ^ 64) < x) (h2 : x < 2 ^ 64) (h : Q (dI (x * y)) S) : rMulA (dI x) (dI y) S Q := ⟨.inl (.inl ⟨h1, h2⟩), h⟩
theorem r_mulR {x y : Int} (h1 : -(2 ^ 64) < y) (h2 : y < 2 ^ 64) (h : Q (dI (x * y)) S) : rMulA (dI x) (dI y) S Q := ⟨.inl (.inr ⟨h1, h2⟩), h⟩
theorem sl_mk (l : List Nat) : sl ⟨l.toArray⟩ = l := by simp [sl]
theorem r_mulS {z : List Nat} {k : Int} (h0 : 0 ≤ k) (h1 : k ≤ 16777216) (h2 : z.length * k.toNat ≤ sizeLine) (h3 : z.length ≤ 16777216) (h : Q (dS (List.replicate k.toNat z).flatten) S) : rMulA (dS z) (dI k) S Q := by
  refine ⟨⟨h0, h1, ?_, ?_⟩, ?_⟩
  · rw [sl_mk]; exact h2
  · rw [sl_mk]; exact h3
  · rw [sl_mk]; exact h
theorem r_mulS1 {z : Nat} {k : Int} (h0 : 0 ≤ k) (h1 : k ≤ 16777216) (h : Q (dS (List.replicate k.toNat z)) S) : rMulA (dS [z]) (dI k) S Q := by
  refine r_mulS h0 h1 ?_ (by show 1 ≤ _; omega) ?_
  · have : sizeLine ≥ 16777216 := by decide
    simp; omega
  · have e : ∀ n, (List.replicate n [z]).flatten = List.replicate n z := by
      intro n; induction n with
      | zero => rfl
      | succ n ih => rw [List.replicate_succ, List.flatten_cons, ih, List.replicate_succ]; rfl
    rw [e]; exact h
theorem r_isB {x y : Bool} (h : Q (dB (decide (x = y))) S) : rIs (dB x) (dB y) S Q := ⟨x, rfl, h⟩
theorem r_isNotB {x y : Bool} (h : Q (dB (!decide (x = y))) S) : rIsNot (dB x) (dB y) S Q := ⟨x, rfl, h⟩
theorem r_isN {x : D} (h : Q (dB (isNonD x)) S) : rIs x dN S Q := h
theorem r_isNotN {x : D} (h : Q (dB (!isNonD x)) S) : rIsNot x dN S Q := h
theorem r_inS {c : Nat} {z : List Nat} (h : Q (dB (decide (c ∈ z))) S) : rInS (dS [c]) (dS z) S Q := ⟨c, z, rfl, rfl, h⟩
-- == of ints, texts, bools
theorem r_eqI {x y : Int} (h : Q (dB (decide (x = y))) S) : rEq (dI x) (dI y) S Q := by
  refine ⟨rfl, rfl, ?_⟩
  have : eqD (dI x) (dI y) = decide (x = y) := rfl
  rw [show view S (dI x) = dI x from rfl, show view S (dI y) = dI y from rfl, this]; exact h
theorem r_neI {x y : Int} (h : Q (dB (!decide (x = y))) S) : rNe (dI x) (dI y) S Q := by
  refine ⟨rfl, rfl, ?_⟩
  have : eqD (dI x) (dI y) = decide (x = y) := rfl
  rw [show view S (dI x) = dI x from rfl, show view S (dI y) = dI y from rfl, this]; exact h
/-- code points -/
def cpOk (l : List Nat) : Bool := l.all (· < 0x110000)
theorem cp_ok {l : List Nat} {n : Nat} (h : cpOk l = true) : okD n (dS l) = true := by
  cases n <;> simpa [okD, cpOk] using h
theorem eq_str (x y : List Nat) : eqD (dS x) (dS y) = decide (x = y) := by
  show (Str.mk x.toArray == Str.mk y.toArray) = _
  by_cases e : x = y
  · subst e; simp
  · rw [decide_eq_false e]
    rw [beq_eq_false_iff_ne]
    intro q
    apply e
    have : x.toArray = y.toArray := congrArg Str.cps q
    simpa using this
theorem r_eqS {x y : List Nat} (h1 : cpOk x = true) (h2 : cpOk y = true) (h : Q (dB (decide (x = y))) S) : rEq (dS x) (dS y) S Q := by
  refine ⟨cp_ok h1, cp_ok h2, ?_⟩
  rw [show view S (dS x) = dS x from rfl, show view S (dS y) = dS y from rfl, eq_str]; exact h
theorem r_neS {x y : List Nat} (h1 : cpOk x = true) (h2 : cpOk y = true) (h : Q (dB (!decide (x = y))) S) : rNe (dS x) (dS y) S Q := by
  refine ⟨cp_ok h1, cp_ok h2, ?_⟩
  rw [show view S (dS x) = dS x from rfl, show view S (dS y) = dS y from rfl, eq_str]; exact h
mutual
theorem eqD_refl : ∀ {d : D} {n : Nat}, okD n d = true → PyData.eqv (toPy d) (toPy d) = true
  | .v x, n, h => by
    cases x <;> first | rfl | (cases n <;> simp [okD] at h; done) | skip
    · rename_i b; cases b <;> rfl
    · simp [toPy, PyData.eqv]
    · simp [toPy, PyData.eqv]
  | .tup l, 0, h => by simp [okD] at h
  | .tup l, n + 1, h => by
    show PyData.eqv (.tuple (toPys l)) (.tuple (toPys l)) = true
    unfold PyData.eqv
    exact eqD_refls (by simpa [okD] using h)
  | .lst l, 0, h => by simp [okD] at h
  | .lst l, n + 1, h => by
    show PyData.eqv (.list (toPys l)) (.list (toPys l)) = true
    unfold PyData.eqv
    exact eqD_refls (by simpa [okD] using h)
  | .dic _ _, n, h => by cases n <;> simp [okD] at h
  | .dct _ _, n, h => by cases n <;> simp [okD] at h
  | .ins _ _ _, n, h => by cases n <;> simp [okD] at h
  | .scr _, n, h => by cases n <;> simp [okD] at h
theorem eqD_refls : ∀ {l : List D} {n : Nat}, okDs n l = true → PyData.eqvAll (toPys l) (toPys l) = true
  | [], _, _ => rfl
  | d :: l, n, h => by
    have h' : okD n d = true ∧ okDs n l = true := by simpa [okDs] using h
    show PyData.eqvAll (toPy d :: toPys l) (toPy d :: toPys l) = true
    unfold PyData.eqvAll
    rw [eqD_refl h'.1, eqD_refls h'.2]; rfl
end
theorem r_neSame {x y : D} (e : x = y) (h1 : okD 64 (view S y) = true) (h : Q (dB false) S) : rNe x y S Q := by
  subst e
  refine ⟨h1, h1, ?_⟩
  rw [show eqD (view S x) (view S x) = true from eqD_refl h1]; exact h
theorem r_eqSame {x y : D} (e : x = y) (h1 : okD 64 (view S y) = true) (h : Q (dB true) S) : rEq x y S Q := by
  subst e
  refine ⟨h1, h1, ?_⟩
  rw [show eqD (view S x) (view S x) = true from eqD_refl h1]; exact h
-- x[i]
theorem atI_nat {α : Type} {l : List α} {i : Int} {d : α} (h0 : 0 ≤ i) (h : l[i.toNat]? = some d) : atI l i = some d := by
  have hl : i.toNat < l.length := (List.getElem?_eq_some_iff.mp h).1
  have e : ixN l.length i = some i.toNat := by
    unfold ixN
    split <;> first | omega | skip
    all_goals (first | rw [if_pos (by omega)] | skip)
    all_goals (first | rfl | omega | (congr 1; omega))
  unfold atI
  rw [e]
  exact h
theorem r_ixT {l : List D} {k : Int} {d : D} (e : atI l k = some d) (h : Q d S) : rIxD (.tup l) (dI k) S Q := ⟨k, l, d, rfl, rfl, (by intro s z; cases z), e, h⟩
theorem r_ixL {l : List D} {k : Int} {d : D} (e : atI l k = some d) (h : Q d S) : rIxD (.lst l) (dI k) S Q := ⟨k, l, d, rfl, rfl, (by intro s z; cases z), e, h⟩
theorem r_ixM {p : Addr} {l : List D} {k : Int} {d : D} (hs : S p = some (.lst l)) (e : atI l k = some d) (h : Q d S) : rIxD (dR p) (dI k) S Q := ⟨k, l, d, rfl, by simp [seqOf, itemsOf, hs], (by intro s z; cases z), e, h⟩
theorem signs_mk (l : List Nat) : signsD ⟨l.toArray⟩ = l.map fun c => dS [c] := by unfold signsD; rw [sl_mk]
theorem r_ixS {l : List Nat} {k : Int} {c : Nat} (hl : l.length ≤ 16777216) (e : atI l k = some c) (h : Q (dS [c]) S) : rIxD (dS l) (dI k) S Q := by
  refine ⟨k, l.map fun c => dS [c], dS [c], rfl, ?_, ?_, ?_, h⟩
  · show some (signsD ⟨l.toArray⟩) = _
    rw [signs_mk]
  · intro s z
    cases z
    rw [str_len]; exact Nat.le_trans hl szL
  · unfold atI at e ⊢
    rw [List.length_map]
    cases hj : ixN l.length k with
    | none => rw [hj] at e; cases e
    | some j =>
      rw [hj] at e
      have e' : l[j]? = some c := e
      show (l.map fun c => dS [c])[j]? = _
      rw [List.getElem?_map, e']; rfl
-- slices
theorem r_slice {lo hi : DTO} (h : te ρ S (fun x S1 => lo ρ S1 (fun l S2 => hi ρ S2 (fun u S3 => sliceD x l u S3 Q) E) E) E) : dSl te lo hi ρ S Q E := h
theorem r_noPart {P : Option Int → Sto → Prop} (h : P none S) : dNoPart ρ S P E := h
def PartGo (P : Option Int → Sto → Prop) (d : D) (S : Sto) : Prop := ∃ i, d = dI i ∧ P (some i) S
theorem r_part {P : Option Int → Sto → Prop} (h : te ρ S (fun d S1 => PartGo P d S1) E) : dPart te ρ S P E := h
theorem r_partI {i : Int} {P : Option Int → Sto → Prop} (h : P (some i) S) : PartGo P (dI i) S := ⟨i, rfl, h⟩
theorem r_slT {l : List D} {lo hi : Option Int} (h : Q (.tup (cutL l lo hi)) S) : sliceD (.tup l) lo hi S Q := h
theorem r_slL {l : List D} {lo hi : Option Int} (h : Q (.lst (cutL l lo hi)) S) : sliceD (.lst l) lo hi S Q := ⟨l, rfl, h⟩
theorem r_slS {l : List Nat} {lo hi : Option Int} (hl : l.length ≤ 16777216) (h : Q (dS (cutL l lo hi)) S) : sliceD (dS l) lo hi S Q := ⟨by rw [str_len]; exact Nat.le_trans hl szL, by rw [sl_mk]; exact h⟩
/-- l[a:b] -/
theorem cut_ab {α : Type} {l : List α} {a b : Int} (h0 : 0 ≤ a) (h1 : 0 ≤ b) : cutL l (some a) (some b) = (l.take b.toNat).drop a.toNat := by
  unfold cutL HT.sIx
  simp only
  rw [if_neg (by omega), if_neg (by omega)]
  apply List.ext_getElem?
  intro i
  simp only [List.getElem?_drop, List.getElem?_take]
  by_cases h : i < min b.toNat l.length - min a.toNat l.length
  · rw [if_pos h, if_pos (by omega)]
    congr 1
    omega
  · rw [if_neg h]
    by_cases h2 : a.toNat + i < b.toNat
    · rw [if_pos h2, List.getElem?_eq_none (by omega)]
    · rw [if_neg h2]
theorem cut_b {α : Type} {l : List α} {b : Int} (h1 : 0 ≤ b) : cutL l none (some b) = l.take b.toNat := by
  unfold cutL HT.sIx
  simp only
  rw [if_neg (by omega), List.drop_zero, Nat.sub_zero]
  by_cases h : b.toNat ≤ l.length
  · rw [Nat.min_eq_left h]
  · rw [Nat.min_eq_right (by omega), List.take_length, List.take_of_length_le (by omega)]
theorem cut_a {α : Type} {l : List α} {a : Int} (h1 : 0 ≤ a) : cutL l (some a) none = l.drop a.toNat := by
  unfold cutL HT.sIx
  simp only
  rw [if_neg (by omega), List.take_of_length_le (by rw [List.length_drop]; omega)]
  by_cases h : a.toNat ≤ l.length
  · rw [Nat.min_eq_left h]
  · rw [List.drop_eq_nil_of_le (by omega), List.drop_eq_nil_of_le (by omega)]
def ForGo (g : DTG) (body : DTS) (DD : DEnds) (ρ : Env') (its : List D) (G : Sto → Prop) (S1 : Sto) : Prop := ∃ I : Nat → Env' → Sto → Prop, I 0 ρ S1 ∧ ∀ k ρ S, k ≤ its.length → I k ρ S → G S ∧ (k = its.length → DD.nx ρ S) ∧
  ∀ x, its[k]? = some x → g x ρ S fun ρ2 S2 => body { DD with nx := Lax (I (k + 1)), ct := Lax (I (k + 1)), bk := DD.nx } ρ2 S2
theorem i_for {it : DTI} {g : DTG} (h : it ρ S (fun its G S1 => ForGo g t D0 ρ its G S1) (fun c ds S' => D0.xc c ds ρ S')) : dFor it g t D0 ρ S := h
def WhileGo (c : DTT) (body : DTS) (DD : DEnds) (ρ : Env') (S : Sto) : Prop := ∃ I : Nat → Env' → Sto → Prop, (∃ m, I m ρ S) ∧ ∀ m ρ S, I m ρ S →
  c ρ S (fun b S1 => if b = true then body { DD with nx := Lax fun ρ' S' => ∃ m', m' < m ∧ I m' ρ' S', ct := Lax fun ρ' S' => ∃ m', m' < m ∧ I m' ρ' S', bk := DD.nx } ρ S1 else DD.nx ρ S1) (fun c ds S' => DD.xc c ds ρ S')
theorem i_while (h : WhileGo tA t D0 ρ S) : dWhile tA t D0 ρ S := h
def LcGo (vs : List Nat) (g : DTG) (tt : DTT) (te : DTE) (ρ : Env') (Q : DK) (its : List D) (G : Sto → Prop) (S1 : Sto) : Prop := ∃ I : Nat → List D → Sto → Prop, I 0 [] S1 ∧ ∀ k acc S, k ≤ its.length → I k acc S → G S ∧ (k = its.length → Q (.lst acc) S) ∧
  ∀ x, its[k]? = some x → g x (wipeE ρ vs) S fun ρ2 S2 => tt ρ2 S2 (fun b S3 => if b = true then te ρ2 S3 (fun y S4 => acc.length < sizeLine ∧ I (k + 1) (acc ++ [y]) S4) NX else I (k + 1) acc S3) NX
theorem i_lc {vs : List Nat} {it : DTI} {g : DTG} {tt : DTT} (h : it ρ S (fun its G S1 => LcGo vs g tt te ρ Q its G S1) E) : dLc vs it g tt te ρ S Q E := h
/-- a comprehension that maps; the store stands -/
theorem lc_map {α : Type} {its : List D} {vs : List Nat} {g : DTG} {G : Sto → Prop} (l : List α) (emb f : α → D) (e : its = l.map emb) (hg : G S) (hl : l.length ≤ 16777216)
    (h : ∀ a ∈ l, ∀ P : DK, P (f a) S → g (emb a) (wipeE ρ vs) S fun ρ2 S2 => te ρ2 S2 P NX) (q : Q (.lst (l.map f)) S) :
    LcGo vs g dYes te ρ Q its G S := by
  subst e
  refine ⟨fun k acc S' => S' = S ∧ acc = (l.take k).map f, ⟨rfl, by simp⟩, ?_⟩
  rintro k acc S1 hk ⟨eS, rfl⟩
  subst eS
  refine ⟨hg, fun e => ?_, fun x hx => ?_⟩
  · subst e; rw [List.length_map, List.take_length]; exact q
  · rw [List.getElem?_map] at hx
    cases ha : l[k]? with
    | none => rw [ha] at hx; cases hx
    | some a =>
      rw [ha] at hx
      obtain rfl : emb a = x := Option.some.inj hx
      obtain ⟨h1, h2⟩ := List.getElem?_eq_some_iff.mp ha
      have := h a (List.mem_of_getElem? ha) (fun y S4 => ((l.take k).map f).length < sizeLine ∧ (S4 = S1 ∧ (l.take k).map f ++ [y] = (l.take (k + 1)).map f)) ⟨by rw [List.length_map, List.length_take]; exact Nat.lt_of_lt_of_le (by omega) szL, rfl, by rw [List.take_succ, ha, List.map_append]; rfl⟩
      refine cast ?_ this
      congr 1
/-- with a condition -/
theorem lc_filter {α : Type} {its : List D} {vs : List Nat} {g : DTG} {G : Sto → Prop} (l : List α) (emb f : α → D) (p : α → Bool) (e : its = l.map emb) (hg : G S) (hl : l.length ≤ 16777216)
    (h : ∀ a ∈ l, ∀ (P : DK) (R : Sto → Prop), (p a = true → P (f a) S) → (p a = false → R S) → g (emb a) (wipeE ρ vs) S fun ρ2 S2 => tA ρ2 S2 (fun b S3 => if b = true then te ρ2 S3 P NX else R S3) NX) (q : Q (.lst ((l.filter p).map f)) S) :
    LcGo vs g tA te ρ Q its G S := by
  subst e
  refine ⟨fun k acc S' => S' = S ∧ acc = ((l.take k).filter p).map f, ⟨rfl, by simp⟩, ?_⟩
  rintro k acc S1 hk ⟨eS, rfl⟩
  subst eS
  refine ⟨hg, fun e => ?_, fun x hx => ?_⟩
  · subst e; rw [List.length_map, List.take_length]; exact q
  · rw [List.getElem?_map] at hx
    cases ha : l[k]? with
    | none => rw [ha] at hx; cases hx
    | some a =>
      rw [ha] at hx
      obtain rfl : emb a = x := Option.some.inj hx
      obtain ⟨h1, h2⟩ := List.getElem?_eq_some_iff.mp ha
      refine h a (List.mem_of_getElem? ha) _ _ (fun pa => ⟨?_, rfl, ?_⟩) (fun pa => ⟨rfl, ?_⟩)
      · rw [List.length_map]
        exact Nat.lt_of_le_of_lt (List.length_filter_le _ _) (by rw [List.length_take]; exact Nat.lt_of_lt_of_le (by omega) szL)
      · rw [List.take_succ, ha, List.filter_append, List.map_append]
        show _ = _ ++ (List.filter p [a]).map f
        rw [List.filter_cons_of_pos pa]; rfl
      · rw [List.take_succ, ha, List.filter_append, List.map_append]
        show _ = _ ++ (List.filter p [a]).map f
        rw [List.filter_cons_of_neg (by simp [pa])]; simp
inductive All2 {α β : Type} (R : α → β → Prop) : List α → List β → Prop
  | nil : All2 R [] []
  | cons {a : α} {b : β} {l : List α} {m : List β} : R a b → All2 R l m → All2 R (a :: l) (b :: m)
theorem All2.length {α β : Type} {R : α → β → Prop} : ∀ {l : List α} {m : List β}, All2 R l m → l.length = m.length
  | _, _, .nil => rfl
  | _, _, .cons _ t => by rw [List.length_cons, List.length_cons, t.length]
theorem All2.snoc {α β : Type} {R : α → β → Prop} {a : α} {b : β} (r : R a b) : ∀ {l : List α} {m : List β}, All2 R l m → All2 R (l ++ [a]) (m ++ [b])
  | _, _, .nil => .cons r .nil
  | _, _, .cons q t => .cons q (t.snoc r)
/-- the store may change, within an invariant; each element stands in a relation -/
theorem lc_rel {α : Type} {its : List D} {vs : List Nat} {g : DTG} {G : Sto → Prop} (l : List α) (emb : α → D) (J : Sto → Prop) (R : α → D → Prop) (e : its = l.map emb) (hg : ∀ S', J S' → G S') (h0 : J S) (hl : l.length ≤ 16777216)
    (h : ∀ a ∈ l, ∀ S', J S' → ∀ P : DK, (∀ d S'', R a d → J S'' → P d S'') → g (emb a) (wipeE ρ vs) S' fun ρ2 S2 => te ρ2 S2 P NX) (q : ∀ ds S', All2 R l ds → J S' → Q (.lst ds) S') :
    LcGo vs g dYes te ρ Q its G S := by
  subst e
  refine ⟨fun k acc S' => J S' ∧ All2 R (l.take k) acc, ⟨h0, by rw [List.take_zero]; exact .nil⟩, ?_⟩
  rintro k acc S1 hk ⟨j1, f1⟩
  refine ⟨hg _ j1, fun e => ?_, fun x hx => ?_⟩
  · subst e; rw [List.length_map, List.take_length] at f1; exact q _ _ f1 j1
  · rw [List.getElem?_map] at hx
    cases ha : l[k]? with
    | none => rw [ha] at hx; cases hx
    | some a =>
      rw [ha] at hx
      obtain rfl : emb a = x := Option.some.inj hx
      obtain ⟨h1, h2⟩ := List.getElem?_eq_some_iff.mp ha
      have hlen : acc.length = k := by rw [← f1.length, List.length_take]; omega
      have := h a (List.mem_of_getElem? ha) S1 j1 (fun y S4 => acc.length < sizeLine ∧ (J S4 ∧ All2 R (l.take (k + 1)) (acc ++ [y]))) fun d S'' r j2 => ⟨Nat.lt_of_lt_of_le (by omega) szL, j2, by
        rw [List.take_succ, ha]
        exact All2.snoc r f1⟩
      refine cast ?_ this
      congr 1
/-- a for-loop -/
theorem for_inv {α : Type} {its : List D} {g : DTG} {G : Sto → Prop} (l : List α) (emb : α → D) (I : Nat → Env' → Sto → Prop) (e : its = l.map emb) (h0 : I 0 ρ S)
    (hG : ∀ k ρ S, I k ρ S → G S) (hend : ∀ ρ S, I l.length ρ S → D0.nx ρ S) (hstep : ∀ k a ρ S, l[k]? = some a → I k ρ S → g (emb a) ρ S fun ρ2 S2 => t { D0 with nx := Lax (I (k + 1)), ct := Lax (I (k + 1)), bk := D0.nx } ρ2 S2) :
    ForGo g t D0 ρ its G S := by
  subst e
  refine ⟨I, h0, fun k ρ S hk i => ⟨hG k ρ S i, fun e => hend ρ S (by rw [e, List.length_map] at i; exact i), fun x hx => ?_⟩⟩
  rw [List.getElem?_map] at hx
  cases ha : l[k]? with
  | none => rw [ha] at hx; cases hx
  | some a =>
    rw [ha] at hx
    obtain rfl : emb a = x := Option.some.inj hx
    exact hstep k a ρ S ha i
-- builtins
theorem r_lenS {l : List Nat} (hl : l.length ≤ 16777216) (h : Q (dI l.length) S) : lenD [dS l] S Q := ⟨_, rfl, by show Str.length ⟨l.toArray⟩ ≤ _ ∧ Q (dI (Str.length ⟨l.toArray⟩ : Nat)) S; rw [str_len]; exact ⟨Nat.le_trans hl szL, h⟩⟩
theorem r_lenT {l : List D} (h : Q (dI l.length) S) : lenD [.tup l] S Q := ⟨_, rfl, l, rfl, h⟩
theorem r_lenL {l : List D} (h : Q (dI l.length) S) : lenD [.lst l] S Q := ⟨_, rfl, l, rfl, h⟩
theorem r_lenM {p : Addr} {l : List D} (hs : S p = some (.lst l)) (h : Q (dI l.length) S) : lenD [dR p] S Q := ⟨_, rfl, l, by simp [itemsOf, hs], h⟩
theorem r_tupL {l : List D} (h : Q (.tup l) S) : tupD [.lst l] S Q := ⟨_, l, rfl, rfl, h⟩
theorem r_tupT {l : List D} (h : Q (.tup l) S) : tupD [.tup l] S Q := ⟨_, l, rfl, rfl, h⟩
theorem r_tupM {p : Addr} {l : List D} (hs : S p = some (.lst l)) (h : Q (.tup l) S) : tupD [dR p] S Q := ⟨_, l, rfl, by simp [itemsOf, hs], h⟩
theorem r_lstL {l : List D} (h : Q (.lst l) S) : lstD [.lst l] S Q := ⟨_, l, rfl, rfl, h⟩
theorem r_lstT {l : List D} (h : Q (.lst l) S) : lstD [.tup l] S Q := ⟨_, l, rfl, rfl, h⟩
theorem r_lstScr {l : List D} (h : Q (.lst l) S) : lstD [.scr l] S Q := ⟨_, l, rfl, rfl, h⟩
theorem r_lstML {l : List D} (h : ∀ p, S p = none → Q (dR p) (sup S p (.lst l))) : lstDM [.lst l] S Q := ⟨_, l, rfl, rfl, h⟩
theorem r_lstMT {l : List D} (h : ∀ p, S p = none → Q (dR p) (sup S p (.lst l))) : lstDM [.tup l] S Q := ⟨_, l, rfl, rfl, h⟩
theorem r_intI {i : Int} (h : Q (dI i) S) : intD [dI i] S Q := .inl ⟨i, rfl, h⟩
theorem r_intB {i : Bool} (h : Q (dI (if i then 1 else 0)) S) : intD [dB i] S Q := .inr ⟨i, rfl, h⟩
theorem r_abs {i : Int} (h : Q (dI (if i < 0 then -i else i)) S) : absD [dI i] S Q := ⟨i, rfl, h⟩
theorem r_min2 {i j : Int} (h : Q (dI (min i j)) S) : min2D [dI i, dI j] S Q := ⟨i, j, rfl, h⟩
theorem r_max2 {i j : Int} (h : Q (dI (max i j)) S) : max2D [dI i, dI j] S Q := ⟨i, j, rfl, h⟩
theorem r_sum {ns : List Int} (h : Q (dI ns.sum) S) : sumD [.lst (ns.map dI)] S Q := ⟨_, ns, rfl, rfl, h⟩
theorem r_sum' {l : List D} (ns : List Int) (e : l = ns.map dI) (h : Q (dI ns.sum) S) : sumD [.lst l] S Q := ⟨_, ns, rfl, by rw [e]; rfl, h⟩
theorem r_all' {l : List D} (ns : List Bool) (e : l = ns.map dB) (h : Q (dB (ns.all id)) S) : allD [.lst l] S Q := ⟨_, ns, rfl, by rw [e]; rfl, h⟩
theorem r_any' {l : List D} (ns : List Bool) (e : l = ns.map dB) (h : Q (dB (ns.any id)) S) : anyD [.lst l] S Q := ⟨_, ns, rfl, by rw [e]; rfl, h⟩
theorem r_join' {l : List D} {a : List Nat} (ls : List (List Nat)) (e : l = ls.map dS) (hl : (ls.map List.length).sum + ls.length * a.length ≤ 16777216) (h : Q (dS (joinN a ls)) S) : joinD (dS a) [.lst l] S Q := ⟨a, _, ls, rfl, rfl, by rw [e]; rfl, hl, h⟩
theorem r_str {i : Int} (hl : i.natAbs.log2 < 1920) (h : Q (.v (.str (toString i))) S) : strID [dI i] S Q := ⟨i, rfl, hl, h⟩
theorem r_isi {d : D} {T n : String} {b : Bool} (h1 : tyOf S d = some n) (h2 : isT n T = some b) (h : Q (dB b) S) : isiD [d, .v (.ty T)] S Q := ⟨d, T, n, b, rfl, h1, h2, h⟩
theorem r_setL {p : Addr} {l : List D} {k : Int} {j : Nat} {d : D} {P : Sto → Prop} (hs : S p = some (.lst l)) (hj : ixN l.length k = some j) (h : P (sup S p (.lst (l.set j d)))) : setLD (dR p) (dI k) d S P := ⟨p, l, k, j, rfl, rfl, hs, hj, h⟩
theorem r_app {p : Addr} {l : List D} {y : D} (hs : S p = some (.lst l)) (hl : l.length < 16777216) (h : Q dN (sup S p (.lst (l ++ [y])))) : appD (dR p) [y] S Q := ⟨p, l, y, rfl, rfl, hs, Nat.lt_of_lt_of_le hl szL, h⟩
theorem i_tyM {p : Addr} {l : List D} {P : Prop} (hs : S p = some (.lst l)) (h : P) : tyOf S (dR p) = some "list" ∧ P := ⟨by simp [tyOf, hs], h⟩
/-- a cut: what an expression yields, once -/
theorem i_val {d : D} (hv : ∀ Q' : DK, Q' d S → te ρ S Q' E) (q : Q d S) : te ρ S Q E := hv Q q
theorem i_cut (J : D → Sto → Prop) (hv : ∀ Q' : DK, (∀ d S', J d S' → Q' d S') → te ρ S Q' E) (q : ∀ d S', J d S' → Q d S') : te ρ S Q E := hv Q q
theorem i_cutT {Q : Bool → Sto → Prop} (J : Bool → Sto → Prop) (hv : ∀ Q' : Bool → Sto → Prop, (∀ b S', J b S' → Q' b S') → tA ρ S Q' E) (q : ∀ b S', J b S' → Q b S') : tA ρ S Q E := hv Q q
def RevGo (Q : DK) (d : D) (S : Sto) : Prop := (∃ l, d = .tup l ∧ Q (.tup l.reverse) S) ∨ ∃ l, lsOf S d = some l ∧ Q (.lst l.reverse) S
theorem i_rev (h : te ρ S (fun d S1 => RevGo Q d S1) E) : dRev te ρ S Q E := h
theorem r_revT {l : List D} (h : Q (.tup l.reverse) S) : RevGo Q (.tup l) S := .inl ⟨l, rfl, h⟩
theorem r_revL {l : List D} (h : Q (.lst l.reverse) S) : RevGo Q (.lst l) S := .inr ⟨l, rfl, h⟩
def Rg1C (k : List D → D) (Q : DK) (d : D) (S : Sto) : Prop := ∃ n : Int, d = dI n ∧ RgOk 0 n ∧ Q (k (rangeD 0 1 n.toNat)) S
theorem i_rg1 {k : List D → D} (h : te ρ S (fun d S1 => Rg1C k Q d S1) E) : dRg1 k te ρ S Q E := h
theorem r_rg1 {k : List D → D} {n : Int} (h0 : 0 ≤ n) (h1 : n ≤ 16777216) (h : Q (k (rangeD 0 1 n.toNat)) S) : Rg1C k Q (dI n) S := ⟨n, rfl, RgOk.of_le (by omega) h1 (by omega) h0, h⟩
def Rg2C (k : List D → D) (Q : DK) (d d' : D) (S : Sto) : Prop := ∃ m n : Int, d = dI m ∧ d' = dI n ∧ RgOk m n ∧ Q (k (rangeD m 1 (n - m).toNat)) S
theorem i_rg2 {k : List D → D} (h : ta ρ S (fun d S1 => tb ρ S1 (fun d' S2 => Rg2C k Q d d' S2) E) E) : dRg2 k ta tb ρ S Q E := h
theorem r_rg2 {k : List D → D} {m n : Int} (h : RgOk m n) (q : Q (k (rangeD m 1 (n - m).toNat)) S) : Rg2C k Q (dI m) (dI n) S := ⟨m, n, rfl, rfl, h, q⟩
theorem pow_small {k : Nat} (h : k < 64) : (0 : Int) < 2 ^ k ∧ (2 : Int) ^ k < 2 ^ 64 := by
  refine ⟨Int.pow_pos (by decide), ?_⟩
  have := Nat.pow_lt_pow_right (show 1 < 2 by decide) h
  exact_mod_cast this
theorem ok_ints (l : List Int) : ∀ n, okDs n (l.map dI) = true := by
  intro n
  induction l with
  | nil => rfl
  | cons i l ih => rw [List.map_cons, okDs, ih, Bool.and_true]; cases n <;> rfl
theorem ok_tupI {n : Nat} (l : List Int) : okD (n + 1) (.tup (l.map dI)) = true := by rw [okD]; exact ok_ints l n
theorem ok_lstI {n : Nat} (l : List Int) : okD (n + 1) (.lst (l.map dI)) = true := by rw [okD]; exact ok_ints l n
theorem vw_tupI (l : List Int) : okD 64 (view S (.tup (l.map dI))) = true := ok_tupI l
theorem vw_lstI (l : List Int) : okD 64 (view S (.lst (l.map dI))) = true := ok_lstI l
theorem vw_str {l : List Nat} (h : cpOk l = true) : okD 64 (view S (dS l)) = true := cp_ok h
theorem cp_of {l : List Nat} {n : Nat} (hn : n ≤ 0x110000) (h : ∀ c ∈ l, c < n) : cpOk l = true := by
  unfold cpOk
  rw [List.all_eq_true]
  intro c hc
  exact decide_eq_true (Nat.lt_of_lt_of_le (h c hc) hn)
theorem log_le {x : Int} {a : Nat} (h0 : 0 ≤ x) (h : x < 2 ^ a) : x.natAbs.log2 ≤ a := by
  by_cases hx : x.natAbs = 0
  · rw [hx, Nat.log2_zero]; omega
  · refine Nat.le_of_lt ((Nat.log2_lt hx).mpr ?_)
    have e : ((x.natAbs : Nat) : Int) = x := Int.natAbs_of_nonneg h0
    exact_mod_cast (e ▸ h : ((x.natAbs : Nat) : Int) < 2 ^ a)
theorem r_mulP {x y : Int} {a b : Nat} (hx : 0 ≤ x ∧ x < 2 ^ a) (hy : 0 ≤ y ∧ y < 2 ^ b) (hab : a + b < 1000000) (h : Q (dI (x * y)) S) : rMulA (dI x) (dI y) S Q := by
  refine ⟨.inr ?_, h⟩
  have h1 := log_le hx.1 hx.2
  have h2 := log_le hy.1 hy.2
  show x.natAbs.log2 + y.natAbs.log2 < 1000000
  omega
theorem pow_lt {k m : Nat} (h : k < m) : (0 : Int) ≤ 2 ^ k ∧ (2 : Int) ^ k < 2 ^ m := by
  refine ⟨Int.le_of_lt (Int.pow_pos (by decide)), ?_⟩
  have := Nat.pow_lt_pow_right (show 1 < 2 by decide) h
  exact_mod_cast this
theorem vw_tup {l : List D} (h : okD 64 (.tup l) = true) : okD 64 (view S (.tup l)) = true := h
theorem vw_lst {l : List D} (h : okD 64 (.lst l) = true) : okD 64 (view S (.lst l)) = true := h
-- iterators
def Rg1Go (P : List D → (Sto → Prop) → Sto → Prop) (ds : List D) (S : Sto) : Prop := ∃ j : Int, ds = [dI j] ∧ (-(2 ^ 62) ≤ j ∧ j < 2 ^ 62) ∧ P (rangeD 0 1 j.toNat) GT S
def Rg2Go (P : List D → (Sto → Prop) → Sto → Prop) (ds : List D) (S : Sto) : Prop := ∃ i j : Int, ds = [dI i, dI j] ∧ (-(2 ^ 62) ≤ i ∧ i < 2 ^ 62 ∧ -(2 ^ 62) ≤ j ∧ j < 2 ^ 62) ∧ P (rangeD i 1 (j - i).toNat) GT S
def Rg3Go (P : List D → (Sto → Prop) → Sto → Prop) (ds : List D) (S : Sto) : Prop := ∃ (i j c : Int) (n : Nat), ds = [dI i, dI j, dI c] ∧ RgC i j c n ∧ P (rangeD i c n) GT S
def SqGo (P : List D → (Sto → Prop) → Sto → Prop) (d : D) (S : Sto) : Prop := ∃ l, seqOf S d = some l ∧ P l (stays d l) S
def EnGo (P : List D → (Sto → Prop) → Sto → Prop) (d : D) (S : Sto) : Prop := ∃ l, seqOf S d = some l ∧ P (enumL l) (stays d l) S
theorem i_rng1 {P : List D → (Sto → Prop) → Sto → Prop} (h : A ρ S (fun ds S1 => Rg1Go P ds S1) E) : dRng1 A ρ S P E := h
theorem i_rng2 {P : List D → (Sto → Prop) → Sto → Prop} (h : A ρ S (fun ds S1 => Rg2Go P ds S1) E) : dRng2 A ρ S P E := h
theorem i_rng3 {P : List D → (Sto → Prop) → Sto → Prop} (h : A ρ S (fun ds S1 => Rg3Go P ds S1) E) : dRng3 A ρ S P E := h
theorem r_rng1 {P : List D → (Sto → Prop) → Sto → Prop} {j : Int} (h1 : -(2 ^ 62) ≤ j) (h2 : j < 2 ^ 62) (h : P (rangeD 0 1 j.toNat) GT S) : Rg1Go P [dI j] S := ⟨j, rfl, ⟨h1, h2⟩, h⟩
theorem r_rng2 {P : List D → (Sto → Prop) → Sto → Prop} {i j : Int} (h1 : -(2 ^ 62) ≤ i) (h2 : i < 2 ^ 62) (h3 : -(2 ^ 62) ≤ j) (h4 : j < 2 ^ 62) (h : P (rangeD i 1 (j - i).toNat) GT S) : Rg2Go P [dI i, dI j] S := ⟨i, j, rfl, ⟨h1, h2, h3, h4⟩, h⟩
theorem r_rng3 {P : List D → (Sto → Prop) → Sto → Prop} {i j c : Int} (n : Nat) (hc : RgC i j c n) (h : P (rangeD i c n) GT S) : Rg3Go P [dI i, dI j, dI c] S := ⟨i, j, c, n, rfl, hc, h⟩
theorem RgC.up {a b c : Int} (hc : 0 < c) (hc2 : c < 1073741824) (h1 : -(2 ^ 61) ≤ a) (h2 : a < 2 ^ 61) (h3 : -(2 ^ 61) ≤ b) (h4 : b < 2 ^ 61) : RgC a b c ((b - a + c - 1) / c).toNat := by
  have hs : Builtin.Range.rangeSize a b c = (((b - a + c - 1) / c).toNat : Nat) := by
    unfold Builtin.Range.rangeSize
    rw [if_pos hc]
    split
    · have e : (b - a + c - 1) / c = (b - a - 1) / c + 1 := by
        rw [show b - a + c - 1 = (b - a - 1) + 1 * c by omega, Int.add_mul_ediv_right _ _ (by omega)]
      have : 0 ≤ (b - a - 1) / c := Int.ediv_nonneg (by omega) (by omega)
      omega
    · have : (b - a + c - 1) / c < 1 := Int.ediv_lt_of_lt_mul hc (by omega)
      omega
  have hb : ((b - a + c - 1) / c).toNat ≤ 2 ^ 62 + 2 ^ 32 := by
    by_cases h : 0 ≤ b - a + c - 1
    · have := Int.ediv_le_self c h
      omega
    · have : (b - a + c - 1) / c < 1 := Int.ediv_lt_of_lt_mul hc (by omega)
      omega
  refine ⟨by omega, by omega, ?_, hs⟩
  unfold Builtin.Range.small
  rw [hs, if_pos hc]
  simp only [Builtin.Range.rangeFitsLong, Bool.and_eq_true, Bool.or_eq_true, decide_eq_true_eq, beq_iff_eq]
  omega
theorem RgC.down {a b c : Int} (hc : 0 < c) (hc2 : c < 1073741824) (h1 : -(2 ^ 61) ≤ a) (h2 : a < 2 ^ 61) (h3 : -(2 ^ 61) ≤ b) (h4 : b < 2 ^ 61) : RgC a b (-c) ((a - b + c - 1) / c).toNat := by
  have hs : Builtin.Range.rangeSize a b (-c) = (((a - b + c - 1) / c).toNat : Nat) := by
    unfold Builtin.Range.rangeSize
    rw [if_neg (by omega), Int.neg_neg]
    split
    · have e : (a - b + c - 1) / c = (a - b - 1) / c + 1 := by
        rw [show a - b + c - 1 = (a - b - 1) + 1 * c by omega, Int.add_mul_ediv_right _ _ (by omega)]
      have : 0 ≤ (a - b - 1) / c := Int.ediv_nonneg (by omega) (by omega)
      omega
    · have : (a - b + c - 1) / c < 1 := Int.ediv_lt_of_lt_mul hc (by omega)
      omega
  have hb : ((a - b + c - 1) / c).toNat ≤ 2 ^ 62 + 2 ^ 32 := by
    by_cases h : 0 ≤ a - b + c - 1
    · have := Int.ediv_le_self c h
      omega
    · have : (a - b + c - 1) / c < 1 := Int.ediv_lt_of_lt_mul hc (by omega)
      omega
  refine ⟨by omega, by omega, ?_, hs⟩
  unfold Builtin.Range.small
  rw [hs, if_neg (by omega)]
  simp only [Builtin.Range.rangeFitsLong, Bool.and_eq_true, Bool.or_eq_true, decide_eq_true_eq, beq_iff_eq]
  omega
theorem r_rngU {P : List D → (Sto → Prop) → Sto → Prop} {i j c : Int} (hc : 0 < c) (hc2 : c < 1073741824) (h1 : -(2 ^ 61) ≤ i) (h2 : i < 2 ^ 61) (h3 : -(2 ^ 61) ≤ j) (h4 : j < 2 ^ 61) (h : P (rangeD i c ((j - i + c - 1) / c).toNat) GT S) : Rg3Go P [dI i, dI j, dI c] S := ⟨i, j, c, _, rfl, RgC.up hc hc2 h1 h2 h3 h4, h⟩
theorem r_rngD {P : List D → (Sto → Prop) → Sto → Prop} {i j c : Int} (hc : 0 < c) (hc2 : c < 1073741824) (h1 : -(2 ^ 61) ≤ i) (h2 : i < 2 ^ 61) (h3 : -(2 ^ 61) ≤ j) (h4 : j < 2 ^ 61) (h : P (rangeD i (-c) ((i - j + c - 1) / c).toNat) GT S) : Rg3Go P [dI i, dI j, dI (-c)] S := ⟨i, j, -c, _, rfl, RgC.down hc hc2 h1 h2 h3 h4, h⟩
theorem i_seqI {P : List D → (Sto → Prop) → Sto → Prop} (h : te ρ S (fun d S1 => SqGo P d S1) E) : dSeqI te ρ S P E := h
theorem i_enum {P : List D → (Sto → Prop) → Sto → Prop} (h : te ρ S (fun d S1 => EnGo P d S1) E) : dEnum te ρ S P E := h
theorem r_sqT {P : List D → (Sto → Prop) → Sto → Prop} {l : List D} (h : P l GT S) : SqGo P (.tup l) S := ⟨l, rfl, h⟩
theorem r_sqL {P : List D → (Sto → Prop) → Sto → Prop} {l : List D} (h : P l GT S) : SqGo P (.lst l) S := ⟨l, rfl, h⟩
theorem r_sqS {P : List D → (Sto → Prop) → Sto → Prop} {l : List Nat} (h : P (l.map fun c => dS [c]) GT S) : SqGo P (dS l) S := ⟨_, by show some (signsD ⟨l.toArray⟩) = _; rw [signs_mk], h⟩
theorem r_enT {P : List D → (Sto → Prop) → Sto → Prop} {l : List D} (h : P (enumL l) GT S) : EnGo P (.tup l) S := ⟨l, rfl, h⟩
theorem r_enL {P : List D → (Sto → Prop) → Sto → Prop} {l : List D} (h : P (enumL l) GT S) : EnGo P (.lst l) S := ⟨l, rfl, h⟩
theorem r_enS {P : List D → (Sto → Prop) → Sto → Prop} {l : List Nat} (h : P (enumL (l.map fun c => dS [c])) GT S) : EnGo P (dS l) S := ⟨_, by show some (signsD ⟨l.toArray⟩) = _; rw [signs_mk], h⟩
theorem enum_map {α : Type} (l : List α) (f : α → D) : enumL (l.map f) = l.zipIdx.map fun p => .tup [dI p.2, f p.1] := by
  unfold enumL
  apply List.ext_getElem?
  intro i
  rw [List.getElem?_mapIdx, List.getElem?_map, List.getElem?_map, List.getElem?_zipIdx]
  cases l[i]? <;> simp
-- sizes, calls
theorem i_sz {xs : List D} {P : Prop} (h : xs.length ≤ 16777216) (p : P) : xs.length ≤ sizeLine ∧ P := ⟨Nat.le_trans h szL, p⟩
theorem i_sp {xs : List D} {n : Nat} {sp : DSp} (h : xs.length = n) (q : sp xs S Q E) : xs.length = n ∧ sp xs S Q E := ⟨h, q⟩
theorem i_fin {d : D} (h : Q d S) : (endsOf Q E).rt d S := Fin.of h
theorem i_finN {ρ : Env'} (h : Q dN S) : (endsOf Q E).nx ρ S := Fin.of h
end
def isWh : D → Int → Int → Option Bool
  | .v (.int i), lo, hi => some (decide (lo ≤ i ∧ i ≤ hi))
  | .v (.bl _), _, _ => some false
  | _, _, _ => none
def sp_is_whole : DSp := fun ds S Q _ => ∃ d lo hi b, ds = [d, dI lo, dI hi] ∧ isWh d lo hi = some b ∧ Q (dB b) S
def isTu : D → Int → Int → Option Bool
  | .tup l, lo, hi => some (decide (lo ≤ l.length ∧ l.length ≤ hi))
  | .v (.str _), _, _ => some false
  | _, _, _ => none
def sp_is_tuple_of : DSp := fun ds S Q _ => ∃ d lo hi b, ds = [d, dI lo, dI hi] ∧ isTu d lo hi = some b ∧ Q (dB b) S
def allBits (l : List Nat) : Bool := l.all fun c => decide (c ∈ [48, 49])
def sp_fits_bits : DSp := fun ds S Q _ => (∃ l : List Nat, ds = [dS l] ∧ l.length ≤ 16777216 ∧ Q (dB (decide (l.length ≤ 630000) && allBits l)) S) ∨ ∃ i, ds = [dI i] ∧ Q (dB false) S
def allWh (lo hi : Int) (l : List D) : Bool := l.all fun d => (isWh d lo hi).getD false
def sp_fits_octets : DSp := fun ds S Q _ => (∃ l, ds = [.tup l] ∧ l.length ≤ 16777216 ∧ (∀ d ∈ l, (isWh d 0 255).isSome = true) ∧ Q (dB (decide (l.length ≤ 70000) && allWh 0 255 l)) S) ∨ ∃ s, ds = [.v (.str s)] ∧ Q (dB false) S
def BitsL (l : List Nat) : Prop := l.length ≤ 630000 ∧ ∀ c ∈ l, c = 48 ∨ c = 49
def OctL (l : List Int) : Prop := l.length ≤ 70000 ∧ ∀ i ∈ l, 0 ≤ i ∧ i ≤ 255
def sp_need_bits : DSp := fun ds S Q _ => ∃ l, ds = [dS l] ∧ BitsL l ∧ Q dN S
def sp_need_octets : DSp := fun ds S Q _ => ∃ l : List Int, ds = [.tup (l.map dI)] ∧ OctL l ∧ Q dN S
def numOf : List Nat → Int
  | [] => 0
  | c :: l => (if c = 49 then 1 else 0) + 2 * numOf l
def bitsFor (n : Int) : Nat → List Nat
  | 0 => []
  | k + 1 => (if n % 2 = 1 then 49 else 48) :: bitsFor (n / 2) k
def sp_number_of : DSp := fun ds S Q _ => ∃ l, ds = [dS l] ∧ BitsL l ∧ Q (dI (numOf l)) S
def sp_bits_for : DSp := fun ds S Q _ => ∃ n m, ds = [dI n, dI m] ∧ (0 ≤ m ∧ m ≤ 16777216) ∧ Q (dS (bitsFor n m.toNat)) S
def spr (l : List Int) : List Nat := l.flatMap fun i => bitsFor i 8
def gat (l : List Nat) : List Int := (List.range ((l.length + 7) / 8)).map fun k => numOf ((l.drop (8 * k)).take 8)
def sp_spread : DSp := fun ds S Q _ => ∃ l : List Int, ds = [.tup (l.map dI)] ∧ OctL l ∧ Q (dS (spr l)) S
def sp_gathered : DSp := fun ds S Q _ => ∃ l, ds = [dS l] ∧ BitsL l ∧ Q (.tup ((gat l).map dI)) S
def sp_power : DSp := fun ds S Q _ => ∃ m, ds = [dI m] ∧ (0 ≤ m ∧ m ≤ 16777216) ∧ Q (dI (2 ^ m.toNat)) S
abbrev sp_are_bits : DSp := sp_fits_bits
abbrev sp_are_octets : DSp := sp_fits_octets
abbrev sp_bits_of : DSp := sp_spread
abbrev sp_octets_of : DSp := sp_gathered
def sp_number_at : DSp := fun ds S Q _ => ∃ l a m, ds = [dS l, dI a, dI m] ∧ BitsL l ∧ (0 ≤ a ∧ 0 ≤ m ∧ a + m ≤ l.length) ∧ Q (dI (numOf ((l.drop a.toNat).take m.toNat))) S
def sp_with_number : DSp := fun ds S Q _ => ∃ n m, ds = [dI n, dI m] ∧ (0 ≤ m ∧ m ≤ 64 ∧ 0 ≤ n ∧ n < 2 ^ m.toNat) ∧ Q (dS (bitsFor n m.toNat)) S
def Cup (S : Sto) (c : Addr) : Prop := ∃ a b, S c = some (.lst [dI a, dI b])
def sp_law_cup : DSp := fun ds S Q _ => ∃ ns : List Int, ds = [.scr (ns.map dI)] ∧ ns.length ≤ 1000 ∧ ∀ c S', Cup S' c → Q (dR c) S'
def sp_law_roll : DSp := fun ds S Q _ => ∃ c m, ds = [dR c, dI m] ∧ (0 < m ∧ m < 2 ^ 64) ∧ Cup S c ∧ ∀ r S', 0 ≤ r → r < m → Cup S' c → Q (dI r) S'
def sp_law_some : DSp := fun ds S Q _ => ∃ c l, ds = [dR c, .lst l] ∧ (0 < l.length ∧ l.length ≤ 16777216) ∧ Cup S c ∧ ∀ d ∈ l, ∀ S', Cup S' c → Q d S'
abbrev sp_law_power : DSp := sp_power
abbrev sp_law_sum : DSp := sp_number_of
def sp_law_octets_right : DSp := fun ds S Q _ => ∃ l : List Int, ds = [.tup (l.map dI)] ∧ OctL l ∧ Q (dB true) S
def sp_law_cut_right : DSp := fun ds S Q _ => ∃ (c : Addr) (l : List Int), ds = [dR c, .tup (l.map dI)] ∧ OctL l ∧ Cup S c ∧ ∀ S', Cup S' c → Q (dB true) S'
def sp_law : DSp := fun ds S Q _ => ∃ ns : List Int, ds = [.scr (ns.map dI)] ∧ ns.length ≤ 1000 ∧ ∀ S', Q (dB true) S'
abbrev N_is_whole : List Str := ["value", "low", "high"]
abbrev N_is_tuple_of : List Str := ["value", "low", "high"]
abbrev N_fits_bits : List Str := ["value", "sign"]
abbrev N_fits_octets : List Str := ["value", "one"]
abbrev N_need_bits : List Str := ["bits"]
abbrev N_need_octets : List Str := ["octets"]
abbrev N_number_of : List Str := ["bits", "found", "step", "sign"]
abbrev N_bits_for : List Str := ["number", "many", "found", "turn"]
abbrev N_spread : List Str := ["octets", "one"]
abbrev N_gathered : List Str := ["bits", "at"]
abbrev N_power : List Str := ["many", "found", "turn"]
abbrev N_are_bits : List Str := ["value"]
abbrev N_are_octets : List Str := ["value"]
abbrev N_bits_of : List Str := ["octets"]
abbrev N_octets_of : List Str := ["bits"]
abbrev N_number_at : List Str := ["bits", "begin", "many"]
abbrev N_with_number : List Str := ["number", "many"]
abbrev N_law_cup : List Str := ["script", "cell"]
abbrev N_law_roll : List Str := ["cup", "many", "found", "deep"]
abbrev N_law_some : List Str := ["cup", "things"]
abbrev N_law_power : List Str := ["many", "found", "turn"]
abbrev N_law_sum : List Str := ["bits", "at", "sign"]
abbrev N_law_octets_right : List Str := ["octets", "bits", "at", "octet", "other", "back", "by", "sign"]
abbrev N_law_cut_right : List Str := ["cup", "octets", "bits", "many", "whole", "rest", "turn", "begin", "wide", "first", "number", "one", "two", "at", "octet"]
abbrev N_law : List Str := ["script", "cup", "told", "many", "octets", "at"]
def t_is_whole : DTS :=
  dRet (dAndV (dCB isiD (dCons (dVar 0) (dCons (dC (.v (.ty "int"))) (dNil)))) (dAndV (dNotV (dCB isiD (dCons (dVar 0) (dCons (dC (.v (.ty "bool"))) (dNil))))) (dChain rLe rLe (dVar 1) (dVar 0) (dVar 2))))

def t_is_tuple_of : DTS :=
  dRet (dAndV (dCB isiD (dCons (dVar 0) (dCons (dC (.v (.ty "tuple"))) (dNil)))) (dChain rLe rLe (dVar 1) (dCB lenD (dCons (dVar 0) (dNil))) (dVar 2)))

def t_fits_bits : DTS :=
  dRet (dAndV (dCB isiD (dCons (dVar 0) (dCons (dC (.v (.ty "str"))) (dNil)))) (dAndV (dBin rLe (dCB lenD (dCons (dVar 0) (dNil))) (dC (dI (630000)))) (dCB allD (dCons (dLc [1] (dSeqI (dVar 0)) (gN 1) (dYes) (dBin rInS (dVar 1) (dC (dS [48, 49])))) (dNil)))))

def t_fits_octets : DTS :=
  dRet (dAndV (dCall 3 sp_is_tuple_of (dCons (dVar 0) (dCons (dC (dI 0)) (dCons (dC (dI (70000))) (dNil))))) (dCB allD (dCons (dLc [1] (dSeqI (dVar 0)) (gN 1) (dYes) (dCall 3 sp_is_whole (dCons (dVar 1) (dCons (dC (dI 0)) (dCons (dC (dI 255)) (dNil)))))) (dNil))))

def t_need_bits : DTS :=
  dIf (dNot (dTst (dCall 1 sp_fits_bits (dCons (dVar 0) (dNil))))) (dNever) (dNext)

def t_need_octets : DTS :=
  dIf (dNot (dTst (dCall 1 sp_fits_octets (dCons (dVar 0) (dNil))))) (dNever) (dNext)

def t_number_of : DTS :=
  dSeq (dAsg (dTup (dCons (dC (dI 0)) (dCons (dC (dI 1)) (dNil)))) (gT 2 (gsC (gN 1) (gsC (gN 2) (gs0)))))
  (dSeq (dFor (dSeqI (dVar 0)) (gN 3) (dPar [1, 2] (dCons (dBin rAdd (dVar 1) (dIfE (dTst (dBin rEq (dVar 3) (dC (dS [49])))) (dVar 2) (dC (dI 0)))) (dCons (dBin rMulA (dC (dI 2)) (dVar 2)) (dNil)))))
  (dRet (dVar 1)))

def t_bits_for : DTS :=
  dSeq (dAsg (dC (dS [])) (gN 2))
  (dSeq (dFor (dRng1 (dCons (dVar 1) (dNil))) (gN 3) (dPar [2, 0] (dCons (dBin rAdd (dVar 2) (dIfE (dTst (dBin rEq (dBin rMod (dVar 0) (dC (dI 2))) (dC (dI 1)))) (dC (dS [49])) (dC (dS [48])))) (dCons (dBin rFdiv (dVar 0) (dC (dI 2))) (dNil)))))
  (dRet (dVar 2)))

def t_spread : DTS :=
  dRet (dBM "str" joinD (dC (dS [])) (dCons (dLc [1] (dSeqI (dVar 0)) (gN 1) (dYes) (dCall 2 sp_bits_for (dCons (dVar 1) (dCons (dC (dI 8)) (dNil))))) (dNil)))

def t_gathered : DTS :=
  dRet (dCB tupD (dCons (dLc [1] (dRng3 (dCons (dC (dI 0)) (dCons (dCB lenD (dCons (dVar 0) (dNil))) (dCons (dC (dI 8)) (dNil))))) (gN 1) (dYes) (dCall 1 sp_number_of (dCons (dSl (dVar 0) (dPart (dVar 1)) (dPart (dBin rAdd (dVar 1) (dC (dI 8))))) (dNil)))) (dNil)))

def t_power : DTS :=
  dSeq (dAsg (dC (dI 1)) (gN 1))
  (dSeq (dFor (dRng1 (dCons (dVar 0) (dNil))) (gN 2) (dAsg (dBin rMulA (dC (dI 2)) (dVar 1)) (gN 1)))
  (dRet (dVar 1)))

def t_are_bits : DTS :=
  dRet (dCall 1 sp_fits_bits (dCons (dVar 0) (dNil)))

def t_are_octets : DTS :=
  dRet (dCall 1 sp_fits_octets (dCons (dVar 0) (dNil)))

def t_bits_of : DTS :=
  dSeq (dDrop (dCall 1 sp_need_octets (dCons (dVar 0) (dNil))))
  (dRet (dCall 1 sp_spread (dCons (dVar 0) (dNil))))

def t_octets_of : DTS :=
  dSeq (dDrop (dCall 1 sp_need_bits (dCons (dVar 0) (dNil))))
  (dRet (dCall 1 sp_gathered (dCons (dVar 0) (dNil))))

def t_number_at : DTS :=
  dSeq (dDrop (dCall 1 sp_need_bits (dCons (dVar 0) (dNil))))
  (dSeq (dIf (dOr (dNot (dTst (dCall 3 sp_is_whole (dCons (dVar 1) (dCons (dC (dI 0)) (dCons (dCB lenD (dCons (dVar 0) (dNil))) (dNil))))))) (dNot (dTst (dCall 3 sp_is_whole (dCons (dVar 2) (dCons (dC (dI 0)) (dCons (dBin rSub (dCB lenD (dCons (dVar 0) (dNil))) (dVar 1)) (dNil)))))))) (dNever) (dNext))
  (dRet (dCall 1 sp_number_of (dCons (dSl (dVar 0) (dPart (dVar 1)) (dPart (dBin rAdd (dVar 1) (dVar 2)))) (dNil)))))

def t_with_number : DTS :=
  dSeq (dIf (dOr (dNot (dTst (dCall 3 sp_is_whole (dCons (dVar 1) (dCons (dC (dI 0)) (dCons (dC (dI 64)) (dNil))))))) (dNot (dTst (dCall 3 sp_is_whole (dCons (dVar 0) (dCons (dC (dI 0)) (dCons (dBin rSub (dCall 1 sp_power (dCons (dCB min2D (dCons (dVar 1) (dCons (dC (dI 64)) (dNil)))) (dNil))) (dC (dI 1))) (dNil)))))))) (dNever) (dNext))
  (dRet (dCall 2 sp_bits_for (dCons (dVar 0) (dCons (dVar 1) (dNil)))))

def t_law_cup : DTS :=
  dSeq (dAsg (dCB absD (dCons (dBin rIxD (dBin rAdd (dCB lstD (dCons (dVar 0) (dNil))) (dLst (dCons (dC (dI 0)) (dNil)))) (dC (dI 0))) (dNil))) (gN 1))
  (dRet (dLstM (dCons (dIfE (dTst (dBin rGe (dVar 1) (dBin rPow (dC (dI 10)) (dC (dI 18))))) (dBin rFdiv (dVar 1) (dC (dI 857))) (dC (dI 0))) (dCons (dBin rAdd (dBin rMod (dCB intD (dCons (dBin rAdd (dBin rMulA (dVar 1) (dC (dI 1699))) (dC (dI 9811))) (dNil))) (dC (dI 2073604403))) (dC (dI 503))) (dNil)))))

def t_law_roll : DTS :=
  dSeq (dIf (dTst (dBin rGt (dBin rIxD (dVar 0) (dC (dI 0))) (dC (dI 0)))) (dSeq (dAsg (dBin rMod (dCB intD (dCons (dBin rIxD (dVar 0) (dC (dI 0))) (dNil))) (dVar 1)) (gN 2))
  (dSeq (dAsg (dBin rFdiv (dBin rIxD (dVar 0) (dC (dI 0))) (dVar 1)) (gSub (dVar 0) (dC (dI 0)) setLD))
  (dRet (dVar 2)))) (dNext))
  (dSeq (dAsg (dBin rMod (dCB intD (dCons (dBin rAdd (dBin rMulA (dBin rIxD (dVar 0) (dC (dI 1))) (dC (dI 34807))) (dC (dI 9601))) (dNil))) (dC (dI 2147483399))) (gSub (dVar 0) (dC (dI 1)) setLD))
  (dSeq (dAsg (dBin rMod (dCB intD (dCons (dBin rMulA (dBin rIxD (dVar 0) (dC (dI 1))) (dBin rAdd (dBin rIxD (dVar 0) (dC (dI 1))) (dC (dI 811)))) (dNil))) (dC (dI 2147483563))) (gN 3))
  (dRet (dBin rMod (dCB intD (dCons (dBin rFdiv (dVar 3) (dC (dI 1511))) (dNil))) (dVar 1)))))

def t_law_some : DTS :=
  dRet (dBin rIxD (dVar 1) (dCall 2 sp_law_roll (dCons (dVar 0) (dCons (dCB lenD (dCons (dVar 1) (dNil))) (dNil)))))

def t_law_power : DTS :=
  dSeq (dAsg (dC (dI 1)) (gN 1))
  (dSeq (dFor (dRng1 (dCons (dVar 0) (dNil))) (gN 2) (dAsg (dBin rMulA (dC (dI 2)) (dVar 1)) (gN 1)))
  (dRet (dVar 1)))

def t_law_sum : DTS :=
  dRet (dCB sumD (dCons (dLc [1, 2] (dEnum (dVar 0)) (gT 2 (gsC (gN 1) (gsC (gN 2) (gs0)))) (dTst (dBin rEq (dVar 2) (dC (dS [49])))) (dCall 1 sp_law_power (dCons (dVar 1) (dNil)))) (dNil)))

def t_law_octets_right : DTS :=
  dSeq (dAsg (dCall 1 sp_bits_of (dCons (dVar 0) (dNil))) (gN 1))
  (dSeq (dIf (dOr (dTst (dBin rIsNot (dCall 1 sp_are_octets (dCons (dVar 0) (dNil))) (dC (dB true)))) (dOr (dTst (dBin rIsNot (dCall 1 sp_are_bits (dCons (dVar 1) (dNil))) (dC (dB true)))) (dOr (dTst (dBin rNe (dCB lenD (dCons (dVar 1) (dNil))) (dBin rMulA (dC (dI 8)) (dCB lenD (dCons (dVar 0) (dNil)))))) (dTst (dBin rNe (dCall 1 sp_octets_of (dCons (dVar 1) (dNil))) (dVar 0)))))) (dRet (dC (dB false))) (dNext))
  (dSeq (dFor (dEnum (dVar 0)) (gT 2 (gsC (gN 2) (gsC (gN 3) (gs0)))) (dIf (dOr (dTst (dBin rNe (dSl (dVar 1) (dPart (dBin rMulA (dC (dI 8)) (dVar 2))) (dPart (dBin rAdd (dBin rMulA (dC (dI 8)) (dVar 2)) (dC (dI 8))))) (dBM "str" joinD (dC (dS [])) (dCons (dLc [6] (dRng1 (dCons (dC (dI 8)) (dNil))) (gN 6) (dYes) (dCB strID (dCons (dBin rMod (dCB intD (dCons (dBin rFdiv (dVar 3) (dCall 1 sp_law_power (dCons (dVar 6) (dNil)))) (dNil))) (dC (dI 2))) (dNil)))) (dNil))))) (dTst (dBin rNe (dCall 3 sp_number_at (dCons (dVar 1) (dCons (dBin rMulA (dC (dI 8)) (dVar 2)) (dCons (dC (dI 8)) (dNil))))) (dVar 3)))) (dRet (dC (dB false))) (dNext)))
  (dSeq (dAsg (dCall 1 sp_bits_of (dCons (dCB tupD (dCons (dLc [3] (dSeqI (dVar 0)) (gN 3) (dYes) (dBin rSub (dC (dI 255)) (dVar 3))) (dNil))) (dNil))) (gN 4))
  (dSeq (dIf (dTst (dBin rNe (dVar 4) (dBM "str" joinD (dC (dS [])) (dCons (dLc [7] (dSeqI (dVar 1)) (gN 7) (dYes) (dIfE (dTst (dBin rEq (dVar 7) (dC (dS [48])))) (dC (dS [49])) (dC (dS [48])))) (dNil))))) (dRet (dC (dB false))) (dNext))
  (dSeq (dAsg (dCall 1 sp_bits_of (dCons (dRev (dVar 0)) (dNil))) (gN 5))
  (dRet (dBin rEq (dVar 5) (dBM "str" joinD (dC (dS [])) (dCons (dLc [2] (dRng3 (dCons (dBin rSub (dCB lenD (dCons (dVar 1) (dNil))) (dC (dI 8))) (dCons (dUn rNeg (dC (dI 8))) (dCons (dUn rNeg (dC (dI 8))) (dNil))))) (gN 2) (dYes) (dSl (dVar 1) (dPart (dVar 2)) (dPart (dBin rAdd (dVar 2) (dC (dI 8)))))) (dNil))))))))))

def t_law_cut_right : DTS :=
  dSeq (dAsg (dCall 1 sp_bits_of (dCons (dVar 1) (dNil))) (gN 2))
  (dSeq (dAsg (dCall 2 sp_law_roll (dCons (dVar 0) (dCons (dBin rAdd (dCB lenD (dCons (dVar 2) (dNil))) (dC (dI 1))) (dNil)))) (gN 3))
  (dSeq (dPar [4, 5] (dCons (dBin rFdiv (dVar 3) (dC (dI 8))) (dCons (dBin rMod (dCB intD (dCons (dVar 3) (dNil))) (dC (dI 8))) (dNil))))
  (dSeq (dIf (dTst (dBin rNe (dCall 1 sp_octets_of (dCons (dSl (dVar 2) (dNoPart) (dPart (dVar 3))) (dNil))) (dBin rAdd (dSl (dVar 1) (dNoPart) (dPart (dVar 4))) (dIfE (dTst (dBin rGt (dVar 5) (dC (dI 0)))) (dTup (dCons (dBin rMod (dCB intD (dCons (dBin rIxD (dVar 1) (dVar 4)) (dNil))) (dCall 1 sp_law_power (dCons (dVar 5) (dNil)))) (dNil))) (dTup (dNil)))))) (dRet (dC (dB false))) (dNext))
  (dSeq (dIf (dAnd (dTst (dBin rGt (dVar 5) (dC (dI 0)))) (dTst (dBin rNe (dCall 1 sp_octets_of (dCons (dBin rAdd (dSl (dVar 2) (dNoPart) (dPart (dVar 3))) (dBin rMulA (dC (dS [48])) (dCall 2 sp_law_roll (dCons (dVar 0) (dCons (dBin rSub (dC (dI 9)) (dVar 5)) (dNil)))))) (dNil))) (dCall 1 sp_octets_of (dCons (dSl (dVar 2) (dNoPart) (dPart (dVar 3))) (dNil)))))) (dRet (dC (dB false))) (dNext))
  (dSeq (dFor (dRng1 (dCons (dC (dI 6)) (dNil))) (gN 6) (dSeq (dAsg (dCall 2 sp_law_roll (dCons (dVar 0) (dCons (dBin rAdd (dCB lenD (dCons (dVar 2) (dNil))) (dC (dI 1))) (dNil)))) (gN 7))
  (dSeq (dAsg (dCall 2 sp_law_roll (dCons (dVar 0) (dCons (dBin rAdd (dCB min2D (dCons (dC (dI 64)) (dCons (dBin rSub (dCB lenD (dCons (dVar 2) (dNil))) (dVar 7)) (dNil)))) (dC (dI 1))) (dNil)))) (gN 8))
  (dSeq (dAsg (dCall 2 sp_law_roll (dCons (dVar 0) (dCons (dBin rAdd (dVar 8) (dC (dI 1))) (dNil)))) (gN 9))
  (dSeq (dPar [10, 11, 12] (dCons (dCall 3 sp_number_at (dCons (dVar 2) (dCons (dVar 7) (dCons (dVar 8) (dNil))))) (dCons (dCall 3 sp_number_at (dCons (dVar 2) (dCons (dVar 7) (dCons (dVar 9) (dNil))))) (dCons (dCall 3 sp_number_at (dCons (dVar 2) (dCons (dBin rAdd (dVar 7) (dVar 9)) (dCons (dBin rSub (dVar 8) (dVar 9)) (dNil))))) (dNil)))))
  (dSeq (dIf (dOr (dTst (dBin rNe (dVar 10) (dCall 1 sp_law_sum (dCons (dSl (dVar 2) (dPart (dVar 7)) (dPart (dBin rAdd (dVar 7) (dVar 8)))) (dNil))))) (dTst (dBin rNe (dVar 10) (dBin rAdd (dVar 11) (dBin rMulA (dCall 1 sp_law_power (dCons (dVar 9) (dNil))) (dVar 12)))))) (dRet (dC (dB false))) (dNext))
  (dIf (dOr (dTst (dBin rNe (dCall 2 sp_with_number (dCons (dVar 10) (dCons (dVar 8) (dNil)))) (dSl (dVar 2) (dPart (dVar 7)) (dPart (dBin rAdd (dVar 7) (dVar 8)))))) (dTst (dBin rNe (dBin rAdd (dCall 2 sp_with_number (dCons (dVar 11) (dCons (dVar 9) (dNil)))) (dCall 2 sp_with_number (dCons (dVar 12) (dCons (dBin rSub (dVar 8) (dVar 9)) (dNil))))) (dCall 2 sp_with_number (dCons (dVar 10) (dCons (dVar 8) (dNil))))))) (dRet (dC (dB false))) (dNext))))))))
  (dRet (dBin rEq (dCall 3 sp_number_at (dCons (dVar 2) (dCons (dC (dI 0)) (dCons (dCB lenD (dCons (dVar 2) (dNil))) (dNil))))) (dCB sumD (dCons (dLc [13, 14] (dEnum (dVar 1)) (gT 2 (gsC (gN 13) (gsC (gN 14) (gs0)))) (dYes) (dBin rMulA (dVar 14) (dCall 1 sp_law_power (dCons (dBin rMulA (dC (dI 8)) (dVar 13)) (dNil))))) (dNil))))))))))

def t_law : DTS :=
  dSeq (dAsg (dCall 1 sp_law_cup (dCons (dVar 0) (dNil))) (gN 1))
  (dSeq (dAsg (dTup (dCons (dCall 1 sp_bits_of (dCons (dTup (dCons (dC (dI 1)) (dCons (dC (dI 128)) (dCons (dC (dI 6)) (dNil))))) (dNil))) (dCons (dCall 1 sp_octets_of (dCons (dC (dS [49])) (dNil))) (dCons (dCall 1 sp_octets_of (dCons (dC (dS [48, 48, 48, 48, 48, 48, 48, 49, 49])) (dNil))) (dCons (dCall 3 sp_number_at (dCons (dC (dS [48, 49, 49, 48])) (dCons (dC (dI 1)) (dCons (dC (dI 2)) (dNil))))) (dCons (dCall 2 sp_with_number (dCons (dC (dI 5)) (dCons (dC (dI 4)) (dNil)))) (dCons (dCall 2 sp_with_number (dCons (dC (dI 0)) (dCons (dC (dI 0)) (dNil)))) (dNil)))))))) (gN 2))
  (dSeq (dAsg (dBin rAdd (dVar 2) (dTup (dCons (dCall 2 sp_with_number (dCons (dBin rSub (dBin rPow (dC (dI 2)) (dC (dI 64))) (dC (dI 1))) (dCons (dC (dI 64)) (dNil)))) (dCons (dCall 3 sp_number_at (dCons (dC (dS [])) (dCons (dC (dI 0)) (dCons (dC (dI 0)) (dNil))))) (dCons (dCall 1 sp_octets_of (dCons (dC (dS [])) (dNil))) (dCons (dCall 1 sp_are_bits (dCons (dC (dS [48, 97])) (dNil))) (dCons (dCall 1 sp_are_octets (dCons (dTup (dCons (dC (dI 0)) (dCons (dC (dI 256)) (dNil)))) (dNil))) (dCons (dCall 1 sp_are_octets (dCons (dTup (dCons (dC (dB true)) (dNil))) (dNil))) (dCons (dCall 1 sp_are_bits (dCons (dC (dI 10)) (dNil))) (dNil)))))))))) (gN 2))
  (dSeq (dIf (dTst (dBin rNe (dVar 2) (dTup (dCons (dC (dS [49, 48, 48, 48, 48, 48, 48, 48, 48, 48, 48, 48, 48, 48, 48, 49, 48, 49, 49, 48, 48, 48, 48, 48])) (dCons (dTup (dCons (dC (dI 1)) (dNil))) (dCons (dTup (dCons (dC (dI 128)) (dCons (dC (dI 1)) (dNil)))) (dCons (dC (dI 3)) (dCons (dC (dS [49, 48, 49, 48])) (dCons (dC (dS [])) (dCons (dBin rMulA (dC (dS [49])) (dC (dI 64))) (dCons (dC (dI 0)) (dCons (dTup (dNil)) (dCons (dC (dB false)) (dCons (dC (dB false)) (dCons (dC (dB false)) (dCons (dC (dB false)) (dNil))))))))))))))))) (dRet (dC (dB false))) (dNext))
  (dSeq (dIf (dOr (dNot (dTst (dCall 1 sp_law_octets_right (dCons (dRg1 .tup (dC (dI 256))) (dNil))))) (dOr (dNot (dTst (dCall 1 sp_law_octets_right (dCons (dTup (dNil)) (dNil))))) (dOr (dNot (dTst (dCall 1 sp_law_octets_right (dCons (dTup (dCons (dC (dI 255)) (dCons (dC (dI 0)) (dCons (dC (dI 1)) (dCons (dC (dI 128)) (dNil)))))) (dNil))))) (dNot (dTst (dCall 2 sp_law_cut_right (dCons (dVar 1) (dCons (dTup (dCons (dC (dI 170)) (dCons (dC (dI 85)) (dCons (dC (dI 1)) (dNil))))) (dNil))))))))) (dRet (dC (dB false))) (dNext))
  (dSeq (dFor (dSeqI (dTup (dCons (dC (dI 1)) (dCons (dC (dI 2)) (dCons (dC (dI 9)) (dCons (dC (dI 40)) (dNil))))))) (gN 3) (dSeq (dAsg (dCB tupD (dCons (dLc [5] (dRng1 (dCons (dVar 3) (dNil))) (gN 5) (dYes) (dCall 2 sp_law_some (dCons (dVar 1) (dCons (dLst (dCons (dCall 2 sp_law_roll (dCons (dVar 1) (dCons (dC (dI 256)) (dNil)))) (dCons (dC (dI 0)) (dCons (dC (dI 255)) (dCons (dC (dI 1)) (dNil)))))) (dNil))))) (dNil))) (gN 4))
  (dIf (dOr (dNot (dTst (dCall 1 sp_law_octets_right (dCons (dVar 4) (dNil))))) (dOr (dNot (dTst (dCall 2 sp_law_cut_right (dCons (dVar 1) (dCons (dVar 4) (dNil)))))) (dTst (dBin rNe (dCall 1 sp_bits_of (dCons (dBin rAdd (dVar 4) (dSl (dVar 4) (dNoPart) (dPart (dC (dI 1))))) (dNil))) (dBin rAdd (dCall 1 sp_bits_of (dCons (dVar 4) (dNil))) (dCall 1 sp_bits_of (dCons (dSl (dVar 4) (dNoPart) (dPart (dC (dI 1)))) (dNil)))))))) (dRet (dC (dB false))) (dNext))))
  (dRet (dC (dB true))))))))
local macro_rules | `(tactic| walk_at "d") => `(tactic| repeat (first
  | with_reducible apply i_seq | with_reducible apply i_asg | with_reducible apply i_gN | with_reducible apply i_if 
  | ((with_reducible apply i_next ); show DEnds.nx _ _ _) | with_reducible apply i_ret | with_reducible apply i_drop 
  | with_reducible apply i_par | with_reducible apply i_par2 | with_reducible apply i_par3 | with_reducible apply i_for 
  | with_reducible apply i_retN | with_reducible apply i_break | with_reducible apply i_cont | with_reducible apply i_gs0 | with_reducible apply i_gsC 
  | ((with_reducible apply i_gTt ); rfl) | with_reducible apply i_gSub | ((with_reducible apply i_aug); rfl)
  | ((with_reducible apply i_var); rfl) | with_reducible apply i_c | with_reducible apply i_cons | with_reducible apply i_nil 
  | with_reducible apply i_bin | with_reducible apply i_un | with_reducible apply i_cb | with_reducible apply i_tst | with_reducible apply i_tstB 
  | with_reducible apply i_call | with_reducible apply i_bm | with_reducible apply i_bm0 | with_reducible apply i_tyJoin 
  | with_reducible apply i_tup | with_reducible apply i_lst | with_reducible apply i_lstM | with_reducible apply i_and | with_reducible apply i_or | with_reducible apply i_not 
  | with_reducible apply i_andV | with_reducible apply i_orV | with_reducible apply i_notV | with_reducible apply i_chain 
  | with_reducible apply r_slice | with_reducible apply r_noPart | with_reducible apply r_part | with_reducible apply r_partI 
  | with_reducible apply i_rng1 | with_reducible apply i_seqI | with_reducible apply i_enum | with_reducible apply i_lc
  | with_reducible apply r_addI | with_reducible apply r_sub | with_reducible apply r_lt | with_reducible apply r_le | with_reducible apply r_gt | with_reducible apply r_ge 
  | ((with_reducible apply r_fdiv ); (omega); (omega))
  | with_reducible apply r_neg | with_reducible apply r_isB | with_reducible apply r_isNotB | with_reducible apply r_isN | with_reducible apply r_isNotN | with_reducible apply r_inS 
  | with_reducible apply r_eqI | with_reducible apply r_neI | with_reducible apply r_slT | with_reducible apply r_slL 
  | with_reducible apply r_lenT | with_reducible apply r_lenL | with_reducible apply r_tupL | with_reducible apply r_tupT | with_reducible apply r_lstL | with_reducible apply r_lstT | with_reducible apply r_lstScr 
  | with_reducible apply r_intI | with_reducible apply r_intB | with_reducible apply r_abs | with_reducible apply r_min2 | with_reducible apply r_max2 
  | with_reducible apply i_rng2 | with_reducible apply i_rng3 | with_reducible apply r_sqT | with_reducible apply r_sqL | with_reducible apply r_sqS | with_reducible apply r_enT | with_reducible apply r_enL | with_reducible apply r_enS
  | ((with_reducible apply i_sp); rfl) | ((with_reducible apply i_sz); exact Nat.le_of_ble_eq_true rfl)
  | ((with_reducible apply r_mod); omega) | ((with_reducible apply r_pow); omega; omega; first | omega | exact (by decide)) | ((with_reducible apply r_lenS); first | assumption | omega | exact Nat.le_of_ble_eq_true rfl | (simp <;> omega))
  | ((with_reducible apply r_rng1); omega; omega) | ((with_reducible apply r_rngU); omega; omega; omega; omega; omega; omega) | ((with_reducible apply r_rng2); omega; omega; omega; omega)
  | ((with_reducible apply r_addS); first | omega | exact Nat.le_of_ble_eq_true rfl | (simp <;> omega)) | ((with_reducible apply r_addT); first | omega | exact Nat.le_of_ble_eq_true rfl | (simp <;> omega)) | ((with_reducible apply r_addL); first | omega | exact Nat.le_of_ble_eq_true rfl | (simp <;> omega))
  | ((with_reducible apply r_mulL); omega; omega) | ((with_reducible apply r_mulR); omega; omega)
  | ((with_reducible apply r_slS); first | assumption | omega | exact Nat.le_of_ble_eq_true rfl | (simp <;> omega))
  | ((with_reducible apply r_isi); rfl; rfl) | with_reducible apply i_rev | with_reducible apply r_revT | with_reducible apply r_revL | with_reducible apply i_rg1 | with_reducible apply i_rg2 | ((with_reducible apply r_rg1); omega; omega)
  | ((with_reducible apply i_nneg); first | (with_reducible rfl) | omega) | ((with_reducible apply i_pos); first | (with_reducible rfl) | omega) | ((with_reducible apply i_neg); omega) | ((with_reducible apply i_npos); omega)
  | with_reducible apply i_itt | with_reducible apply i_nitt | with_reducible apply i_niff | with_reducible apply i_iff))
local macro_rules | `(tactic| walk_at "dn") => `(tactic| repeat (first
  | with_reducible apply i_seq | with_reducible apply i_asg | with_reducible apply i_gN | with_reducible apply i_if 
  | ((with_reducible apply i_next ); show DEnds.nx _ _ _) | with_reducible apply i_ret | with_reducible apply i_drop 
  | with_reducible apply i_par | with_reducible apply i_par2 | with_reducible apply i_par3 | with_reducible apply i_for 
  | with_reducible apply i_retN | with_reducible apply i_break | with_reducible apply i_cont | with_reducible apply i_gs0 | with_reducible apply i_gsC 
  | ((with_reducible apply i_gTt ); rfl) | with_reducible apply i_gSub | ((with_reducible apply i_aug); rfl)
  | ((with_reducible apply i_var); rfl) | with_reducible apply i_c | with_reducible apply i_cons | with_reducible apply i_nil 
  | with_reducible apply i_bin | with_reducible apply i_un | with_reducible apply i_cb | with_reducible apply i_tst | with_reducible apply i_tstB 
  | with_reducible apply i_call | with_reducible apply i_bm | with_reducible apply i_bm0 | with_reducible apply i_tyJoin 
  | with_reducible apply i_tup | with_reducible apply i_lst | with_reducible apply i_lstM | with_reducible apply i_not 
  | with_reducible apply i_andV | with_reducible apply i_orV | with_reducible apply i_notV | with_reducible apply i_chain 
  | with_reducible apply r_slice | with_reducible apply r_noPart | with_reducible apply r_part | with_reducible apply r_partI 
  | with_reducible apply i_rng1 | with_reducible apply i_seqI | with_reducible apply i_enum | with_reducible apply i_lc
  | with_reducible apply r_addI | with_reducible apply r_sub | with_reducible apply r_lt | with_reducible apply r_le | with_reducible apply r_gt | with_reducible apply r_ge 
  | ((with_reducible apply r_fdiv ); (omega); (omega))
  | with_reducible apply r_neg | with_reducible apply r_isB | with_reducible apply r_isNotB | with_reducible apply r_isN | with_reducible apply r_isNotN | with_reducible apply r_inS 
  | with_reducible apply r_eqI | with_reducible apply r_neI | with_reducible apply r_slT | with_reducible apply r_slL 
  | with_reducible apply r_lenT | with_reducible apply r_lenL | with_reducible apply r_tupL | with_reducible apply r_tupT | with_reducible apply r_lstL | with_reducible apply r_lstT | with_reducible apply r_lstScr 
  | with_reducible apply r_intI | with_reducible apply r_intB | with_reducible apply r_abs | with_reducible apply r_min2 | with_reducible apply r_max2 
  | with_reducible apply i_rng2 | with_reducible apply i_rng3 | with_reducible apply r_sqT | with_reducible apply r_sqL | with_reducible apply r_sqS | with_reducible apply r_enT | with_reducible apply r_enL | with_reducible apply r_enS
  | ((with_reducible apply i_sp); rfl) | ((with_reducible apply i_sz); exact Nat.le_of_ble_eq_true rfl)
  | ((with_reducible apply r_mod); omega) | ((with_reducible apply r_pow); omega; omega; first | omega | exact (by decide)) | ((with_reducible apply r_lenS); first | assumption | omega | exact Nat.le_of_ble_eq_true rfl | (simp <;> omega))
  | ((with_reducible apply r_rng1); omega; omega) | ((with_reducible apply r_rngU); omega; omega; omega; omega; omega; omega) | ((with_reducible apply r_rng2); omega; omega; omega; omega)
  | ((with_reducible apply r_addS); first | omega | exact Nat.le_of_ble_eq_true rfl | (simp <;> omega)) | ((with_reducible apply r_addT); first | omega | exact Nat.le_of_ble_eq_true rfl | (simp <;> omega)) | ((with_reducible apply r_addL); first | omega | exact Nat.le_of_ble_eq_true rfl | (simp <;> omega))
  | ((with_reducible apply r_mulL); omega; omega) | ((with_reducible apply r_mulR); omega; omega)
  | ((with_reducible apply r_slS); first | assumption | omega | exact Nat.le_of_ble_eq_true rfl | (simp <;> omega))
  | ((with_reducible apply r_isi); rfl; rfl) | with_reducible apply i_rev | with_reducible apply r_revT | with_reducible apply r_revL | with_reducible apply i_rg1 | with_reducible apply i_rg2 | ((with_reducible apply r_rg1); omega; omega)
  | ((with_reducible apply i_nneg); first | (with_reducible rfl) | omega) | ((with_reducible apply i_pos); first | (with_reducible rfl) | omega) | ((with_reducible apply i_neg); omega) | ((with_reducible apply i_npos); omega)
  | with_reducible apply i_itt | with_reducible apply i_nitt | with_reducible apply i_niff | with_reducible apply i_iff))
section
variable {S : Sto} {Q : DK} {E : XD}
theorem u_is_whole {d : D} {lo hi : Int} {b : Bool} (h : isWh d lo hi = some b) (q : Q (dB b) S) : sp_is_whole [d, dI lo, dI hi] S Q E := ⟨d, lo, hi, b, rfl, h, q⟩
theorem vc_is_whole (ds S Q E) (q : sp_is_whole ds S Q E) : t_is_whole (endsOf Q E) (dstart N_is_whole ds) S := by
  obtain ⟨d, lo, hi, b, rfl, h, q⟩ := q
  unfold t_is_whole
  cases d with
  | v x =>
    cases x <;> first | (cases h; done) | skip
    · cases h
      walk_at "d"
      exact Fin.of q
    · cases h
      walk_at "d"
      refine i_dec (fun h1 => ?_) fun h1 => ?_
      · walk_at "d"
        rw [show decide _ = _ from decide_eq_decide.mpr ⟨fun h => h.2, fun h => ⟨h1, h⟩⟩] at q
        exact Fin.of q
      · rw [decide_eq_false fun h => h1 h.1] at q
        exact Fin.of q
  | _ => cases h
theorem u_is_tuple_of {d : D} {lo hi : Int} {b : Bool} (h : isTu d lo hi = some b) (q : Q (dB b) S) : sp_is_tuple_of [d, dI lo, dI hi] S Q E := ⟨d, lo, hi, b, rfl, h, q⟩
theorem vc_is_tuple_of (ds S Q E) (q : sp_is_tuple_of ds S Q E) : t_is_tuple_of (endsOf Q E) (dstart N_is_tuple_of ds) S := by
  obtain ⟨d, lo, hi, b, rfl, h, q⟩ := q
  unfold t_is_tuple_of
  cases d with
  | v x =>
    cases x <;> first | (cases h; done) | skip
    · cases h
      walk_at "d"
      exact Fin.of q
  | tup l =>
    cases h
    walk_at "d"
    refine i_dec (fun h1 => ?_) fun h1 => ?_
    · walk_at "d"
      rw [show decide _ = _ from decide_eq_decide.mpr ⟨fun h => h.2, fun h => ⟨h1, h⟩⟩] at q
      exact Fin.of q
    · rw [decide_eq_false fun h => h1 h.1] at q
      exact Fin.of q
  | _ => cases h
theorem vc_fits_bits (ds S Q E) (q : sp_fits_bits ds S Q E) : t_fits_bits (endsOf Q E) (dstart N_fits_bits ds) S := by
  unfold t_fits_bits
  rcases q with ⟨l, rfl, hl, q⟩ | ⟨i, rfl, q⟩
  · walk_at "d"
    refine i_dec (fun h1 => ?_) fun h1 => ?_
    · walk_at "d"
      refine lc_map l (fun c => dS [c]) (fun c => dB (decide (c ∈ [48, 49]))) rfl trivial hl (fun c hc P p => ?_) ?_
      · walk_at "d"
        exact p
      · refine i_nil (r_all' (l.map fun c => decide (c ∈ [48, 49])) (by rw [List.map_map]; rfl) (Fin.of ?_))
        rw [decide_eq_true (show l.length ≤ 630000 by omega)] at q
        rw [List.all_map]; exact q
    · rw [decide_eq_false (show ¬ l.length ≤ 630000 by omega)] at q
      exact Fin.of q
  · walk_at "d"
    exact Fin.of q
end
section
variable {S : Sto} {Q : DK} {E : XD}
theorem vc_fits_octets (ds S Q E) (q : sp_fits_octets ds S Q E) : t_fits_octets (endsOf Q E) (dstart N_fits_octets ds) S := by
  unfold t_fits_octets
  rcases q with ⟨l, rfl, hl, hw, q⟩ | ⟨i, rfl, q⟩
  · walk_at "d"
    refine u_is_tuple_of rfl ?_
    walk_at "d"
    refine i_dec (fun h1 => ?_) fun h1 => ?_
    · walk_at "d"
      refine lc_map l id (fun d => dB ((isWh d 0 255).getD false)) (by rw [List.map_id]) trivial hl (fun c hc P p => ?_) ?_
      · walk_at "d"
        have h := hw c hc
        cases e : isWh c 0 255 with
        | none => rw [e] at h; cases h
        | some b =>
          rw [e] at p
          exact u_is_whole e p
      · refine i_nil (r_all' (l.map fun d => (isWh d 0 255).getD false) (by rw [List.map_map]; rfl) (Fin.of ?_))
        rw [decide_eq_true (show l.length ≤ 70000 by omega)] at q
        rw [List.all_map]; exact q
    · rw [decide_eq_false (show ¬ l.length ≤ 70000 by omega)] at q
      exact Fin.of q
  · walk_at "d"
    refine u_is_tuple_of rfl ?_
    walk_at "d"
    exact Fin.of q
theorem bits_fit {l : List Nat} (h : BitsL l) : (decide (l.length ≤ 630000) && allBits l) = true := by
  rw [decide_eq_true h.1, Bool.true_and]
  unfold allBits
  rw [List.all_eq_true]
  intro c hc
  rcases h.2 c hc with rfl | rfl <;> decide
theorem BitsL.le {l : List Nat} (h : BitsL l) : l.length ≤ 16777216 := Nat.le_trans h.1 (by decide)
theorem OctL.le {l : List Int} (h : OctL l) : (l.map dI).length ≤ 16777216 := by rw [List.length_map]; exact Nat.le_trans h.1 (by decide)
theorem u_fits_bits {l : List Nat} (h : BitsL l) (q : Q (dB true) S) : sp_fits_bits [dS l] S Q E := .inl ⟨l, rfl, h.le, by rw [bits_fit h]; exact q⟩
theorem octs_fit {l : List Int} (h : OctL l) : (decide ((l.map dI).length ≤ 70000) && allWh 0 255 (l.map dI)) = true := by
  rw [List.length_map, decide_eq_true h.1, Bool.true_and]
  unfold allWh
  rw [List.all_map, List.all_eq_true]
  intro c hc
  show decide (0 ≤ c ∧ c ≤ 255) = true
  exact decide_eq_true (h.2 c hc)
theorem octs_wh {l : List Int} : ∀ d ∈ l.map dI, (isWh d 0 255).isSome = true := by
  intro d hd
  obtain ⟨i, _, rfl⟩ := List.mem_map.mp hd
  rfl
theorem u_fits_octets {l : List Int} (h : OctL l) (q : Q (dB true) S) : sp_fits_octets [.tup (l.map dI)] S Q E := .inl ⟨_, rfl, h.le, octs_wh, by rw [octs_fit h]; exact q⟩
theorem vc_need_bits (ds S Q E) (q : sp_need_bits ds S Q E) : t_need_bits (endsOf Q E) (dstart N_need_bits ds) S := by
  obtain ⟨l, rfl, h, q⟩ := q
  unfold t_need_bits
  walk_at "d"
  refine u_fits_bits h ?_
  walk_at "d"
  exact i_finN q
theorem vc_need_octets (ds S Q E) (q : sp_need_octets ds S Q E) : t_need_octets (endsOf Q E) (dstart N_need_octets ds) S := by
  obtain ⟨l, rfl, h, q⟩ := q
  unfold t_need_octets
  walk_at "d"
  refine u_fits_octets h ?_
  walk_at "d"
  exact i_finN q
theorem u_need_bits {l : List Nat} (h : BitsL l) (q : Q dN S) : sp_need_bits [dS l] S Q E := ⟨l, rfl, h, q⟩
theorem u_need_octets {l : List Int} (h : OctL l) (q : Q dN S) : sp_need_octets [.tup (l.map dI)] S Q E := ⟨l, rfl, h, q⟩
theorem numOf_append (a b : List Nat) : numOf (a ++ b) = numOf a + 2 ^ a.length * numOf b := by
  induction a with
  | nil => simp [numOf]
  | cons c a ih =>
    show (if c = 49 then 1 else 0) + 2 * numOf (a ++ b) = (if c = 49 then 1 else 0) + 2 * numOf a + 2 ^ (a.length + 1) * numOf b
    rw [ih, Int.pow_succ, Int.mul_add, Int.add_assoc]
    congr 2
    rw [← Int.mul_assoc, Int.mul_comm 2]
theorem numOf_take {l : List Nat} {k c : Nat} (h : l[k]? = some c) : numOf (l.take (k + 1)) = numOf (l.take k) + (if c = 49 then 2 ^ k else 0) := by
  have h1 := (List.getElem?_eq_some_iff.mp h).1
  rw [List.take_succ, h, numOf_append, List.length_take, Nat.min_eq_left (by omega)]
  show _ + _ * ((if c = 49 then 1 else 0) + 2 * 0) = _
  split <;> simp
theorem bitsFor_snoc (n : Int) (k : Nat) : bitsFor n (k + 1) = bitsFor n k ++ [if n / 2 ^ k % 2 = 1 then 49 else 48] := by
  induction k generalizing n with
  | zero => simp [bitsFor]
  | succ k ih =>
    rw [bitsFor, ih, bitsFor, List.cons_append]
    congr 3
    rw [Int.ediv_ediv_of_nonneg (by decide), Int.pow_succ, Int.mul_comm]
theorem bitsFor_length (n : Int) (k : Nat) : (bitsFor n k).length = k := by
  induction k generalizing n with
  | zero => rfl
  | succ k ih => rw [bitsFor, List.length_cons, ih]
theorem r_eqC {c d : Nat} (h1 : c < 0x110000) (h2 : d < 0x110000) (h : Q (dB (decide (c = d))) S) : rEq (dS [c]) (dS [d]) S Q := by
  refine r_eqS (by simpa [cpOk] using h1) (by simpa [cpOk] using h2) ?_
  rw [show decide ([c] = [d]) = decide (c = d) from decide_eq_decide.mpr (by simp)]
  exact h
theorem BitsL.cp {l : List Nat} (h : BitsL l) {k c : Nat} (e : l[k]? = some c) : c < 0x110000 := by
  rcases h.2 c (List.mem_of_getElem? e) with rfl | rfl <;> omega
theorem vc_number_of (ds S Q E) (q : sp_number_of ds S Q E) : t_number_of (endsOf Q E) (dstart N_number_of ds) S := by
  obtain ⟨l, rfl, h, q⟩ := q
  unfold t_number_of
  walk_at "d"
  refine for_inv l (fun c => dS [c]) (fun k ρ S' => S' = S ∧ ∃ o, ρ = [some (dS l), some (dI (numOf (l.take k))), some (dI (2 ^ k)), o]) rfl ⟨rfl, _, rfl⟩ (fun _ _ _ _ => trivial) ?_ ?_
  · rintro ρ _ ⟨rfl, o, rfl⟩
    walk_at "d"
    rw [List.take_length]
    exact Fin.of q
  · rintro k c ρ _ hk ⟨rfl, o, rfl⟩
    walk_at "d"
    refine i_ifE ?_
    walk_at "d"
    refine r_eqC (h.cp hk) (by decide) ?_
    walk_at "d"
    refine i_dec (fun hc => ?_) fun hc => ?_
    · walk_at "d"
      exact Lax.of ⟨rfl, _, by rw [numOf_take hk, if_pos hc, Int.pow_succ, Int.mul_comm _ 2]; rfl⟩
    · walk_at "d"
      exact Lax.of ⟨rfl, _, by rw [numOf_take hk, if_neg hc, Int.pow_succ, Int.mul_comm _ 2]; rfl⟩
theorem u_number_of {l : List Nat} (h : BitsL l) (q : Q (dI (numOf l)) S) : sp_number_of [dS l] S Q E := ⟨l, rfl, h, q⟩
theorem vc_bits_for (ds S Q E) (q : sp_bits_for ds S Q E) : t_bits_for (endsOf Q E) (dstart N_bits_for ds) S := by
  obtain ⟨n, m, rfl, h, q⟩ := q
  unfold t_bits_for
  walk_at "d"
  refine for_inv (List.range m.toNat) (fun i : Nat => dI (0 + (i : Int) * 1)) (fun k ρ S' => S' = S ∧ ∃ o, ρ = [some (dI (n / 2 ^ k)), some (dI m), some (dS (bitsFor n k)), o]) rfl ⟨rfl, _, by rw [Int.pow_zero, Int.ediv_one]; rfl⟩ (fun _ _ _ _ => trivial) ?_ ?_
  · rintro ρ _ ⟨rfl, o, rfl⟩
    walk_at "d"
    rw [List.length_range]
    exact Fin.of q
  · rintro k c ρ _ hk ⟨rfl, o, rfl⟩
    have hk1 := (List.getElem?_eq_some_iff.mp hk).1
    rw [List.length_range] at hk1
    have hl := bitsFor_length n k
    have e2 : n / 2 ^ (k + 1) = n / 2 ^ k / 2 := by rw [Int.ediv_ediv_of_nonneg (Int.pow_nonneg (by decide)), Int.pow_succ]
    walk_at "d"
    refine i_ifE ?_
    walk_at "d"
    refine i_dec (fun hc => ?_) fun hc => ?_
    · walk_at "d"
      exact Lax.of ⟨rfl, _, by rw [bitsFor_snoc, if_pos hc, e2]; rfl⟩
    · walk_at "d"
      exact Lax.of ⟨rfl, _, by rw [bitsFor_snoc, if_neg hc, e2]; rfl⟩
theorem u_bits_for {n m : Int} (h : 0 ≤ m ∧ m ≤ 16777216) (q : Q (dS (bitsFor n m.toNat)) S) : sp_bits_for [dI n, dI m] S Q E := ⟨n, m, rfl, h, q⟩
end
section
variable {S : Sto} {Q : DK} {E : XD}
theorem sum_const (l : List (List Nat)) (n : Nat) (h : ∀ x ∈ l, x.length ≤ n) : (l.map List.length).sum ≤ l.length * n := by
  induction l with
  | nil => simp
  | cons x l ih =>
    rw [List.map_cons, List.sum_cons, List.length_cons, Nat.add_mul]
    have := h x (by simp)
    have := ih fun y hy => h y (by simp [hy])
    omega
theorem vc_spread (ds S Q E) (q : sp_spread ds S Q E) : t_spread (endsOf Q E) (dstart N_spread ds) S := by
  obtain ⟨l, rfl, h, q⟩ := q
  unfold t_spread
  walk_at "d"
  refine lc_map l dI (fun i => dS (bitsFor i 8)) rfl trivial (by have := h.1; omega) (fun c hc P p => ?_) ?_
  · walk_at "d"
    exact u_bits_for (by decide) p
  · walk_at "d"
    refine r_join' (l.map fun i => bitsFor i 8) (by rw [List.map_map]; rfl) ?_ ?_
    · have := sum_const (l.map fun i => bitsFor i 8) 8 (by intro x hx; obtain ⟨i, _, rfl⟩ := List.mem_map.mp hx; rw [bitsFor_length]; omega)
      have := h.1
      simp only [List.length_map, List.length_nil] at *
      omega
    · rw [joinN_nil]
      refine i_fin ?_
      rw [show spr l = (l.map fun i => bitsFor i 8).flatten from List.flatMap_def ..] at q
      exact q
theorem u_spread {l : List Int} (h : OctL l) (q : Q (dS (spr l)) S) : sp_spread [.tup (l.map dI)] S Q E := ⟨l, rfl, h, q⟩
theorem BitsL.sub {l : List Nat} (h : BitsL l) (a b : Nat) : BitsL ((l.take b).drop a) := ⟨by rw [List.length_drop, List.length_take]; have := h.1; omega, fun c hc => h.2 c (List.mem_of_mem_take (List.mem_of_mem_drop hc))⟩
theorem BitsL.sub' {l : List Nat} (h : BitsL l) (a b : Nat) : BitsL ((l.drop a).take b) := ⟨by rw [List.length_take, List.length_drop]; have := h.1; omega, fun c hc => h.2 c (List.mem_of_mem_drop (List.mem_of_mem_take hc))⟩
theorem take_drop (l : List Nat) (a b : Nat) : (l.take (a + b)).drop a = (l.drop a).take b := by
  rw [List.drop_take, Nat.add_sub_cancel_left]
theorem vc_gathered (ds S Q E) (q : sp_gathered ds S Q E) : t_gathered (endsOf Q E) (dstart N_gathered ds) S := by
  obtain ⟨l, rfl, h, q⟩ := q
  have hl := h.1
  unfold t_gathered
  walk_at "d"
  refine lc_map (List.range ((l.length - 0 + 8 - 1 : Int) / 8).toNat) (fun i : Nat => dI (0 + (i : Int) * 8)) (fun k => dI (numOf ((l.drop (8 * k)).take 8))) rfl trivial (by rw [List.length_range]; omega) (fun c hc P p => ?_) ?_
  · walk_at "d"
    rw [cut_ab (by omega) (by omega)]
    have e : (List.take (0 + (c : Int) * 8 + 8).toNat l).drop (0 + (c : Int) * 8).toNat = (l.drop (8 * c)).take 8 := by
      rw [show (0 + (c : Int) * 8).toNat = 8 * c by omega, show (0 + (c : Int) * 8 + 8).toNat = 8 * c + 8 by omega, take_drop]
    rw [e]
    exact u_number_of (h.sub' _ _) p
  · walk_at "d"
    refine i_fin ?_
    unfold gat at q
    rw [List.map_map, show (l.length + 7) / 8 = ((l.length - 0 + 8 - 1 : Int) / 8).toNat by omega] at q
    exact q
theorem u_gathered {l : List Nat} (h : BitsL l) (q : Q (.tup ((gat l).map dI)) S) : sp_gathered [dS l] S Q E := ⟨l, rfl, h, q⟩
theorem vc_power (ds S Q E) (q : sp_power ds S Q E) : t_power (endsOf Q E) (dstart N_power ds) S := by
  obtain ⟨m, rfl, h, q⟩ := q
  unfold t_power
  walk_at "d"
  refine for_inv (List.range m.toNat) (fun i : Nat => dI (0 + (i : Int) * 1)) (fun k ρ S' => S' = S ∧ ∃ o, ρ = [some (dI m), some (dI (2 ^ k)), o]) rfl ⟨rfl, _, rfl⟩ (fun _ _ _ _ => trivial) ?_ ?_
  · rintro ρ _ ⟨rfl, o, rfl⟩
    walk_at "d"
    rw [List.length_range]
    exact Fin.of q
  · rintro k c ρ _ hk ⟨rfl, o, rfl⟩
    walk_at "d"
    exact Lax.of ⟨rfl, _, by rw [Int.pow_succ, Int.mul_comm _ 2]; rfl⟩
theorem u_power {m : Int} (h : 0 ≤ m ∧ m ≤ 16777216) (q : Q (dI (2 ^ m.toNat)) S) : sp_power [dI m] S Q E := ⟨m, rfl, h, q⟩
theorem vc_are_bits (ds S Q E) (q : sp_are_bits ds S Q E) : t_are_bits (endsOf Q E) (dstart N_are_bits ds) S := by
  unfold t_are_bits
  rcases q with ⟨l, rfl, hl, q⟩ | ⟨i, rfl, q⟩
  · walk_at "d"
    exact .inl ⟨l, rfl, hl, Fin.of q⟩
  · walk_at "d"
    exact .inr ⟨i, rfl, Fin.of q⟩
theorem vc_are_octets (ds S Q E) (q : sp_are_octets ds S Q E) : t_are_octets (endsOf Q E) (dstart N_are_octets ds) S := by
  unfold t_are_octets
  rcases q with ⟨l, rfl, hl, hw, q⟩ | ⟨i, rfl, q⟩
  · walk_at "d"
    exact .inl ⟨l, rfl, hl, hw, Fin.of q⟩
  · walk_at "d"
    exact .inr ⟨i, rfl, Fin.of q⟩
theorem vc_bits_of (ds S Q E) (q : sp_bits_of ds S Q E) : t_bits_of (endsOf Q E) (dstart N_bits_of ds) S := by
  obtain ⟨l, rfl, h, q⟩ := q
  unfold t_bits_of
  walk_at "d"
  refine u_need_octets h ?_
  walk_at "d"
  exact u_spread h (Fin.of q)
theorem vc_octets_of (ds S Q E) (q : sp_octets_of ds S Q E) : t_octets_of (endsOf Q E) (dstart N_octets_of ds) S := by
  obtain ⟨l, rfl, h, q⟩ := q
  unfold t_octets_of
  walk_at "d"
  refine u_need_bits h ?_
  walk_at "d"
  exact u_gathered h (Fin.of q)
theorem u_isw {i lo hi : Int} (h : lo ≤ i ∧ i ≤ hi) (q : Q (dB true) S) : sp_is_whole [dI i, dI lo, dI hi] S Q E := ⟨_, lo, hi, true, rfl, by show some (decide _) = _; rw [decide_eq_true h], q⟩
theorem vc_number_at (ds S Q E) (q : sp_number_at ds S Q E) : t_number_at (endsOf Q E) (dstart N_number_at ds) S := by
  obtain ⟨l, a, m, rfl, h, ⟨h1, h2, h3⟩, q⟩ := q
  have hl := h.1
  unfold t_number_at
  walk_at "d"
  refine u_need_bits h ?_
  walk_at "d"
  refine u_isw (by omega) ?_
  walk_at "d"
  refine u_isw (by omega) ?_
  walk_at "d"
  rw [cut_ab (by omega) (by omega), show (a + m).toNat = a.toNat + m.toNat by omega, take_drop]
  exact u_number_of (h.sub' _ _) (Fin.of q)
theorem vc_with_number (ds S Q E) (q : sp_with_number ds S Q E) : t_with_number (endsOf Q E) (dstart N_with_number ds) S := by
  obtain ⟨n, m, rfl, ⟨h1, h2, h3, h4⟩, q⟩ := q
  unfold t_with_number
  walk_at "d"
  refine u_isw (by omega) ?_
  walk_at "d"
  refine u_power (by omega) ?_
  walk_at "d"
  refine u_isw ?_ ?_
  · rw [Int.min_eq_left (by omega)]; omega
  walk_at "d"
  exact u_bits_for (by omega) (Fin.of q)
theorem u_with_number {n m : Int} (h : 0 ≤ m ∧ m ≤ 64 ∧ 0 ≤ n ∧ n < 2 ^ m.toNat) (q : Q (dS (bitsFor n m.toNat)) S) : sp_with_number [dI n, dI m] S Q E := ⟨n, m, rfl, h, q⟩
theorem u_number_at {l : List Nat} {a m : Int} (h : BitsL l) (h2 : 0 ≤ a ∧ 0 ≤ m ∧ a + m ≤ l.length) (q : Q (dI (numOf ((l.drop a.toNat).take m.toNat))) S) : sp_number_at [dS l, dI a, dI m] S Q E := ⟨l, a, m, rfl, h, h2, q⟩
end
section
variable {S : Sto} {Q : DK} {E : XD}
theorem vc_law_cup (ds S Q E) (q : sp_law_cup ds S Q E) : t_law_cup (endsOf Q E) (dstart N_law_cup ds) S := by
  obtain ⟨ns, rfl, hl, q⟩ := q
  unfold t_law_cup
  have e : ∃ i : Int, atI (ns.map dI ++ [dI 0]) 0 = some (dI i) := by
    cases ns with
    | nil => exact ⟨0, rfl⟩
    | cons a l =>
      refine ⟨a, atI_nat (by decide) rfl⟩
  obtain ⟨i, e⟩ := e
  walk_at "d"
  refine r_ixL e ?_
  walk_at "d"
  generalize (if i < 0 then -i else i) = cell
  refine i_ifE ?_
  walk_at "d"
  refine i_dec (fun hc => ?_) fun hc => ?_
  · walk_at "d"
    intro p hp
    exact Fin.of (q p _ ⟨_, _, sup_same⟩)
  · walk_at "d"
    intro p hp
    exact Fin.of (q p _ ⟨_, _, sup_same⟩)
theorem vc_law_roll (ds S Q E) (q : sp_law_roll ds S Q E) : t_law_roll (endsOf Q E) (dstart N_law_roll ds) S := by
  obtain ⟨c, m, rfl, ⟨h1, h2⟩, ⟨a, b, hc⟩, q⟩ := q
  unfold t_law_roll
  walk_at "d"
  refine r_ixM hc rfl ?_
  walk_at "d"
  refine i_dec (fun ha => ?_) fun ha => ?_
  · walk_at "d"
    refine r_ixM hc rfl ?_
    walk_at "d"
    refine r_ixM hc rfl ?_
    walk_at "d"
    refine r_setL hc rfl ?_
    walk_at "d"
    exact Fin.of (q _ _ (Int.emod_nonneg _ (by omega)) (Int.emod_lt_of_pos _ h1) ⟨_, _, sup_same⟩)
  · walk_at "d"
    refine r_ixM hc rfl ?_
    walk_at "d"
    refine r_setL hc rfl ?_
    walk_at "d"
    have hb : 0 ≤ (b * 34807 + 9601) % 2147483399 ∧ (b * 34807 + 9601) % 2147483399 < 2147483399 := by omega
    generalize hb' : (b * 34807 + 9601) % 2147483399 = b' at hb
    have hc' : (sup S c (.lst ([dI a, dI b].set 1 (dI b')))) c = some (.lst [dI a, dI b']) := sup_same
    refine r_ixM hc' rfl ?_
    walk_at "d"
    refine r_ixM hc' rfl ?_
    walk_at "d"
    exact Fin.of (q _ _ (Int.emod_nonneg _ (by omega)) (Int.emod_lt_of_pos _ h1) ⟨_, _, hc'⟩)
theorem u_law_roll {c : Addr} {m : Int} (h : 0 < m ∧ m < 2 ^ 64) (hc : Cup S c) (q : ∀ r S', 0 ≤ r → r < m → Cup S' c → Q (dI r) S') : sp_law_roll [dR c, dI m] S Q E := ⟨c, m, rfl, h, hc, q⟩
theorem vc_law_some (ds S Q E) (q : sp_law_some ds S Q E) : t_law_some (endsOf Q E) (dstart N_law_some ds) S := by
  obtain ⟨c, l, rfl, ⟨h1, h2⟩, hc, q⟩ := q
  unfold t_law_some
  walk_at "d"
  refine u_law_roll (by omega) hc fun r S' h3 h4 hc' => ?_
  have hr : r.toNat < l.length := by omega
  refine r_ixL (d := l[r.toNat]) (atI_nat h3 (List.getElem?_eq_getElem hr)) ?_
  exact Fin.of (q _ (List.getElem_mem hr) _ hc')
theorem u_law_some {c : Addr} {l : List D} (h : 0 < l.length ∧ l.length ≤ 16777216) (hc : Cup S c) (q : ∀ d ∈ l, ∀ S', Cup S' c → Q d S') : sp_law_some [dR c, .lst l] S Q E := ⟨c, l, rfl, h, hc, q⟩
theorem vc_law_power (ds S Q E) (q : sp_law_power ds S Q E) : t_law_power (endsOf Q E) (dstart N_law_power ds) S := by
  obtain ⟨m, rfl, h, q⟩ := q
  unfold t_law_power
  walk_at "d"
  refine for_inv (List.range m.toNat) (fun i : Nat => dI (0 + (i : Int) * 1)) (fun k ρ S' => S' = S ∧ ∃ o, ρ = [some (dI m), some (dI (2 ^ k)), o]) rfl ⟨rfl, _, rfl⟩ (fun _ _ _ _ => trivial) ?_ ?_
  · rintro ρ _ ⟨rfl, o, rfl⟩
    walk_at "d"
    rw [List.length_range]
    exact Fin.of q
  · rintro k c ρ _ hk ⟨rfl, o, rfl⟩
    walk_at "d"
    exact Lax.of ⟨rfl, _, by rw [Int.pow_succ, Int.mul_comm _ 2]; rfl⟩
theorem numOf_sum (l : List Nat) (n : Nat) : (((l.zipIdx n).filter fun p => decide (p.1 = 49)).map (fun p => (2 : Int) ^ p.2)).sum = 2 ^ n * numOf l := by
  induction l generalizing n with
  | nil => simp [numOf]
  | cons c l ih =>
    rw [List.zipIdx_cons, numOf, Int.mul_add, ← Int.mul_assoc, ← Int.pow_succ]
    by_cases h : c = 49
    · rw [List.filter_cons_of_pos (by simpa using h), List.map_cons, List.sum_cons, ih, if_pos h, Int.mul_one]
    · rw [List.filter_cons_of_neg (by simpa using h), ih, if_neg h, Int.mul_zero, Int.zero_add]
theorem vc_law_sum (ds S Q E) (q : sp_law_sum ds S Q E) : t_law_sum (endsOf Q E) (dstart N_law_sum ds) S := by
  obtain ⟨l, rfl, h, q⟩ := q
  unfold t_law_sum
  walk_at "d"
  refine lc_filter l.zipIdx (fun p => .tup [dI p.2, dS [p.1]]) (fun p => dI (2 ^ p.2)) (fun p => decide (p.1 = 49)) (enum_map l _) trivial (by rw [List.length_zipIdx]; exact h.le) (fun p hp P R p1 p2 => ?_) ?_
  · obtain ⟨c, n⟩ := p
    have hn := List.mem_zipIdx hp
    have hcp : c < 0x110000 := by
      rcases h.2 c (by rw [hn.2.2]; exact List.getElem_mem _) with rfl | rfl <;> omega
    have hl := h.1
    walk_at "d"
    refine r_eqC hcp (by decide) ?_
    walk_at "d"
    refine i_dec (fun hc => ?_) fun hc => ?_
    · walk_at "d"
      refine u_power (by omega) ?_
      rw [Int.toNat_natCast]
      exact p1 (decide_eq_true hc)
    · exact p2 (decide_eq_false hc)
  · refine i_nil (r_sum' ((l.zipIdx.filter fun p => decide (p.1 = 49)).map fun p => 2 ^ p.2) (by rw [List.map_map]; rfl) (Fin.of ?_))
    rw [numOf_sum, Int.pow_zero, Int.one_mul]
    exact q
end
theorem bitsFor_take (n : Int) (m k : Nat) (h : m ≤ k) : (bitsFor n k).take m = bitsFor n m := by
  induction m generalizing n k with
  | zero => rfl
  | succ m ih =>
    cases k with
    | zero => omega
    | succ k => rw [bitsFor, bitsFor, List.take_succ_cons, ih _ _ (by omega)]
theorem bitsFor_mem (n : Int) (k : Nat) : ∀ c ∈ bitsFor n k, c = 48 ∨ c = 49 := by
  induction k generalizing n with
  | zero => intro c h; cases h
  | succ k ih =>
    intro c h
    rw [bitsFor] at h
    rcases List.mem_cons.mp h with h | h
    · subst h; split <;> simp
    · exact ih _ c h
theorem numOf_bitsFor (n : Int) (k : Nat) : numOf (bitsFor n k) = n % 2 ^ k := by
  induction k generalizing n with
  | zero => simp [bitsFor, numOf, Int.emod_one]
  | succ k ih =>
    rw [bitsFor, numOf, ih]
    have hp : (0 : Int) < 2 ^ k := Int.pow_pos (by decide)
    have e1 : n % 2 ^ (k + 1) = n % 2 + 2 * (n / 2 % 2 ^ k) := by
      rw [Int.pow_succ, Int.mul_comm, Int.emod_def n, Int.emod_def (n / 2), ← Int.ediv_ediv_of_nonneg (by decide), Int.emod_def n 2, Int.mul_sub, Int.mul_assoc]
      omega
    rw [e1]
    have : n % 2 = 0 ∨ n % 2 = 1 := by omega
    rcases this with h | h <;> simp [h]
theorem numOf_bound (l : List Nat) : 0 ≤ numOf l ∧ numOf l < 2 ^ l.length := by
  induction l with
  | nil => exact ⟨by decide, by decide⟩
  | cons c l ih =>
    rw [numOf, List.length_cons, Int.pow_succ]
    split <;> omega
theorem bitsFor_numOf (l : List Nat) (h : ∀ c ∈ l, c = 48 ∨ c = 49) : bitsFor (numOf l) l.length = l := by
  induction l with
  | nil => rfl
  | cons c l ih =>
    rw [List.length_cons, bitsFor, numOf]
    have hc := h c (by simp)
    have e2 : ((if c = 49 then 1 else 0) + 2 * numOf l) / 2 = numOf l := by split <;> omega
    rw [e2, ih fun d hd => h d (by simp [hd])]
    congr 1
    rcases hc with rfl | rfl
    · rw [if_neg (by rw [if_neg (by decide)]; omega)]
    · rw [if_pos (by rw [if_pos rfl]; omega)]
theorem gat_nil : gat [] = [] := rfl
theorem gat_cons (s : List Nat) (h : s ≠ []) : gat s = numOf (s.take 8) :: gat (s.drop 8) := by
  have hl : 0 < s.length := List.length_pos_iff.mpr h
  unfold gat
  rw [show (s.length + 7) / 8 = ((s.drop 8).length + 7) / 8 + 1 by rw [List.length_drop]; omega, List.range_succ_eq_map, List.map_cons, List.map_map]
  congr 1
  apply List.map_congr_left
  intro k _
  show numOf ((s.drop (8 * (k + 1))).take 8) = numOf (((s.drop 8).drop (8 * k)).take 8)
  rw [List.drop_drop, show 8 * (k + 1) = 8 + 8 * k by omega]
theorem spr_cons (i : Int) (l : List Int) : spr (i :: l) = bitsFor i 8 ++ spr l := rfl
theorem spr_append (l m : List Int) : spr (l ++ m) = spr l ++ spr m := by unfold spr; rw [List.flatMap_append]
theorem spr_length (l : List Int) : (spr l).length = 8 * l.length := by
  induction l with
  | nil => rfl
  | cons i l ih => rw [spr_cons, List.length_append, bitsFor_length, ih, List.length_cons]; omega
theorem spr_bits {l : List Int} (h : OctL l) : BitsL (spr l) := by
  refine ⟨by rw [spr_length]; have := h.1; omega, fun c hc => ?_⟩
  obtain ⟨i, _, hi⟩ := List.mem_flatMap.mp hc
  exact bitsFor_mem _ _ c hi
theorem take_app8 (i : Int) (t : List Nat) : (bitsFor i 8 ++ t).take 8 = bitsFor i 8 := by
  rw [List.take_append_of_le_length (by rw [bitsFor_length]; omega), bitsFor_take _ _ _ (by omega)]
theorem drop_app8 (i : Int) (t : List Nat) : (bitsFor i 8 ++ t).drop 8 = t := by
  rw [List.drop_append_of_le_length (by rw [bitsFor_length]; omega), List.drop_eq_nil_of_le (by rw [bitsFor_length]; omega), List.nil_append]
theorem app8_ne (i : Int) (t : List Nat) : bitsFor i 8 ++ t ≠ [] := by
  intro e
  have := congrArg List.length e
  rw [List.length_append, bitsFor_length] at this
  simp at this
theorem OctL.tail {i : Int} {l : List Int} (h : OctL (i :: l)) : OctL l := ⟨by have := h.1; rw [List.length_cons] at this; omega, fun j hj => h.2 j (by simp [hj])⟩
theorem gat_spr (l : List Int) (h : OctL l) : gat (spr l) = l := by
  induction l with
  | nil => rfl
  | cons i l ih =>
    rw [spr_cons, gat_cons _ (app8_ne _ _), take_app8, drop_app8, ih h.tail, numOf_bitsFor]
    have := h.2 i (by simp)
    congr 1
    omega
theorem spr_drop (l : List Int) (k : Nat) : (spr l).drop (8 * k) = spr (l.drop k) := by
  induction k generalizing l with
  | zero => rfl
  | succ k ih =>
    cases l with
    | nil => simp [spr]
    | cons i l => rw [List.drop_succ_cons, ← ih, spr_cons, show 8 * (k + 1) = 8 + 8 * k by omega, ← List.drop_drop, drop_app8]
theorem spr_at {l : List Int} {k : Nat} {i : Int} (h : l[k]? = some i) : ((spr l).drop (8 * k)).take 8 = bitsFor i 8 := by
  rw [spr_drop]
  obtain ⟨h1, h2⟩ := List.getElem?_eq_some_iff.mp h
  rw [List.drop_eq_getElem_cons h1, h2, spr_cons, take_app8]
def flipB (c : Nat) : Nat := if c = 48 then 49 else 48
theorem bitsFor_range (n : Int) (k : Nat) : bitsFor n k = (List.range k).map fun by' => if n / 2 ^ by' % 2 = 1 then 49 else 48 := by
  induction k with
  | zero => rfl
  | succ k ih => rw [bitsFor_snoc, ih, List.range_succ, List.map_append]; rfl
theorem flip_oct : ∀ i : _root_.Fin 256, bitsFor (255 - (i.1 : Int)) 8 = (bitsFor i.1 8).map flipB := by decide +kernel
theorem spr_flip (l : List Int) (h : OctL l) : spr (l.map fun i => 255 - i) = (spr l).map flipB := by
  induction l with
  | nil => rfl
  | cons i l ih =>
    rw [List.map_cons, spr_cons, spr_cons, List.map_append, ih h.tail]
    congr 1
    have hi := h.2 i (by simp)
    have := flip_oct ⟨i.toNat, by omega⟩
    rw [show ((⟨i.toNat, by omega⟩ : _root_.Fin 256).1 : Int) = i from Int.toNat_of_nonneg hi.1] at this
    exact this
theorem spr_rev (l : List Int) : spr l.reverse = ((List.range l.length).map fun k => ((spr l).drop (8 * (l.length - 1 - k))).take 8).flatten := by
  have e : l.reverse = (List.range l.length).map fun k => l.getD (l.length - 1 - k) 0 := by
    apply List.ext_getElem?
    intro k
    by_cases h : k < l.length
    · rw [List.getElem?_reverse h, List.getElem?_map, List.getElem?_range h]
      show _ = some (l.getD _ 0)
      rw [List.getD_eq_getElem?_getD, List.getElem?_eq_getElem (by omega)]
      rfl
    · rw [List.getElem?_eq_none (by simp; omega), List.getElem?_eq_none (by simp; omega)]
  rw [e]
  unfold spr
  rw [List.flatMap_map, List.flatMap_def]
  congr 1
  apply List.map_congr_left
  intro k hk
  have hk := List.mem_range.mp hk
  have e2 : l[l.length - 1 - k]? = some (l.getD (l.length - 1 - k) 0) := by
    rw [List.getD_eq_getElem?_getD, List.getElem?_eq_getElem (by omega)]; rfl
  exact (spr_at e2).symm
theorem gat_take (l : List Int) (m : Nat) (hm : m ≤ 8 * l.length) (h : OctL l) : gat ((spr l).take m) = l.take (m / 8) ++ (if 0 < m % 8 then [l.getD (m / 8) 0 % 2 ^ (m % 8)] else []) := by
  induction l generalizing m with
  | nil =>
    have : m = 0 := by simpa using hm
    subst this; rfl
  | cons i l ih =>
    by_cases h8 : 8 ≤ m
    · rw [spr_cons, gat_cons _ (by intro e; have := congrArg List.length e; rw [List.length_take, List.length_append, bitsFor_length] at this; simp at this; omega)]
      rw [List.take_take, Nat.min_eq_left h8, take_app8, List.drop_take, drop_app8, ih (m - 8) (by rw [List.length_cons] at hm; omega) h.tail, numOf_bitsFor]
      rw [show m / 8 = (m - 8) / 8 + 1 by omega, List.take_succ_cons, List.getD_cons_succ, show m % 8 = (m - 8) % 8 by omega]
      have := h.2 i (by simp)
      rw [List.cons_append]
      congr 1
      omega
    · by_cases h0 : m = 0
      · subst h0; simp [gat_nil]
      · rw [spr_cons, List.take_append_of_le_length (by rw [bitsFor_length]; omega), bitsFor_take _ _ _ (by omega)]
        rw [gat_cons _ (by intro e; have := congrArg List.length e; rw [bitsFor_length] at this; simp at this; omega)]
        rw [List.take_of_length_le (by rw [bitsFor_length]; omega), List.drop_eq_nil_of_le (by rw [bitsFor_length]; omega), gat_nil, numOf_bitsFor, show m / 8 = 0 by omega, show m % 8 = m by omega, if_pos (by omega)]
        rfl
theorem numOf_zeros (z : Nat) : numOf (List.replicate z 48) = 0 := by
  induction z with
  | zero => rfl
  | succ z ih => rw [List.replicate_succ, numOf, ih]; rfl
theorem gat_zeros (n : Nat) : ∀ (s : List Nat) (z : Nat), s.length ≤ n → 0 < s.length % 8 → s.length % 8 + z ≤ 8 → gat (s ++ List.replicate z 48) = gat s := by
  induction n with
  | zero => intro s z h1 h2; omega
  | succ n ih =>
    intro s z h1 h2 h3
    have hs : s ≠ [] := by intro e; subst e; simp at h2
    rw [gat_cons s hs, gat_cons _ (by simp [hs])]
    by_cases h8 : 8 ≤ s.length
    · rw [List.take_append_of_le_length h8, List.drop_append_of_le_length h8]
      by_cases he : s.drop 8 = []
      · have := congrArg List.length he
        rw [List.length_drop] at this
        simp at this
        omega
      · rw [ih (s.drop 8) z (by rw [List.length_drop]; omega) (by rw [List.length_drop]; omega) (by rw [List.length_drop]; omega)]
    · have hz : (s ++ List.replicate z 48).length ≤ 8 := by rw [List.length_append, List.length_replicate]; omega
      have hs8 : s.length ≤ 8 := by omega
      rw [List.take_of_length_le hz, List.drop_eq_nil_of_le hz, List.take_of_length_le hs8, List.drop_eq_nil_of_le hs8, numOf_append, numOf_zeros, Int.mul_zero, Int.add_zero]
theorem numOf_spr (l : List Int) (n : Nat) (h : OctL l) : ((l.zipIdx n).map fun p => p.1 * 2 ^ (8 * p.2)).sum = 2 ^ (8 * n) * numOf (spr l) := by
  induction l generalizing n with
  | nil => simp [numOf, spr]
  | cons i l ih =>
    rw [List.zipIdx_cons, List.map_cons, List.sum_cons, ih _ h.tail, spr_cons, numOf_append, bitsFor_length, numOf_bitsFor, Int.mul_add]
    have := h.2 i (by simp)
    rw [show i % 2 ^ 8 = i by omega, Int.mul_comm i, show 8 * (n + 1) = 8 * n + 8 by omega, Int.pow_add, Int.mul_assoc]
section
variable {S : Sto} {Q : DK} {E : XD}
theorem BitsL.cpk {l : List Nat} (h : BitsL l) : cpOk l = true := cp_of (n := 0x110000) (Nat.le_refl _) fun c hc => by rcases h.2 c hc with rfl | rfl <;> omega
theorem str01 (i : Int) (h : i = 0 ∨ i = 1) : V.str (toString i) = V.str ⟨#[if i = 1 then 49 else 48]⟩ := by
  rcases h with rfl | rfl <;> rfl
theorem bits_mk (l : List Nat) (h1 : l.length ≤ 630000) (h2 : ∀ c ∈ l, c = 48 ∨ c = 49) : BitsL l := ⟨h1, h2⟩
theorem vc_law_octets_right (ds S Q E) (q : sp_law_octets_right ds S Q E) : t_law_octets_right (endsOf Q E) (dstart N_law_octets_right ds) S := by
  obtain ⟨l, rfl, h, q⟩ := q
  have hb := spr_bits h
  have hbl := hb.le
  have hlen := spr_length l
  have h70 := h.1
  have ml : (l.map dI).length = l.length := List.length_map ..
  unfold t_law_octets_right
  walk_at "d"
  refine u_spread h ?_
  walk_at "d"
  refine u_fits_octets h ?_
  walk_at "d"
  refine u_fits_bits hb ?_
  walk_at "d"
  refine u_gathered hb ?_
  walk_at "d"
  refine r_neSame (by rw [gat_spr l h]) (vw_tupI l) ?_
  walk_at "d"
  refine for_inv l.zipIdx (fun p => .tup [dI p.2, dI p.1]) (fun k ρ S' => S' = S ∧ ∃ x y, ρ = [some (.tup (l.map dI)), some (dS (spr l)), x, y, none, none, none, none]) (enum_map l dI) ⟨rfl, _, _, rfl⟩ (fun _ _ _ _ => trivial) ?_ ?_
  · rintro ρ _ ⟨rfl, x, y, rfl⟩
    walk_at "d"
    refine lc_map l dI (fun i => dI (255 - i)) rfl trivial (by omega) (fun i hi P p => ?_) ?_
    · walk_at "d"
      exact p
    walk_at "d"
    have ho : OctL (l.map fun i => 255 - i) := ⟨by rw [List.length_map]; exact h.1, fun i hi => by
      obtain ⟨j, hj, rfl⟩ := List.mem_map.mp hi
      have := h.2 j hj
      omega⟩
    rw [show l.map (fun i => dI (255 - i)) = (l.map fun i => 255 - i).map dI by rw [List.map_map]; rfl]
    refine u_spread ho ?_
    walk_at "d"
    refine lc_map (spr l) (fun c => dS [c]) (fun c => dS [flipB c]) rfl trivial hbl (fun c hc P p => ?_) ?_
    · walk_at "d"
      refine i_ifE ?_
      walk_at "d"
      refine r_eqC (by rcases hb.2 c hc with rfl | rfl <;> omega) (by decide) ?_
      walk_at "d"
      unfold flipB at p
      refine i_dec (fun hc => ?_) fun hc => ?_
      · walk_at "d"
        rw [if_pos hc] at p; exact p
      · walk_at "d"
        rw [if_neg hc] at p; exact p
    walk_at "d"
    have fl : ∀ m : List Nat, (m.map fun c => [flipB c]).flatten = m.map flipB := fun m => by
      induction m with
      | nil => rfl
      | cons c m ih => rw [List.map_cons, List.flatten_cons, ih]; rfl
    have sm : ∀ m : List Nat, ((m.map fun c => [flipB c]).map List.length).sum = m.length := fun m => by
      induction m with
      | nil => rfl
      | cons c m ih => rw [List.map_cons, List.map_cons, List.sum_cons, ih]; show 1 + m.length = m.length + 1; omega
    refine r_join' ((spr l).map fun c => [flipB c]) (by rw [List.map_map]; rfl) (by rw [sm]; simp only [List.length_nil, Nat.mul_zero]; omega) ?_
    rw [joinN_nil, fl]
    refine r_neSame (by rw [spr_flip l h]) ?_ ?_
    · refine vw_str (cp_of (n := 50) (by decide) fun c hc => ?_)
      obtain ⟨d, _, rfl⟩ := List.mem_map.mp hc
      unfold flipB
      split <;> decide
    walk_at "d"
    have hr : OctL l.reverse := ⟨by rw [List.length_reverse]; exact h.1, fun i hi => h.2 i (List.mem_reverse.mp hi)⟩
    rw [← List.map_reverse]
    refine u_spread hr ?_
    walk_at "d"
    refine r_rngD (by omega) (by omega) (by omega) (by omega) (by omega) (by omega) ?_
    rw [show (((spr l).length - 8 - -8 + 8 - 1 : Int) / 8).toNat = l.length by rw [hlen]; omega]
    refine lc_map (List.range l.length) (fun k : Nat => dI ((spr l).length - 8 + (k : Int) * -8)) (fun k => dS (((spr l).drop (8 * (l.length - 1 - k))).take 8)) rfl trivial (by rw [List.length_range]; omega) (fun k hk P p => ?_) ?_
    · have hk := List.mem_range.mp hk
      walk_at "d"
      rw [cut_ab (by omega) (by omega), show ((spr l).length - 8 + (k : Int) * -8 + 8).toNat = 8 * (l.length - 1 - k) + 8 by omega, show ((spr l).length - 8 + (k : Int) * -8).toNat = 8 * (l.length - 1 - k) by omega, take_drop]
      exact p
    walk_at "d"
    refine r_join' ((List.range l.length).map fun k => ((spr l).drop (8 * (l.length - 1 - k))).take 8) (by rw [List.map_map]; rfl) ?_ ?_
    · have := sum_const ((List.range l.length).map fun k => ((spr l).drop (8 * (l.length - 1 - k))).take 8) 8 (by intro x hx; obtain ⟨i, _, rfl⟩ := List.mem_map.mp hx; rw [List.length_take]; omega)
      simp only [List.length_map, List.length_nil, List.length_range] at *
      omega
    rw [joinN_nil]
    refine r_eqSame (by rw [spr_rev]) ?_ (Fin.of q)
    rw [← spr_rev]
    exact vw_str (spr_bits hr).cpk
  · rintro k ⟨i, n⟩ ρ _ hk ⟨rfl, x, y, rfl⟩
    have hk' : l[n]? = some i ∧ n < l.length := by
      rw [List.getElem?_zipIdx] at hk
      cases hl : l[k]? with
      | none => rw [hl] at hk; cases hk
      | some j =>
        rw [hl] at hk
        have := Option.some.inj hk
        have e1 := congrArg Prod.fst this
        have e2 := congrArg Prod.snd this
        simp only [Nat.zero_add] at e1 e2
        subst e1 e2
        exact ⟨hl, (List.getElem?_eq_some_iff.mp hl).1⟩
    have hi := h.2 i (List.mem_of_getElem? hk'.1)
    have hc8 : (List.take (8 * (n : Int) + 8).toNat (spr l)).drop (8 * (n : Int)).toNat = bitsFor i 8 := by
      rw [show (8 * (n : Int) + 8).toNat = 8 * n + 8 by omega, show (8 * (n : Int)).toNat = 8 * n by omega, take_drop, spr_at hk'.1]
    walk_at "d"
    rw [cut_ab (by omega) (by omega), hc8]
    refine lc_map (List.range 8) (fun i : Nat => dI (0 + (i : Int) * 1)) (fun k => dS [if i / 2 ^ k % 2 = 1 then 49 else 48]) rfl trivial (by decide) (fun c hc P p => ?_) ?_
    · have hc := List.mem_range.mp hc
      have ps := pow_small (show c < 64 by omega)
      walk_at "d"
      refine u_power (by omega) ?_
      rw [show (0 + (c : Int) * 1).toNat = c by omega]
      refine r_fdiv ps.1 ps.2 ?_
      walk_at "d"
      refine r_str ?_ ?_
      · have : i / 2 ^ c % 2 = 0 ∨ i / 2 ^ c % 2 = 1 := by omega
        rcases this with e | e <;> rw [e] <;> decide
      rw [str01 _ (by omega)]
      exact p
    walk_at "d"
    refine r_join' ((List.range 8).map fun k => [if i / 2 ^ k % 2 = 1 then 49 else 48]) (by rw [List.map_map]; rfl) (by show 8 + 0 ≤ _; omega) ?_
    rw [joinN_nil]
    refine r_neSame (by rw [bitsFor_range]; rfl) (vw_str (cp_of (n := 50) (by decide) fun c hc => ?_)) ?_
    · rw [show ((List.range 8).map fun k => [if i / 2 ^ k % 2 = 1 then 49 else 48]).flatten = bitsFor i 8 by rw [bitsFor_range]; rfl] at hc
      rcases bitsFor_mem _ _ c hc with rfl | rfl <;> decide
    walk_at "d"
    refine u_number_at hb (by omega) ?_
    rw [show (8 * (n : Int)).toNat = 8 * n by omega, show (8 : Int).toNat = 8 from rfl, spr_at hk'.1, numOf_bitsFor]
    walk_at "d"
    exact Lax.of ⟨rfl, _, _, rfl⟩
theorem u_law_octets_right {l : List Int} (h : OctL l) (q : Q (dB true) S) : sp_law_octets_right [.tup (l.map dI)] S Q E := ⟨l, rfl, h, q⟩
end
section
variable {S : Sto} {Q : DK} {E : XD}
theorem cut_map {α β : Type} (f : α → β) (l : List α) (a b : Option Int) : cutL (l.map f) a b = (cutL l a b).map f := by
  unfold cutL
  rw [List.length_map, List.map_take, List.map_drop]
theorem BitsL.take {l : List Nat} (h : BitsL l) (b : Nat) : BitsL (l.take b) := ⟨by rw [List.length_take]; have := h.1; omega, fun c hc => h.2 c (List.mem_of_mem_take hc)⟩
theorem OctL.take {l : List Int} (h : OctL l) (b : Nat) : OctL (l.take b) := ⟨by rw [List.length_take]; have := h.1; omega, fun c hc => h.2 c (List.mem_of_mem_take hc)⟩
theorem BitsL.app {l m : List Nat} (h : BitsL l) (k : BitsL m) (hl : l.length + m.length ≤ 630000) : BitsL (l ++ m) := ⟨by rw [List.length_append]; exact hl, fun c hc => (List.mem_append.mp hc).elim (h.2 c) (k.2 c)⟩
theorem numOf_split (l : List Nat) (a f w : Nat) (hf : f ≤ w) (ha : a + w ≤ l.length) : numOf ((l.drop a).take w) = numOf ((l.drop a).take f) + 2 ^ f * numOf ((l.drop (a + f)).take (w - f)) := by
  have e : (l.drop a).take w = (l.drop a).take f ++ (l.drop (a + f)).take (w - f) := by
    rw [← List.drop_drop, show (List.drop a l).take w = (List.drop a l).take (f + (w - f)) by rw [Nat.add_sub_cancel' hf], List.take_add]
  rw [e, numOf_append, List.length_take, List.length_drop, Nat.min_eq_left (by omega)]
theorem slice_len {l : List Nat} {a w : Nat} (h : a + w ≤ l.length) : ((l.drop a).take w).length = w := by rw [List.length_take, List.length_drop]; omega
theorem slice_back {l : List Nat} {a w : Nat} (hb : BitsL l) (h : a + w ≤ l.length) : bitsFor (numOf ((l.drop a).take w)) w = (l.drop a).take w := by
  have := bitsFor_numOf ((l.drop a).take w) (hb.sub' a w).2
  rwa [slice_len h] at this
theorem slice_num {l : List Nat} {a w : Nat} (h : a + w ≤ l.length) : 0 ≤ numOf ((l.drop a).take w) ∧ numOf ((l.drop a).take w) < 2 ^ w := by
  have := numOf_bound ((l.drop a).take w)
  rwa [slice_len h] at this
theorem vc_law_cut_right (ds S Q E) (q : sp_law_cut_right ds S Q E) : t_law_cut_right (endsOf Q E) (dstart N_law_cut_right ds) S := by
  obtain ⟨cp, l, rfl, h, hc, q⟩ := q
  have hb := spr_bits h
  have hbl := hb.le
  have hlen := spr_length l
  have h70 := h.1
  have ml : (l.map dI).length = l.length := List.length_map ..
  unfold t_law_cut_right
  walk_at "d"
  refine u_spread h ?_
  walk_at "d"
  refine u_law_roll (by omega) hc fun m S1 m0 m1 hc1 => ?_
  walk_at "d"
  rw [cut_b m0]
  refine u_gathered (hb.take _) ?_
  walk_at "d"
  rw [cut_b (by omega)]
  rw [gat_take l m.toNat (by omega) h]
  have hte : (l.map dI).take (m / 8).toNat ++ (if 0 < m.toNat % 8 then [l.getD (m.toNat / 8) 0 % 2 ^ (m.toNat % 8)] else []).map dI = ((l.take (m.toNat / 8) ++ if 0 < m.toNat % 8 then [l.getD (m.toNat / 8) 0 % 2 ^ (m.toNat % 8)] else []).map dI) := by
    rw [List.map_append, List.map_take, show (m / 8).toNat = m.toNat / 8 by omega]
  refine i_val (d := .tup ((if 0 < m.toNat % 8 then [l.getD (m.toNat / 8) 0 % 2 ^ (m.toNat % 8)] else []).map dI)) (fun Q' q' => ?_) ?_
  · refine i_ifE ?_
    walk_at "d"
    refine i_dec (fun hm => ?_) fun hm => ?_
    · have hw : m.toNat / 8 < l.length := by omega
      walk_at "d"
      refine r_ixT (d := dI (l.getD (m.toNat / 8) 0)) (atI_nat (by omega) ?_) ?_
      · rw [show (m / 8).toNat = m.toNat / 8 by omega, List.getElem?_map, List.getD_eq_getElem?_getD, List.getElem?_eq_getElem hw]; rfl
      walk_at "d"
      refine u_power (by omega) ?_
      refine r_mod (Int.pow_pos (by decide)) ?_
      walk_at "d"
      rw [if_pos (by omega), show m.toNat % 8 = (m % 8).toNat by omega] at q'
      exact q'
    · walk_at "d"
      rw [if_neg (by omega)] at q'
      exact q'
  refine r_addT ?_ ?_
  · simp only [List.length_map, List.length_take]
    split <;> simp <;> omega
  rw [hte]
  refine r_neSame rfl (vw_tupI _) ?_
  walk_at "dn"
  refine i_cutT (fun b S' => b = false ∧ Cup S' cp) (fun Q' q' => ?_) ?_
  · walk_at "d"
    refine i_dec (fun hm => ?_) fun hm => ?_
    · walk_at "d"
      rw [cut_b m0]
      walk_at "d"
      refine u_law_roll (by omega) hc1 fun z S2 z0 z1 hc2 => ?_
      refine r_mulS1 z0 (by omega) ?_
      have tl := (hb.take m.toNat).1
      refine r_addS (by rw [List.length_replicate]; omega) ?_
      walk_at "d"
      have hz : BitsL (List.replicate z.toNat 48) := ⟨by rw [List.length_replicate]; omega, fun c hc => .inl (List.eq_of_mem_replicate hc)⟩
      refine u_gathered ((hb.take _).app hz (by rw [List.length_replicate, List.length_take]; omega)) ?_
      walk_at "d"
      rw [cut_b m0]
      refine u_gathered (hb.take _) ?_
      rw [gat_zeros _ _ _ (Nat.le_refl _) (by rw [List.length_take]; omega) (by rw [List.length_take]; omega)]
      refine r_neSame rfl (vw_tupI _) ?_
      walk_at "d"
      exact q' _ _ ⟨rfl, hc2⟩
    · exact q' _ _ ⟨rfl, hc1⟩
  rintro _ S2 ⟨rfl, hc2⟩
  walk_at "d"
  refine for_inv (List.range 6) (fun i : Nat => dI (0 + (i : Int) * 1)) (fun k ρ S' => Cup S' cp ∧ ∃ x6 x7 x8 x9 x10 x11 x12, ρ = [some (dR cp), some (.tup (l.map dI)), some (dS (spr l)), some (dI m), some (dI (m / 8)), some (dI (m % 8)), x6, x7, x8, x9, x10, x11, x12, none, none]) rfl ⟨hc2, _, _, _, _, _, _, _, rfl⟩ (fun _ _ _ _ => trivial) ?_ ?_
  · rintro ρ S3 ⟨hc3, _, _, _, _, _, _, _, rfl⟩
    walk_at "d"
    refine u_number_at hb (by omega) ?_
    walk_at "d"
    refine lc_map l.zipIdx (fun p => .tup [dI p.2, dI p.1]) (fun p => dI (p.1 * 2 ^ (8 * p.2))) (enum_map l dI) trivial (by rw [List.length_zipIdx]; omega) (fun p hp P p1 => ?_) ?_
    · obtain ⟨i, n⟩ := p
      have hn := List.mem_zipIdx hp
      have hi := h.2 i (by rw [hn.2.2]; exact List.getElem_mem _)
      walk_at "d"
      refine u_power (by omega) ?_
      walk_at "d"
      rw [show (8 * (n : Int)).toNat = 8 * n by omega]
      exact p1
    walk_at "d"
    refine r_sum' (l.zipIdx.map fun p => p.1 * 2 ^ (8 * p.2)) (by rw [List.map_map]; rfl) ?_
    rw [numOf_spr l 0 h]
    walk_at "d"
    rw [decide_eq_true]
    · exact Fin.of (q _ hc3)
    · rw [Nat.mul_zero, Int.pow_zero, Int.one_mul, Int.toNat_natCast, show (0 : Int).toNat = 0 from rfl, List.drop_zero, List.take_length]
  · rintro k i ρ S3 hk ⟨hc3, _, _, _, _, _, _, _, rfl⟩
    walk_at "d"
    refine u_law_roll (by omega) hc3 fun b S4 b0 b1 hc4 => ?_
    walk_at "d"
    refine u_law_roll (by omega) hc4 fun w S5 w0 w1 hc5 => ?_
    walk_at "d"
    refine u_law_roll (by omega) hc5 fun f S6 f0 f1 hc6 => ?_
    have hbw : b.toNat + w.toNat ≤ (spr l).length := by omega
    have hbf : b.toNat + f.toNat ≤ (spr l).length := by omega
    have hbr : b.toNat + f.toNat + (w.toNat - f.toNat) ≤ (spr l).length := by omega
    have hfw : f.toNat ≤ w.toNat := by omega
    have n1 := slice_num hbw
    have n2 := slice_num hbf
    have n3 := slice_num hbr
    walk_at "d"
    refine u_number_at hb (by omega) ?_
    walk_at "d"
    refine u_number_at hb (by omega) ?_
    walk_at "d"
    refine u_number_at hb (by omega) ?_
    walk_at "d"
    rw [cut_ab (by omega) (by omega), show (b + w).toNat = b.toNat + w.toNat by omega, take_drop]
    refine u_number_of (hb.sub' _ _) ?_
    walk_at "d"
    refine u_power (by omega) ?_
    walk_at "d"
    rw [show (w - f).toNat = w.toNat - f.toNat by omega, show (b + f).toNat = b.toNat + f.toNat by omega]
    refine r_mulP (pow_lt (m := 65) (by omega)) n3 (by omega) ?_
    walk_at "d"
    refine i_nneg (numOf_split _ _ _ _ hfw hbw) ?_
    walk_at "d"
    refine u_with_number ⟨by omega, by omega, n1⟩ ?_
    walk_at "d"
    rw [cut_ab (by omega) (by omega), show (b + w).toNat = b.toNat + w.toNat by omega, take_drop, slice_back hb hbw]
    refine r_neSame rfl (vw_str (hb.sub' _ _).cpk) ?_
    walk_at "d"
    refine u_with_number ⟨by omega, by omega, n2⟩ ?_
    walk_at "d"
    refine u_with_number ⟨by omega, by omega, by rw [show (w - f).toNat = w.toNat - f.toNat by omega]; exact n3⟩ ?_
    rw [show (w - f).toNat = w.toNat - f.toNat by omega, slice_back hb hbf, slice_back hb hbr]
    refine r_addS (by rw [slice_len hbf, slice_len hbr]; omega) ?_
    walk_at "d"
    refine u_with_number ⟨by omega, by omega, n1⟩ ?_
    rw [slice_back hb hbw]
    refine r_neSame ?_ (vw_str (hb.sub' _ _).cpk) ?_
    · have e : (List.drop b.toNat (spr l)).take w.toNat = (List.drop b.toNat (spr l)).take f.toNat ++ ((spr l).drop (b.toNat + f.toNat)).take (w.toNat - f.toNat) := by
        rw [← List.drop_drop, show (List.drop b.toNat (spr l)).take w.toNat = (List.drop b.toNat (spr l)).take (f.toNat + (w.toNat - f.toNat)) by rw [Nat.add_sub_cancel' hfw], List.take_add]
      rw [e]
    walk_at "d"
    exact Lax.of ⟨hc6, _, _, _, _, _, _, _, rfl⟩
theorem u_law_cut_right {c : Addr} {l : List Int} (h : OctL l) (hc : Cup S c) (q : ∀ S', Cup S' c → Q (dB true) S') : sp_law_cut_right [dR c, .tup (l.map dI)] S Q E := ⟨c, l, rfl, h, hc, q⟩
end
section
variable {S : Sto} {Q : DK} {E : XD}
theorem All2.ints {l : List Nat} {ds : List D} (h : All2 (fun _ d => ∃ i : Int, d = dI i ∧ 0 ≤ i ∧ i ≤ 255) l ds) : ∃ m : List Int, ds = m.map dI ∧ m.length = l.length ∧ ∀ i ∈ m, 0 ≤ i ∧ i ≤ 255 := by
  induction h with
  | nil => exact ⟨[], rfl, rfl, by simp⟩
  | cons r _ ih =>
    obtain ⟨i, rfl, hi⟩ := r
    obtain ⟨m, rfl, h1, h2⟩ := ih
    exact ⟨i :: m, rfl, by simp [h1], fun j hj => by
      rcases List.mem_cons.mp hj with rfl | hj
      · exact hi
      · exact h2 j hj⟩
theorem rng_ints (n : Nat) : rangeD 0 1 n = ((List.range n).map fun k : Nat => (k : Int)).map dI := by
  unfold rangeD
  rw [List.map_map]
  apply List.map_congr_left
  intro k _
  show dI (0 + (k : Int) * 1) = dI k
  rw [Int.mul_one, Int.zero_add]
theorem vc_law (ds S Q E) (q : sp_law ds S Q E) : t_law (endsOf Q E) (dstart N_law ds) S := by
  obtain ⟨ns, rfl, hl, q⟩ := q
  unfold t_law
  walk_at "d"
  refine ⟨ns, rfl, hl, fun cp S1 hc => ?_⟩
  walk_at "d"
  refine u_spread (l := [1, 128, 6]) ⟨by decide, by decide⟩ ?_
  walk_at "d"
  refine u_gathered (l := [49]) ⟨by decide, by decide⟩ ?_
  walk_at "d"
  refine u_gathered (l := [48, 48, 48, 48, 48, 48, 48, 49, 49]) ⟨by decide, by decide⟩ ?_
  walk_at "d"
  refine u_number_at (l := [48, 49, 49, 48]) ⟨by decide, by decide⟩ (by decide) ?_
  walk_at "d"
  refine u_with_number (by decide) ?_
  walk_at "d"
  refine u_with_number (by decide) ?_
  walk_at "d"
  refine u_with_number (by decide) ?_
  walk_at "d"
  refine u_number_at (l := []) ⟨by decide, by decide⟩ (by decide) ?_
  walk_at "d"
  refine u_gathered (l := []) ⟨by decide, by decide⟩ ?_
  walk_at "d"
  refine .inl ⟨[48, 97], rfl, by decide, ?_⟩
  walk_at "d"
  refine .inl ⟨[dI 0, dI 256], rfl, (by show 2 ≤ _; omega), (by intro d hd; rcases List.mem_cons.mp hd with rfl | hd; rfl; rcases List.mem_cons.mp hd with rfl | hd; rfl; cases hd), ?_⟩
  walk_at "d"
  refine .inl ⟨[dB true], rfl, (by show 1 ≤ _; omega), (by intro d hd; rcases List.mem_cons.mp hd with rfl | hd; rfl; cases hd), ?_⟩
  walk_at "d"
  refine .inr ⟨10, rfl, ?_⟩
  walk_at "d"
  refine r_mulS1 (by decide) (by decide) ?_
  walk_at "d"
  refine r_neSame ?_ (vw_tup (by decide +kernel)) ?_
  · rw [show spr [1, 128, 6] = [49, 48, 48, 48, 48, 48, 48, 48, 48, 48, 48, 48, 48, 48, 48, 49, 48, 49, 49, 48, 48, 48, 48, 48] by decide +kernel, show gat [49] = [1] by decide +kernel, show gat [48, 48, 48, 48, 48, 48, 48, 49, 49] = [128, 1] by decide +kernel,
      show numOf (List.take (Int.toNat 2) (List.drop (Int.toNat 1) [48, 49, 49, 48])) = 3 by decide +kernel, show bitsFor 5 (Int.toNat 4) = [49, 48, 49, 48] by decide +kernel, show bitsFor 0 (Int.toNat 0) = [] by decide +kernel,
      show bitsFor (2 ^ Int.toNat 64 - 1) (Int.toNat 64) = List.replicate (Int.toNat 64) 49 by decide +kernel]
    rfl
  walk_at "d"
  rw [rng_ints]
  refine u_law_octets_right ⟨by decide +kernel, by decide +kernel⟩ ?_
  walk_at "d"
  refine u_law_octets_right (l := []) ⟨by decide, by decide⟩ ?_
  walk_at "d"
  refine u_law_octets_right (l := [255, 0, 1, 128]) ⟨by decide, by decide⟩ ?_
  walk_at "d"
  refine u_law_cut_right (l := [170, 85, 1]) ⟨by decide, by decide⟩ hc fun S2 hc2 => ?_
  walk_at "d"
  refine for_inv [1, 2, 9, 40] dI (fun k ρ S' => Cup S' cp ∧ ∃ x0 x2 x3 x4, ρ = [x0, some (dR cp), x2, x3, x4, none]) rfl ⟨hc2, _, _, _, _, rfl⟩ (fun _ _ _ _ => trivial) ?_ ?_
  · rintro ρ S3 ⟨hc3, _, _, _, _, rfl⟩
    walk_at "d"
    exact Fin.of (q _)
  · rintro k i ρ S3 hk ⟨hc3, _, _, _, _, rfl⟩
    have hi : 0 < i ∧ i ≤ 40 := by
      have := List.mem_of_getElem? hk
      simp only [List.mem_cons, List.not_mem_nil, or_false] at this
      omega
    walk_at "d"
    refine lc_rel (List.range i.toNat) (fun i : Nat => dI (0 + (i : Int) * 1)) (fun S' => Cup S' cp) (fun _ d => ∃ i : Int, d = dI i ∧ 0 ≤ i ∧ i ≤ 255) rfl (fun _ _ => trivial) hc3 (by rw [List.length_range]; omega) (fun a ha S4 hc4 P p => ?_) fun ds S4 hd hc4 => ?_
    · walk_at "d"
      refine u_law_roll (by omega) hc4 fun r S5 r0 r1 hc5 => ?_
      walk_at "d"
      refine u_law_some ⟨by show 0 < 4; omega, by show 4 ≤ _; omega⟩ hc5 fun d hd S6 hc6 => p d S6 ?_ hc6
      simp only [List.mem_cons, List.not_mem_nil, or_false] at hd
      rcases hd with rfl | rfl | rfl | rfl
      · exact ⟨_, rfl, by omega, by omega⟩
      · exact ⟨_, rfl, by omega, by omega⟩
      · exact ⟨_, rfl, by omega, by omega⟩
      · exact ⟨_, rfl, by omega, by omega⟩
    obtain ⟨m, rfl, h1, h2⟩ := hd.ints
    rw [List.length_range] at h1
    have hm : OctL m := ⟨by omega, h2⟩
    have hm1 : OctL (m.take 1) := hm.take 1
    have hmm : OctL (m ++ m.take 1) := ⟨by rw [List.length_append, List.length_take]; omega, fun i hi => (List.mem_append.mp hi).elim (h2 i) (hm1.2 i)⟩
    walk_at "d"
    refine u_law_octets_right hm ?_
    walk_at "d"
    refine u_law_cut_right hm hc4 fun S5 hc5 => ?_
    walk_at "d"
    rw [cut_map, cut_b (by decide), show (1 : Int).toNat = 1 from rfl]
    refine r_addT (by simp only [List.length_map, List.length_take]; omega) ?_
    rw [← List.map_append]
    walk_at "d"
    refine u_spread hmm ?_
    walk_at "d"
    refine u_spread hm ?_
    walk_at "d"
    rw [cut_map, cut_b (by decide), show (1 : Int).toNat = 1 from rfl]
    refine u_spread hm1 ?_
    refine r_addS (by rw [spr_length, spr_length, List.length_take]; omega) ?_
    rw [← spr_append]
    refine r_neSame rfl (vw_str (spr_bits hmm).cpk) ?_
    walk_at "d"
    exact Lax.of ⟨hc5, _, _, _, _, rfl⟩
end
def topS (i : Nat) : Stmt := PySem.Challenge.pw_tightstreams_k00_whole_bits_by_powers.main.body.getD i (.Pass ⟨0, 0, 0, 0⟩)
structure TopM (K : PySem.W.Frag) (mg : Mg) : Prop where
  m_abs : mg "abs" = none
  m_all : mg "all" = none
  m_bool : mg "bool" = none
  m_enumerate : mg "enumerate" = none
  m_int : mg "int" = none
  m_isinstance : mg "isinstance" = none
  m_len : mg "len" = none
  m_list : mg "list" = none
  m_min : mg "min" = none
  m_range : mg "range" = none
  m_str : mg "str" = none
  m_sum : mg "sum" = none
  m_tuple : mg "tuple" = none
  k_BITS : ∃ t, mg "BITS" = some (.int (630000) t)
  k_OCTETS : ∃ t, mg "OCTETS" = some (.int (70000) t)
section
variable {P : Program} {w : World} {K : PySem.W.Frag} {mg : Mg} {base : Heap}
abbrev s_is_whole : Stmt := topS 8
theorem sc_is_whole : FnScope N_is_whole ["value", "low", "high"] (defScope s_is_whole) := ⟨rfl, rfl, rfl, by decide +kernel, rfl, by decide +kernel, by decide +kernel⟩
theorem d_is_whole {f : Addr} (T : TopM K mg)  (cdv : Value) (A : Around) (outer : List Env) (s : Shared) (H : Hp) (E : XK) (hr : Room 0 (A.deeper (envOfC "is_whole" (defScope s_is_whole) s.heap.objs.size f cdv))) :
    DSs (cxOf (L2.CX P w) P w K mg base N_is_whole "is_whole" (defScope s_is_whole) f cdv A outer s H E) (fun cls d _ H => E cls d H) (defBody s_is_whole) t_is_whole := by

  have nd := sc_is_whole.nd
  have hp : Pas (cxOf (L2.CX P w) P w K mg base N_is_whole "is_whole" (defScope s_is_whole) f cdv A outer s H E) (fun cls d _ H => E cls d H) := pas_of (takes_of rfl rfl rfl rfl)
  exact dss_one (ds_ret (de_and (de_callB cl_isi (by rfl) T.m_isinstance (by decide +kernel) (da_cons (de_var (pv 0)) (da_cons (de_ty (by rfl) T.m_int (by decide +kernel)) (da_nil)))) (de_and (de_not (de_callB cl_isi (by rfl) T.m_isinstance (by decide +kernel) (da_cons (de_var (pv 0)) (da_cons (de_ty (by rfl) T.m_bool (by decide +kernel)) (da_nil))))) (de_one (de_chain op_leD op_leD (de_var (pv 1)) (de_var (pv 0)) (de_var (pv 2)))))))
abbrev s_is_tuple_of : Stmt := topS 9
theorem sc_is_tuple_of : FnScope N_is_tuple_of ["value", "low", "high"] (defScope s_is_tuple_of) := ⟨rfl, rfl, rfl, by decide +kernel, rfl, by decide +kernel, by decide +kernel⟩
theorem d_is_tuple_of {f : Addr} (T : TopM K mg)  (cdv : Value) (A : Around) (outer : List Env) (s : Shared) (H : Hp) (E : XK) (hr : Room 0 (A.deeper (envOfC "is_tuple_of" (defScope s_is_tuple_of) s.heap.objs.size f cdv))) :
    DSs (cxOf (L2.CX P w) P w K mg base N_is_tuple_of "is_tuple_of" (defScope s_is_tuple_of) f cdv A outer s H E) (fun cls d _ H => E cls d H) (defBody s_is_tuple_of) t_is_tuple_of := by

  have nd := sc_is_tuple_of.nd
  have hp : Pas (cxOf (L2.CX P w) P w K mg base N_is_tuple_of "is_tuple_of" (defScope s_is_tuple_of) f cdv A outer s H E) (fun cls d _ H => E cls d H) := pas_of (takes_of rfl rfl rfl rfl)
  exact dss_one (ds_ret (de_and (de_callB cl_isi (by rfl) T.m_isinstance (by decide +kernel) (da_cons (de_var (pv 0)) (da_cons (de_ty (by rfl) T.m_tuple (by decide +kernel)) (da_nil)))) (de_one (de_chain op_leD op_leD (de_var (pv 1)) (de_callB cl_len (by rfl) T.m_len (by decide +kernel) (da_cons (de_var (pv 0)) (da_nil))) (de_var (pv 2))))))
abbrev s_fits_bits : Stmt := topS 10
theorem sc_fits_bits : FnScope N_fits_bits ["value"] (defScope s_fits_bits) := ⟨rfl, rfl, rfl, by decide +kernel, rfl, by decide +kernel, by decide +kernel⟩
theorem d_fits_bits {f : Addr} (T : TopM K mg)  (cdv : Value) (A : Around) (outer : List Env) (s : Shared) (H : Hp) (E : XK) (hr : Room 0 (A.deeper (envOfC "fits_bits" (defScope s_fits_bits) s.heap.objs.size f cdv))) :
    DSs (cxOf (L2.CX P w) P w K mg base N_fits_bits "fits_bits" (defScope s_fits_bits) f cdv A outer s H E) (fun cls d _ H => E cls d H) (defBody s_fits_bits) t_fits_bits := by
  obtain ⟨k_BITS, hc_BITS⟩ := T.k_BITS
  have nd := sc_fits_bits.nd
  have hp : Pas (cxOf (L2.CX P w) P w K mg base N_fits_bits "fits_bits" (defScope s_fits_bits) f cdv A outer s H E) (fun cls d _ H => E cls d H) := pas_of (takes_of rfl rfl rfl rfl)
  exact dss_one (ds_ret (de_and (de_callB cl_isi (by rfl) T.m_isinstance (by decide +kernel) (da_cons (de_var (pv 0)) (da_cons (de_ty (by rfl) T.m_str (by decide +kernel)) (da_nil)))) (de_and (de_cmp op_leD (de_callB cl_len (by rfl) T.m_len (by decide +kernel) (da_cons (de_var (pv 0)) (da_nil))) (de_glob (v := .int (630000)) (by rfl) hc_BITS ⟨_, rfl⟩) (nomark _)) (de_one (de_callB (cl_all rfl) (by rfl) T.m_all (by decide +kernel) (da_cons (de_lc (own := [("sign", 1)]) (is := [1]) rfl nd (di_seq (de_var (pv 0))) (blkOk_by (show blkC N_fits_bits (defScope s_fits_bits) _ _ = true from by decide +kernel)) (fun _ _ _ _ _ => dg_name (i := 1) nd rfl (by first | exact Or.inl rfl | exact Or.inr rfl)) (fun _ _ _ _ _ => dpts_nil) (fun _ _ _ _ _ => de_cmp op_inSD (de_var (pv 1)) (de_str (l := [48, 49]) (by decide +kernel)) rfl) (by decide)) (da_nil)))))))
abbrev s_fits_octets : Stmt := topS 11
theorem sc_fits_octets : FnScope N_fits_octets ["value"] (defScope s_fits_octets) := ⟨rfl, rfl, rfl, by decide +kernel, rfl, by decide +kernel, by decide +kernel⟩
theorem d_fits_octets {f : Addr} (T : TopM K mg) (C_is_tuple_of : Cal P w K mg base "is_tuple_of" 3 1 sp_is_tuple_of) (C_is_whole : Cal P w K mg base "is_whole" 3 1 sp_is_whole) (cdv : Value) (A : Around) (outer : List Env) (s : Shared) (H : Hp) (E : XK) (hr : Room 1 (A.deeper (envOfC "fits_octets" (defScope s_fits_octets) s.heap.objs.size f cdv))) :
    DSs (cxOf (L2.CX P w) P w K mg base N_fits_octets "fits_octets" (defScope s_fits_octets) f cdv A outer s H E) (fun cls d _ H => E cls d H) (defBody s_fits_octets) t_fits_octets := by
  obtain ⟨k_OCTETS, hc_OCTETS⟩ := T.k_OCTETS
  have nd := sc_fits_octets.nd
  have hp : Pas (cxOf (L2.CX P w) P w K mg base N_fits_octets "fits_octets" (defScope s_fits_octets) f cdv A outer s H E) (fun cls d _ H => E cls d H) := pas_of (takes_of rfl rfl rfl rfl)
  exact dss_one (ds_ret (de_and (de_call C_is_tuple_of (hr.mono (by decide)) hp (by rfl) (da_cons (de_var (pv 0)) (da_cons (de_v pe_int) (da_cons (de_glob (v := .int (70000)) (by rfl) hc_OCTETS ⟨_, rfl⟩) (da_nil))))) (de_one (de_callB (cl_all rfl) (by rfl) T.m_all (by decide +kernel) (da_cons (de_lc (own := [("one", 1)]) (is := [1]) rfl nd (di_seq (de_var (pv 0))) (blkOk_by (show blkC N_fits_octets (defScope s_fits_octets) _ _ = true from by decide +kernel)) (fun _ _ _ _ _ => dg_name (i := 1) nd rfl (by first | exact Or.inl rfl | exact Or.inr rfl)) (fun _ _ _ _ _ => dpts_nil) (fun _ _ _ _ _ => de_call C_is_whole (hr.mono (by decide)) pas0 (by rfl) (da_cons (de_var (pv 1)) (da_cons (de_v pe_int) (da_cons (de_v pe_int) (da_nil))))) (by decide)) (da_nil))))))
abbrev s_need_bits : Stmt := topS 12
theorem sc_need_bits : FnScope N_need_bits ["bits"] (defScope s_need_bits) := ⟨rfl, rfl, rfl, by decide +kernel, rfl, by decide +kernel, by decide +kernel⟩
theorem d_need_bits {f : Addr} (T : TopM K mg) (C_fits_bits : Cal P w K mg base "fits_bits" 1 1 sp_fits_bits) (cdv : Value) (A : Around) (outer : List Env) (s : Shared) (H : Hp) (E : XK) (hr : Room 1 (A.deeper (envOfC "need_bits" (defScope s_need_bits) s.heap.objs.size f cdv))) :
    DSs (cxOf (L2.CX P w) P w K mg base N_need_bits "need_bits" (defScope s_need_bits) f cdv A outer s H E) (fun cls d _ H => E cls d H) (defBody s_need_bits) t_need_bits := by

  have nd := sc_need_bits.nd
  have hp : Pas (cxOf (L2.CX P w) P w K mg base N_need_bits "need_bits" (defScope s_need_bits) f cdv A outer s H E) (fun cls d _ H => E cls d H) := pas_of (takes_of rfl rfl rfl rfl)
  exact dss_one (ds_if (dt_not (dt_val (de_call C_fits_bits (hr.mono (by decide)) hp (by rfl) (da_cons (de_var (pv 0)) (da_nil))))) (dss_one (ds_never)) (dss_nil))
abbrev s_need_octets : Stmt := topS 13
theorem sc_need_octets : FnScope N_need_octets ["octets"] (defScope s_need_octets) := ⟨rfl, rfl, rfl, by decide +kernel, rfl, by decide +kernel, by decide +kernel⟩
theorem d_need_octets {f : Addr} (T : TopM K mg) (C_fits_octets : Cal P w K mg base "fits_octets" 1 2 sp_fits_octets) (cdv : Value) (A : Around) (outer : List Env) (s : Shared) (H : Hp) (E : XK) (hr : Room 2 (A.deeper (envOfC "need_octets" (defScope s_need_octets) s.heap.objs.size f cdv))) :
    DSs (cxOf (L2.CX P w) P w K mg base N_need_octets "need_octets" (defScope s_need_octets) f cdv A outer s H E) (fun cls d _ H => E cls d H) (defBody s_need_octets) t_need_octets := by

  have nd := sc_need_octets.nd
  have hp : Pas (cxOf (L2.CX P w) P w K mg base N_need_octets "need_octets" (defScope s_need_octets) f cdv A outer s H E) (fun cls d _ H => E cls d H) := pas_of (takes_of rfl rfl rfl rfl)
  exact dss_one (ds_if (dt_not (dt_val (de_call C_fits_octets (hr.mono (by decide)) hp (by rfl) (da_cons (de_var (pv 0)) (da_nil))))) (dss_one (ds_never)) (dss_nil))
abbrev s_number_of : Stmt := topS 14
theorem sc_number_of : FnScope N_number_of ["bits"] (defScope s_number_of) := ⟨rfl, rfl, rfl, by decide +kernel, rfl, by decide +kernel, by decide +kernel⟩
theorem d_number_of {f : Addr} (T : TopM K mg)  (cdv : Value) (A : Around) (outer : List Env) (s : Shared) (H : Hp) (E : XK) (hr : Room 0 (A.deeper (envOfC "number_of" (defScope s_number_of) s.heap.objs.size f cdv))) :
    DSs (cxOf (L2.CX P w) P w K mg base N_number_of "number_of" (defScope s_number_of) f cdv A outer s H E) (fun cls d _ H => E cls d H) (defBody s_number_of) t_number_of := by

  have nd := sc_number_of.nd
  have hp : Pas (cxOf (L2.CX P w) P w K mg base N_number_of "number_of" (defScope s_number_of) f cdv A outer s H E) (fun cls d _ H => E cls d H) := pas_of (takes_of rfl rfl rfl rfl)
  exact dss_cons (ds_asg (de_tup (da_cons (de_v pe_int) (da_cons (de_v pe_int) (da_nil)))) (dg_tup rfl (dgs_cons (dg_name (i := 1) nd rfl (by first | exact Or.inl rfl | exact Or.inr rfl)) (dgs_cons (dg_name (i := 2) nd rfl (by first | exact Or.inl rfl | exact Or.inr rfl)) (dgs_nil (is := []))))))
    (dss_cons (ds_for (passes_of rfl) rfl (di_seq (de_var (pv 0))) (dg_name (i := 3) nd rfl (by first | exact Or.inl rfl | exact Or.inr rfl)) (dss_one (ds_par (i := 1) (j := 2) rfl nd rfl rfl (by decide) rfl rfl (da_cons (de_bin op_addD (de_var (pv 1)) (de_ifE (dt_cmp (op_eqE hr.units) (de_var (pv 3)) (de_str (l := [49]) (by decide +kernel)) (nomark _)) (de_var (pv 2)) (de_v pe_int))) (da_cons (de_bin op_mulA (de_v pe_int) (de_var (pv 2))) (da_nil))) (by rfl))))
    (dss_one (ds_ret (de_var (pv 1)))))
abbrev s_bits_for : Stmt := topS 15
theorem sc_bits_for : FnScope N_bits_for ["number", "many"] (defScope s_bits_for) := ⟨rfl, rfl, rfl, by decide +kernel, rfl, by decide +kernel, by decide +kernel⟩
theorem d_bits_for {f : Addr} (T : TopM K mg)  (cdv : Value) (A : Around) (outer : List Env) (s : Shared) (H : Hp) (E : XK) (hr : Room 0 (A.deeper (envOfC "bits_for" (defScope s_bits_for) s.heap.objs.size f cdv))) :
    DSs (cxOf (L2.CX P w) P w K mg base N_bits_for "bits_for" (defScope s_bits_for) f cdv A outer s H E) (fun cls d _ H => E cls d H) (defBody s_bits_for) t_bits_for := by

  have nd := sc_bits_for.nd
  have hp : Pas (cxOf (L2.CX P w) P w K mg base N_bits_for "bits_for" (defScope s_bits_for) f cdv A outer s H E) (fun cls d _ H => E cls d H) := pas_of (takes_of rfl rfl rfl rfl)
  exact dss_cons (ds_set (i := 2) nd rfl (by first | exact Or.inl rfl | exact Or.inr rfl) (de_str (l := []) (by decide +kernel)))
    (dss_cons (ds_for (passes_of rfl) rfl (di_range1 (by rfl) T.m_range (da_cons (de_var (pv 1)) (da_nil))) (dg_name (i := 3) nd rfl (by first | exact Or.inl rfl | exact Or.inr rfl)) (dss_one (ds_par (i := 2) (j := 0) rfl nd rfl rfl (by decide) rfl rfl (da_cons (de_bin op_addD (de_var (pv 2)) (de_ifE (dt_cmp (op_eqE hr.units) (de_bin op_modD (de_var (pv 0)) (de_v pe_int)) (de_v pe_int) (nomark _)) (de_str (l := [49]) (by decide +kernel)) (de_str (l := [48]) (by decide +kernel)))) (da_cons (de_bin op_fdivD (de_var (pv 0)) (de_v pe_int)) (da_nil))) (by rfl))))
    (dss_one (ds_ret (de_var (pv 2)))))
abbrev s_spread : Stmt := topS 16
theorem sc_spread : FnScope N_spread ["octets"] (defScope s_spread) := ⟨rfl, rfl, rfl, by decide +kernel, rfl, by decide +kernel, by decide +kernel⟩
theorem d_spread {f : Addr} (T : TopM K mg) (C_bits_for : Cal P w K mg base "bits_for" 2 1 sp_bits_for) (cdv : Value) (A : Around) (outer : List Env) (s : Shared) (H : Hp) (E : XK) (hr : Room 1 (A.deeper (envOfC "spread" (defScope s_spread) s.heap.objs.size f cdv))) :
    DSs (cxOf (L2.CX P w) P w K mg base N_spread "spread" (defScope s_spread) f cdv A outer s H E) (fun cls d _ H => E cls d H) (defBody s_spread) t_spread := by

  have nd := sc_spread.nd
  have hp : Pas (cxOf (L2.CX P w) P w K mg base N_spread "spread" (defScope s_spread) f cdv A outer s H E) (fun cls d _ H => E cls d H) := pas_of (takes_of rfl rfl rfl rfl)
  exact dss_one (ds_ret (de_bm (.inl rfl) PySem.F.plainAttrs_str PySem.F.slot_str_join PySem.F.type_str_join mt_joinD (de_str (l := []) (by decide +kernel)) (da_cons (de_lc (own := [("one", 1)]) (is := [1]) rfl nd (di_seq (de_var (pv 0))) (blkOk_by (show blkC N_spread (defScope s_spread) _ _ = true from by decide +kernel)) (fun _ _ _ _ _ => dg_name (i := 1) nd rfl (by first | exact Or.inl rfl | exact Or.inr rfl)) (fun _ _ _ _ _ => dpts_nil) (fun _ _ _ _ _ => de_call C_bits_for (hr.mono (by decide)) pas0 (by rfl) (da_cons (de_var (pv 1)) (da_cons (de_v pe_int) (da_nil)))) (by decide)) (da_nil))))
abbrev s_gathered : Stmt := topS 17
theorem sc_gathered : FnScope N_gathered ["bits"] (defScope s_gathered) := ⟨rfl, rfl, rfl, by decide +kernel, rfl, by decide +kernel, by decide +kernel⟩
theorem d_gathered {f : Addr} (T : TopM K mg) (C_number_of : Cal P w K mg base "number_of" 1 1 sp_number_of) (cdv : Value) (A : Around) (outer : List Env) (s : Shared) (H : Hp) (E : XK) (hr : Room 1 (A.deeper (envOfC "gathered" (defScope s_gathered) s.heap.objs.size f cdv))) :
    DSs (cxOf (L2.CX P w) P w K mg base N_gathered "gathered" (defScope s_gathered) f cdv A outer s H E) (fun cls d _ H => E cls d H) (defBody s_gathered) t_gathered := by

  have nd := sc_gathered.nd
  have hp : Pas (cxOf (L2.CX P w) P w K mg base N_gathered "gathered" (defScope s_gathered) f cdv A outer s H E) (fun cls d _ H => E cls d H) := pas_of (takes_of rfl rfl rfl rfl)
  exact dss_one (ds_ret (de_callTy cl_tuple (by rfl) T.m_tuple (by decide +kernel) (da_cons (de_lc (own := [("at", 1)]) (is := [1]) rfl nd (di_range3 (by rfl) T.m_range (da_cons (de_v pe_int) (da_cons (de_callB cl_len (by rfl) T.m_len (by decide +kernel) (da_cons (de_var (pv 0)) (da_nil))) (da_cons (de_v pe_int) (da_nil))))) (blkOk_by (show blkC N_gathered (defScope s_gathered) _ _ = true from by decide +kernel)) (fun _ _ _ _ _ => dg_name (i := 1) nd rfl (by first | exact Or.inl rfl | exact Or.inr rfl)) (fun _ _ _ _ _ => dpts_nil) (fun _ _ _ _ _ => de_call C_number_of (hr.mono (by decide)) pas0 (by rfl) (da_cons (de_slice (de_var (pv 0)) (do_some (de_var (pv 1))) (do_some (de_bin op_addD (de_var (pv 1)) (de_v pe_int)))) (da_nil))) (by decide)) (da_nil))))
abbrev s_power : Stmt := topS 18
theorem sc_power : FnScope N_power ["many"] (defScope s_power) := ⟨rfl, rfl, rfl, by decide +kernel, rfl, by decide +kernel, by decide +kernel⟩
theorem d_power {f : Addr} (T : TopM K mg)  (cdv : Value) (A : Around) (outer : List Env) (s : Shared) (H : Hp) (E : XK) (hr : Room 0 (A.deeper (envOfC "power" (defScope s_power) s.heap.objs.size f cdv))) :
    DSs (cxOf (L2.CX P w) P w K mg base N_power "power" (defScope s_power) f cdv A outer s H E) (fun cls d _ H => E cls d H) (defBody s_power) t_power := by

  have nd := sc_power.nd
  have hp : Pas (cxOf (L2.CX P w) P w K mg base N_power "power" (defScope s_power) f cdv A outer s H E) (fun cls d _ H => E cls d H) := pas_of (takes_of rfl rfl rfl rfl)
  exact dss_cons (ds_set (i := 1) nd rfl (by first | exact Or.inl rfl | exact Or.inr rfl) (de_v pe_int))
    (dss_cons (ds_for (passes_of rfl) rfl (di_range1 (by rfl) T.m_range (da_cons (de_var (pv 0)) (da_nil))) (dg_name (i := 2) nd rfl (by first | exact Or.inl rfl | exact Or.inr rfl)) (dss_one (ds_set (i := 1) nd rfl (by first | exact Or.inl rfl | exact Or.inr rfl) (de_bin op_mulA (de_v pe_int) (de_var (pv 1))))))
    (dss_one (ds_ret (de_var (pv 1)))))
abbrev s_are_bits : Stmt := topS 19
theorem sc_are_bits : FnScope N_are_bits ["value"] (defScope s_are_bits) := ⟨rfl, rfl, rfl, by decide +kernel, rfl, by decide +kernel, by decide +kernel⟩
theorem d_are_bits {f : Addr} (T : TopM K mg) (C_fits_bits : Cal P w K mg base "fits_bits" 1 1 sp_fits_bits) (cdv : Value) (A : Around) (outer : List Env) (s : Shared) (H : Hp) (E : XK) (hr : Room 1 (A.deeper (envOfC "are_bits" (defScope s_are_bits) s.heap.objs.size f cdv))) :
    DSs (cxOf (L2.CX P w) P w K mg base N_are_bits "are_bits" (defScope s_are_bits) f cdv A outer s H E) (fun cls d _ H => E cls d H) (defBody s_are_bits) t_are_bits := by

  have nd := sc_are_bits.nd
  have hp : Pas (cxOf (L2.CX P w) P w K mg base N_are_bits "are_bits" (defScope s_are_bits) f cdv A outer s H E) (fun cls d _ H => E cls d H) := pas_of (takes_of rfl rfl rfl rfl)
  exact dss_one (ds_ret (de_call C_fits_bits (hr.mono (by decide)) hp (by rfl) (da_cons (de_var (pv 0)) (da_nil))))
abbrev s_are_octets : Stmt := topS 20
theorem sc_are_octets : FnScope N_are_octets ["value"] (defScope s_are_octets) := ⟨rfl, rfl, rfl, by decide +kernel, rfl, by decide +kernel, by decide +kernel⟩
theorem d_are_octets {f : Addr} (T : TopM K mg) (C_fits_octets : Cal P w K mg base "fits_octets" 1 2 sp_fits_octets) (cdv : Value) (A : Around) (outer : List Env) (s : Shared) (H : Hp) (E : XK) (hr : Room 2 (A.deeper (envOfC "are_octets" (defScope s_are_octets) s.heap.objs.size f cdv))) :
    DSs (cxOf (L2.CX P w) P w K mg base N_are_octets "are_octets" (defScope s_are_octets) f cdv A outer s H E) (fun cls d _ H => E cls d H) (defBody s_are_octets) t_are_octets := by

  have nd := sc_are_octets.nd
  have hp : Pas (cxOf (L2.CX P w) P w K mg base N_are_octets "are_octets" (defScope s_are_octets) f cdv A outer s H E) (fun cls d _ H => E cls d H) := pas_of (takes_of rfl rfl rfl rfl)
  exact dss_one (ds_ret (de_call C_fits_octets (hr.mono (by decide)) hp (by rfl) (da_cons (de_var (pv 0)) (da_nil))))
abbrev s_bits_of : Stmt := topS 21
theorem sc_bits_of : FnScope N_bits_of ["octets"] (defScope s_bits_of) := ⟨rfl, rfl, rfl, by decide +kernel, rfl, by decide +kernel, by decide +kernel⟩
theorem d_bits_of {f : Addr} (T : TopM K mg) (C_need_octets : Cal P w K mg base "need_octets" 1 3 sp_need_octets) (C_spread : Cal P w K mg base "spread" 1 2 sp_spread) (cdv : Value) (A : Around) (outer : List Env) (s : Shared) (H : Hp) (E : XK) (hr : Room 3 (A.deeper (envOfC "bits_of" (defScope s_bits_of) s.heap.objs.size f cdv))) :
    DSs (cxOf (L2.CX P w) P w K mg base N_bits_of "bits_of" (defScope s_bits_of) f cdv A outer s H E) (fun cls d _ H => E cls d H) (defBody s_bits_of) t_bits_of := by

  have nd := sc_bits_of.nd
  have hp : Pas (cxOf (L2.CX P w) P w K mg base N_bits_of "bits_of" (defScope s_bits_of) f cdv A outer s H E) (fun cls d _ H => E cls d H) := pas_of (takes_of rfl rfl rfl rfl)
  exact dss_cons (ds_expr (de_call C_need_octets (hr.mono (by decide)) hp (by rfl) (da_cons (de_var (pv 0)) (da_nil))))
    (dss_one (ds_ret (de_call C_spread (hr.mono (by decide)) hp (by rfl) (da_cons (de_var (pv 0)) (da_nil)))))
abbrev s_octets_of : Stmt := topS 22
theorem sc_octets_of : FnScope N_octets_of ["bits"] (defScope s_octets_of) := ⟨rfl, rfl, rfl, by decide +kernel, rfl, by decide +kernel, by decide +kernel⟩
theorem d_octets_of {f : Addr} (T : TopM K mg) (C_need_bits : Cal P w K mg base "need_bits" 1 2 sp_need_bits) (C_gathered : Cal P w K mg base "gathered" 1 2 sp_gathered) (cdv : Value) (A : Around) (outer : List Env) (s : Shared) (H : Hp) (E : XK) (hr : Room 2 (A.deeper (envOfC "octets_of" (defScope s_octets_of) s.heap.objs.size f cdv))) :
    DSs (cxOf (L2.CX P w) P w K mg base N_octets_of "octets_of" (defScope s_octets_of) f cdv A outer s H E) (fun cls d _ H => E cls d H) (defBody s_octets_of) t_octets_of := by

  have nd := sc_octets_of.nd
  have hp : Pas (cxOf (L2.CX P w) P w K mg base N_octets_of "octets_of" (defScope s_octets_of) f cdv A outer s H E) (fun cls d _ H => E cls d H) := pas_of (takes_of rfl rfl rfl rfl)
  exact dss_cons (ds_expr (de_call C_need_bits (hr.mono (by decide)) hp (by rfl) (da_cons (de_var (pv 0)) (da_nil))))
    (dss_one (ds_ret (de_call C_gathered (hr.mono (by decide)) hp (by rfl) (da_cons (de_var (pv 0)) (da_nil)))))
abbrev s_number_at : Stmt := topS 23
theorem sc_number_at : FnScope N_number_at ["bits", "begin", "many"] (defScope s_number_at) := ⟨rfl, rfl, rfl, by decide +kernel, rfl, by decide +kernel, by decide +kernel⟩
theorem d_number_at {f : Addr} (T : TopM K mg) (C_need_bits : Cal P w K mg base "need_bits" 1 2 sp_need_bits) (C_is_whole : Cal P w K mg base "is_whole" 3 1 sp_is_whole) (C_number_of : Cal P w K mg base "number_of" 1 1 sp_number_of) (cdv : Value) (A : Around) (outer : List Env) (s : Shared) (H : Hp) (E : XK) (hr : Room 2 (A.deeper (envOfC "number_at" (defScope s_number_at) s.heap.objs.size f cdv))) :
    DSs (cxOf (L2.CX P w) P w K mg base N_number_at "number_at" (defScope s_number_at) f cdv A outer s H E) (fun cls d _ H => E cls d H) (defBody s_number_at) t_number_at := by

  have nd := sc_number_at.nd
  have hp : Pas (cxOf (L2.CX P w) P w K mg base N_number_at "number_at" (defScope s_number_at) f cdv A outer s H E) (fun cls d _ H => E cls d H) := pas_of (takes_of rfl rfl rfl rfl)
  exact dss_cons (ds_expr (de_call C_need_bits (hr.mono (by decide)) hp (by rfl) (da_cons (de_var (pv 0)) (da_nil))))
    (dss_cons (ds_if ((dw_or (dt_not (dt_val (de_call C_is_whole (hr.mono (by decide)) hp (by rfl) (da_cons (de_var (pv 1)) (da_cons (de_v pe_int) (da_cons (de_callB cl_len (by rfl) T.m_len (by decide +kernel) (da_cons (de_var (pv 0)) (da_nil))) (da_nil))))))) (dw_or1 (dt_not (dt_val (de_call C_is_whole (hr.mono (by decide)) hp (by rfl) (da_cons (de_var (pv 2)) (da_cons (de_v pe_int) (da_cons (de_bin op_subD (de_callB cl_len (by rfl) T.m_len (by decide +kernel) (da_cons (de_var (pv 0)) (da_nil))) (de_var (pv 1))) (da_nil))))))))).pt) (dss_one (ds_never)) (dss_nil))
    (dss_one (ds_ret (de_call C_number_of (hr.mono (by decide)) hp (by rfl) (da_cons (de_slice (de_var (pv 0)) (do_some (de_var (pv 1))) (do_some (de_bin op_addD (de_var (pv 1)) (de_var (pv 2))))) (da_nil))))))
abbrev s_with_number : Stmt := topS 24
theorem sc_with_number : FnScope N_with_number ["number", "many"] (defScope s_with_number) := ⟨rfl, rfl, rfl, by decide +kernel, rfl, by decide +kernel, by decide +kernel⟩
theorem d_with_number {f : Addr} (T : TopM K mg) (C_is_whole : Cal P w K mg base "is_whole" 3 1 sp_is_whole) (C_power : Cal P w K mg base "power" 1 1 sp_power) (C_bits_for : Cal P w K mg base "bits_for" 2 1 sp_bits_for) (cdv : Value) (A : Around) (outer : List Env) (s : Shared) (H : Hp) (E : XK) (hr : Room 1 (A.deeper (envOfC "with_number" (defScope s_with_number) s.heap.objs.size f cdv))) :
    DSs (cxOf (L2.CX P w) P w K mg base N_with_number "with_number" (defScope s_with_number) f cdv A outer s H E) (fun cls d _ H => E cls d H) (defBody s_with_number) t_with_number := by

  have nd := sc_with_number.nd
  have hp : Pas (cxOf (L2.CX P w) P w K mg base N_with_number "with_number" (defScope s_with_number) f cdv A outer s H E) (fun cls d _ H => E cls d H) := pas_of (takes_of rfl rfl rfl rfl)
  exact dss_cons (ds_if ((dw_or (dt_not (dt_val (de_call C_is_whole (hr.mono (by decide)) hp (by rfl) (da_cons (de_var (pv 1)) (da_cons (de_v pe_int) (da_cons (de_v pe_int) (da_nil))))))) (dw_or1 (dt_not (dt_val (de_call C_is_whole (hr.mono (by decide)) hp (by rfl) (da_cons (de_var (pv 0)) (da_cons (de_v pe_int) (da_cons (de_bin op_subD (de_call C_power (hr.mono (by decide)) hp (by rfl) (da_cons (de_callB (cl_min2 rfl) (by rfl) T.m_min (by decide +kernel) (da_cons (de_var (pv 1)) (da_cons (de_v pe_int) (da_nil)))) (da_nil))) (de_v pe_int)) (da_nil))))))))).pt) (dss_one (ds_never)) (dss_nil))
    (dss_one (ds_ret (de_call C_bits_for (hr.mono (by decide)) hp (by rfl) (da_cons (de_var (pv 0)) (da_cons (de_var (pv 1)) (da_nil))))))
abbrev s_law_cup : Stmt := topS 26
theorem sc_law_cup : FnScope N_law_cup ["script"] (defScope s_law_cup) := ⟨rfl, rfl, rfl, by decide +kernel, rfl, by decide +kernel, by decide +kernel⟩
theorem d_law_cup {f : Addr} (T : TopM K mg)  (cdv : Value) (A : Around) (outer : List Env) (s : Shared) (H : Hp) (E : XK) (hr : Room 0 (A.deeper (envOfC "_law_cup" (defScope s_law_cup) s.heap.objs.size f cdv))) :
    DSs (cxOf (L2.CX P w) P w K mg base N_law_cup "_law_cup" (defScope s_law_cup) f cdv A outer s H E) (fun cls d _ H => E cls d H) (defBody s_law_cup) t_law_cup := by

  have nd := sc_law_cup.nd
  have hp : Pas (cxOf (L2.CX P w) P w K mg base N_law_cup "_law_cup" (defScope s_law_cup) f cdv A outer s H E) (fun cls d _ H => E cls d H) := pas_of (takes_of rfl rfl rfl rfl)
  exact dss_cons (ds_set (i := 1) nd rfl (by first | exact Or.inl rfl | exact Or.inr rfl) (de_callB cl_abs (by rfl) T.m_abs (by decide +kernel) (da_cons (de_ix ix_seqD (de_bin op_addD (de_callTy cl_list (by rfl) T.m_list (by decide +kernel) (da_cons (de_var (pv 0)) (da_nil))) (de_lst (da_cons (de_v pe_int) (da_nil)))) (de_v pe_int) (fun _ _ => rfl)) (da_nil))))
    (dss_one (ds_ret (de_lstM (da_cons (de_ifE (dt_cmp op_geD (de_var (pv 1)) (de_bin op_powD (de_v pe_int) (de_v pe_int)) (nomark _)) (de_bin op_fdivD (de_var (pv 1)) (de_v pe_int)) (de_v pe_int)) (da_cons (de_bin op_addD (de_bin op_modD (de_callTy cl_int (by rfl) T.m_int (by decide +kernel) (da_cons (de_bin op_addD (de_bin op_mulA (de_var (pv 1)) (de_v pe_int)) (de_v pe_int)) (da_nil))) (de_v pe_int)) (de_v pe_int)) (da_nil))))))
abbrev s_law_roll : Stmt := topS 27
theorem sc_law_roll : FnScope N_law_roll ["cup", "many"] (defScope s_law_roll) := ⟨rfl, rfl, rfl, by decide +kernel, rfl, by decide +kernel, by decide +kernel⟩
theorem d_law_roll {f : Addr} (T : TopM K mg)  (cdv : Value) (A : Around) (outer : List Env) (s : Shared) (H : Hp) (E : XK) (hr : Room 0 (A.deeper (envOfC "_law_roll" (defScope s_law_roll) s.heap.objs.size f cdv))) :
    DSs (cxOf (L2.CX P w) P w K mg base N_law_roll "_law_roll" (defScope s_law_roll) f cdv A outer s H E) (fun cls d _ H => E cls d H) (defBody s_law_roll) t_law_roll := by

  have nd := sc_law_roll.nd
  have hp : Pas (cxOf (L2.CX P w) P w K mg base N_law_roll "_law_roll" (defScope s_law_roll) f cdv A outer s H E) (fun cls d _ H => E cls d H) := pas_of (takes_of rfl rfl rfl rfl)
  exact dss_cons (ds_if (dt_cmp op_gtD (de_ix ix_seqD (de_var (pv 0)) (de_v pe_int) (fun _ _ => rfl)) (de_v pe_int) (nomark _)) (dss_cons (ds_set (i := 2) nd rfl (by first | exact Or.inl rfl | exact Or.inr rfl) (de_bin op_modD (de_callTy cl_int (by rfl) T.m_int (by decide +kernel) (da_cons (de_ix ix_seqD (de_var (pv 0)) (de_v pe_int) (fun _ _ => rfl)) (da_nil))) (de_var (pv 1))))
    (dss_cons (ds_asg (de_bin op_fdivD (de_ix ix_seqD (de_var (pv 0)) (de_v pe_int) (fun _ _ => rfl)) (de_var (pv 1))) (dg_sub (W := fun cls d _ H => E cls d H) (de_var (pv 0)) (de_v pe_int)))
    (dss_one (ds_ret (de_var (pv 2)))))) (dss_nil))
    (dss_cons (ds_asg (de_bin op_modD (de_callTy cl_int (by rfl) T.m_int (by decide +kernel) (da_cons (de_bin op_addD (de_bin op_mulA (de_ix ix_seqD (de_var (pv 0)) (de_v pe_int) (fun _ _ => rfl)) (de_v pe_int)) (de_v pe_int)) (da_nil))) (de_v pe_int)) (dg_sub (W := fun cls d _ H => E cls d H) (de_var (pv 0)) (de_v pe_int)))
    (dss_cons (ds_set (i := 3) nd rfl (by first | exact Or.inl rfl | exact Or.inr rfl) (de_bin op_modD (de_callTy cl_int (by rfl) T.m_int (by decide +kernel) (da_cons (de_bin op_mulA (de_ix ix_seqD (de_var (pv 0)) (de_v pe_int) (fun _ _ => rfl)) (de_bin op_addD (de_ix ix_seqD (de_var (pv 0)) (de_v pe_int) (fun _ _ => rfl)) (de_v pe_int))) (da_nil))) (de_v pe_int)))
    (dss_one (ds_ret (de_bin op_modD (de_callTy cl_int (by rfl) T.m_int (by decide +kernel) (da_cons (de_bin op_fdivD (de_var (pv 3)) (de_v pe_int)) (da_nil))) (de_var (pv 1)))))))
abbrev s_law_some : Stmt := topS 28
theorem sc_law_some : FnScope N_law_some ["cup", "things"] (defScope s_law_some) := ⟨rfl, rfl, rfl, by decide +kernel, rfl, by decide +kernel, by decide +kernel⟩
theorem d_law_some {f : Addr} (T : TopM K mg) (C_law_roll : Cal P w K mg base "_law_roll" 2 1 sp_law_roll) (cdv : Value) (A : Around) (outer : List Env) (s : Shared) (H : Hp) (E : XK) (hr : Room 1 (A.deeper (envOfC "_law_some" (defScope s_law_some) s.heap.objs.size f cdv))) :
    DSs (cxOf (L2.CX P w) P w K mg base N_law_some "_law_some" (defScope s_law_some) f cdv A outer s H E) (fun cls d _ H => E cls d H) (defBody s_law_some) t_law_some := by

  have nd := sc_law_some.nd
  have hp : Pas (cxOf (L2.CX P w) P w K mg base N_law_some "_law_some" (defScope s_law_some) f cdv A outer s H E) (fun cls d _ H => E cls d H) := pas_of (takes_of rfl rfl rfl rfl)
  exact dss_one (ds_ret (de_ix ix_seqD (de_var (pv 1)) (de_call C_law_roll (hr.mono (by decide)) hp (by rfl) (da_cons (de_var (pv 0)) (da_cons (de_callB cl_len (by rfl) T.m_len (by decide +kernel) (da_cons (de_var (pv 1)) (da_nil))) (da_nil)))) (fun _ _ => rfl)))
abbrev s_law_power : Stmt := topS 29
theorem sc_law_power : FnScope N_law_power ["many"] (defScope s_law_power) := ⟨rfl, rfl, rfl, by decide +kernel, rfl, by decide +kernel, by decide +kernel⟩
theorem d_law_power {f : Addr} (T : TopM K mg)  (cdv : Value) (A : Around) (outer : List Env) (s : Shared) (H : Hp) (E : XK) (hr : Room 0 (A.deeper (envOfC "_law_power" (defScope s_law_power) s.heap.objs.size f cdv))) :
    DSs (cxOf (L2.CX P w) P w K mg base N_law_power "_law_power" (defScope s_law_power) f cdv A outer s H E) (fun cls d _ H => E cls d H) (defBody s_law_power) t_law_power := by

  have nd := sc_law_power.nd
  have hp : Pas (cxOf (L2.CX P w) P w K mg base N_law_power "_law_power" (defScope s_law_power) f cdv A outer s H E) (fun cls d _ H => E cls d H) := pas_of (takes_of rfl rfl rfl rfl)
  exact dss_cons (ds_set (i := 1) nd rfl (by first | exact Or.inl rfl | exact Or.inr rfl) (de_v pe_int))
    (dss_cons (ds_for (passes_of rfl) rfl (di_range1 (by rfl) T.m_range (da_cons (de_var (pv 0)) (da_nil))) (dg_name (i := 2) nd rfl (by first | exact Or.inl rfl | exact Or.inr rfl)) (dss_one (ds_set (i := 1) nd rfl (by first | exact Or.inl rfl | exact Or.inr rfl) (de_bin op_mulA (de_v pe_int) (de_var (pv 1))))))
    (dss_one (ds_ret (de_var (pv 1)))))
abbrev s_law_sum : Stmt := topS 30
theorem sc_law_sum : FnScope N_law_sum ["bits"] (defScope s_law_sum) := ⟨rfl, rfl, rfl, by decide +kernel, rfl, by decide +kernel, by decide +kernel⟩
theorem d_law_sum {f : Addr} (T : TopM K mg) (C_law_power : Cal P w K mg base "_law_power" 1 1 sp_law_power) (cdv : Value) (A : Around) (outer : List Env) (s : Shared) (H : Hp) (E : XK) (hr : Room 1 (A.deeper (envOfC "_law_sum" (defScope s_law_sum) s.heap.objs.size f cdv))) :
    DSs (cxOf (L2.CX P w) P w K mg base N_law_sum "_law_sum" (defScope s_law_sum) f cdv A outer s H E) (fun cls d _ H => E cls d H) (defBody s_law_sum) t_law_sum := by

  have nd := sc_law_sum.nd
  have hp : Pas (cxOf (L2.CX P w) P w K mg base N_law_sum "_law_sum" (defScope s_law_sum) f cdv A outer s H E) (fun cls d _ H => E cls d H) := pas_of (takes_of rfl rfl rfl rfl)
  exact dss_one (ds_ret (de_callB (cl_sum rfl) (by rfl) T.m_sum (by decide +kernel) (da_cons (de_lc (own := [("at", 1), ("sign", 2)]) (is := [1, 2]) rfl nd (di_enum (by rfl) T.m_enumerate (de_var (pv 0))) (blkOk_by (show blkC N_law_sum (defScope s_law_sum) _ _ = true from by decide +kernel)) (fun _ _ _ _ _ => dg_tup rfl (dgs_cons (dg_name (i := 1) nd rfl (by first | exact Or.inl rfl | exact Or.inr rfl)) (dgs_cons (dg_name (i := 2) nd rfl (by first | exact Or.inl rfl | exact Or.inr rfl)) (dgs_nil (is := []))))) (fun _ _ _ _ _ => dpts_one (dt_cmp (op_eqE hr.units) (de_var (pv 2)) (de_str (l := [49]) (by decide +kernel)) (nomark _))) (fun _ _ _ _ _ => de_call C_law_power (hr.mono (by decide)) pas0 (by rfl) (da_cons (de_var (pv 1)) (da_nil))) (by decide)) (da_nil))))
abbrev s_law_octets_right : Stmt := topS 31
theorem sc_law_octets_right : FnScope N_law_octets_right ["octets"] (defScope s_law_octets_right) := ⟨rfl, rfl, rfl, by decide +kernel, rfl, by decide +kernel, by decide +kernel⟩
theorem d_law_octets_right {f : Addr} (T : TopM K mg) (C_bits_of : Cal P w K mg base "bits_of" 1 4 sp_bits_of) (C_are_octets : Cal P w K mg base "are_octets" 1 3 sp_are_octets) (C_are_bits : Cal P w K mg base "are_bits" 1 2 sp_are_bits) (C_octets_of : Cal P w K mg base "octets_of" 1 3 sp_octets_of) (C_law_power : Cal P w K mg base "_law_power" 1 1 sp_law_power) (C_number_at : Cal P w K mg base "number_at" 3 3 sp_number_at) (cdv : Value) (A : Around) (outer : List Env) (s : Shared) (H : Hp) (E : XK) (hr : Room 4 (A.deeper (envOfC "_law_octets_right" (defScope s_law_octets_right) s.heap.objs.size f cdv))) :
    DSs (cxOf (L2.CX P w) P w K mg base N_law_octets_right "_law_octets_right" (defScope s_law_octets_right) f cdv A outer s H E) (fun cls d _ H => E cls d H) (defBody s_law_octets_right) t_law_octets_right := by

  have nd := sc_law_octets_right.nd
  have hp : Pas (cxOf (L2.CX P w) P w K mg base N_law_octets_right "_law_octets_right" (defScope s_law_octets_right) f cdv A outer s H E) (fun cls d _ H => E cls d H) := pas_of (takes_of rfl rfl rfl rfl)
  exact dss_cons (ds_set (i := 1) nd rfl (by first | exact Or.inl rfl | exact Or.inr rfl) (de_call C_bits_of (hr.mono (by decide)) hp (by rfl) (da_cons (de_var (pv 0)) (da_nil))))
    (dss_cons (ds_if ((dw_or (dt_cmp op_isNotD (de_call C_are_octets (hr.mono (by decide)) hp (by rfl) (da_cons (de_var (pv 0)) (da_nil))) (de_v pe_bl) (nomark _)) (dw_or (dt_cmp op_isNotD (de_call C_are_bits (hr.mono (by decide)) hp (by rfl) (da_cons (de_var (pv 1)) (da_nil))) (de_v pe_bl) (nomark _)) (dw_or (dt_cmp (op_neE hr.units) (de_callB cl_len (by rfl) T.m_len (by decide +kernel) (da_cons (de_var (pv 1)) (da_nil))) (de_bin op_mulA (de_v pe_int) (de_callB cl_len (by rfl) T.m_len (by decide +kernel) (da_cons (de_var (pv 0)) (da_nil)))) (nomark _)) (dw_or1 (dt_cmp (op_neE hr.units) (de_call C_octets_of (hr.mono (by decide)) hp (by rfl) (da_cons (de_var (pv 1)) (da_nil))) (de_var (pv 0)) (nomark _)))))).pt) (dss_one (ds_ret (de_v pe_bl))) (dss_nil))
    (dss_cons (ds_for (passes_of rfl) rfl (di_enum (by rfl) T.m_enumerate (de_var (pv 0))) (dg_tup rfl (dgs_cons (dg_name (i := 2) nd rfl (by first | exact Or.inl rfl | exact Or.inr rfl)) (dgs_cons (dg_name (i := 3) nd rfl (by first | exact Or.inl rfl | exact Or.inr rfl)) (dgs_nil (is := []))))) (dss_one (ds_if ((dw_or (dt_cmp (op_neE hr.units) (de_slice (de_var (pv 1)) (do_some (de_bin op_mulA (de_v pe_int) (de_var (pv 2)))) (do_some (de_bin op_addD (de_bin op_mulA (de_v pe_int) (de_var (pv 2))) (de_v pe_int)))) (de_bm (.inl rfl) PySem.F.plainAttrs_str PySem.F.slot_str_join PySem.F.type_str_join mt_joinD (de_str (l := []) (by decide +kernel)) (da_cons (de_lc (own := [("by", 6)]) (is := [6]) rfl nd (di_range1 (by rfl) T.m_range (da_cons (de_v pe_int) (da_nil))) (blkOk_by (show blkC N_law_octets_right (defScope s_law_octets_right) _ _ = true from by decide +kernel)) (fun _ _ _ _ _ => dg_name (i := 6) nd rfl (by first | exact Or.inl rfl | exact Or.inr rfl)) (fun _ _ _ _ _ => dpts_nil) (fun _ _ _ _ _ => de_callTy cl_strI (by rfl) T.m_str (by decide +kernel) (da_cons (de_bin op_modD (de_callTy cl_int (by rfl) T.m_int (by decide +kernel) (da_cons (de_bin op_fdivD (de_var (pv 3)) (de_call C_law_power (hr.mono (by decide)) pas0 (by rfl) (da_cons (de_var (pv 6)) (da_nil)))) (da_nil))) (de_v pe_int)) (da_nil))) (by decide)) (da_nil))) (nomark _)) (dw_or1 (dt_cmp (op_neE hr.units) (de_call C_number_at (hr.mono (by decide)) hp (by rfl) (da_cons (de_var (pv 1)) (da_cons (de_bin op_mulA (de_v pe_int) (de_var (pv 2))) (da_cons (de_v pe_int) (da_nil))))) (de_var (pv 3)) (nomark _)))).pt) (dss_one (ds_ret (de_v pe_bl))) (dss_nil))))
    (dss_cons (ds_set (i := 4) nd rfl (by first | exact Or.inl rfl | exact Or.inr rfl) (de_call C_bits_of (hr.mono (by decide)) hp (by rfl) (da_cons (de_callTy cl_tuple (by rfl) T.m_tuple (by decide +kernel) (da_cons (de_lc (own := [("octet", 3)]) (is := [3]) rfl nd (di_seq (de_var (pv 0))) (blkOk_by (show blkC N_law_octets_right (defScope s_law_octets_right) _ _ = true from by decide +kernel)) (fun _ _ _ _ _ => dg_name (i := 3) nd rfl (by first | exact Or.inl rfl | exact Or.inr rfl)) (fun _ _ _ _ _ => dpts_nil) (fun _ _ _ _ _ => de_bin op_subD (de_v pe_int) (de_var (pv 3))) (by decide)) (da_nil))) (da_nil))))
    (dss_cons (ds_if (dt_cmp (op_neE hr.units) (de_var (pv 4)) (de_bm (.inl rfl) PySem.F.plainAttrs_str PySem.F.slot_str_join PySem.F.type_str_join mt_joinD (de_str (l := []) (by decide +kernel)) (da_cons (de_lc (own := [("sign", 7)]) (is := [7]) rfl nd (di_seq (de_var (pv 1))) (blkOk_by (show blkC N_law_octets_right (defScope s_law_octets_right) _ _ = true from by decide +kernel)) (fun _ _ _ _ _ => dg_name (i := 7) nd rfl (by first | exact Or.inl rfl | exact Or.inr rfl)) (fun _ _ _ _ _ => dpts_nil) (fun _ _ _ _ _ => de_ifE (dt_cmp (op_eqE hr.units) (de_var (pv 7)) (de_str (l := [48]) (by decide +kernel)) (nomark _)) (de_str (l := [49]) (by decide +kernel)) (de_str (l := [48]) (by decide +kernel))) (by decide)) (da_nil))) (nomark _)) (dss_one (ds_ret (de_v pe_bl))) (dss_nil))
    (dss_cons (ds_set (i := 5) nd rfl (by first | exact Or.inl rfl | exact Or.inr rfl) (de_call C_bits_of (hr.mono (by decide)) hp (by rfl) (da_cons (de_rev (de_var (pv 0))) (da_nil))))
    (dss_one (ds_ret (de_cmp (op_eqE hr.units) (de_var (pv 5)) (de_bm (.inl rfl) PySem.F.plainAttrs_str PySem.F.slot_str_join PySem.F.type_str_join mt_joinD (de_str (l := []) (by decide +kernel)) (da_cons (de_lc (own := [("at", 2)]) (is := [2]) rfl nd (di_range3 (by rfl) T.m_range (da_cons (de_bin op_subD (de_callB cl_len (by rfl) T.m_len (by decide +kernel) (da_cons (de_var (pv 1)) (da_nil))) (de_v pe_int)) (da_cons (de_un un_negD (de_v pe_int)) (da_cons (de_un un_negD (de_v pe_int)) (da_nil))))) (blkOk_by (show blkC N_law_octets_right (defScope s_law_octets_right) _ _ = true from by decide +kernel)) (fun _ _ _ _ _ => dg_name (i := 2) nd rfl (by first | exact Or.inl rfl | exact Or.inr rfl)) (fun _ _ _ _ _ => dpts_nil) (fun _ _ _ _ _ => de_slice (de_var (pv 1)) (do_some (de_var (pv 2))) (do_some (de_bin op_addD (de_var (pv 2)) (de_v pe_int)))) (by decide)) (da_nil))) (nomark _)))))))))
abbrev s_law_cut_right : Stmt := topS 32
theorem sc_law_cut_right : FnScope N_law_cut_right ["cup", "octets"] (defScope s_law_cut_right) := ⟨rfl, rfl, rfl, by decide +kernel, rfl, by decide +kernel, by decide +kernel⟩
theorem d_law_cut_right {f : Addr} (T : TopM K mg) (C_bits_of : Cal P w K mg base "bits_of" 1 4 sp_bits_of) (C_law_roll : Cal P w K mg base "_law_roll" 2 1 sp_law_roll) (C_octets_of : Cal P w K mg base "octets_of" 1 3 sp_octets_of) (C_law_power : Cal P w K mg base "_law_power" 1 1 sp_law_power) (C_number_at : Cal P w K mg base "number_at" 3 3 sp_number_at) (C_law_sum : Cal P w K mg base "_law_sum" 1 2 sp_law_sum) (C_with_number : Cal P w K mg base "with_number" 2 2 sp_with_number) (cdv : Value) (A : Around) (outer : List Env) (s : Shared) (H : Hp) (E : XK) (hr : Room 4 (A.deeper (envOfC "_law_cut_right" (defScope s_law_cut_right) s.heap.objs.size f cdv))) :
    DSs (cxOf (L2.CX P w) P w K mg base N_law_cut_right "_law_cut_right" (defScope s_law_cut_right) f cdv A outer s H E) (fun cls d _ H => E cls d H) (defBody s_law_cut_right) t_law_cut_right := by

  have nd := sc_law_cut_right.nd
  have hp : Pas (cxOf (L2.CX P w) P w K mg base N_law_cut_right "_law_cut_right" (defScope s_law_cut_right) f cdv A outer s H E) (fun cls d _ H => E cls d H) := pas_of (takes_of rfl rfl rfl rfl)
  exact dss_cons (ds_set (i := 2) nd rfl (by first | exact Or.inl rfl | exact Or.inr rfl) (de_call C_bits_of (hr.mono (by decide)) hp (by rfl) (da_cons (de_var (pv 1)) (da_nil))))
    (dss_cons (ds_set (i := 3) nd rfl (by first | exact Or.inl rfl | exact Or.inr rfl) (de_call C_law_roll (hr.mono (by decide)) hp (by rfl) (da_cons (de_var (pv 0)) (da_cons (de_bin op_addD (de_callB cl_len (by rfl) T.m_len (by decide +kernel) (da_cons (de_var (pv 2)) (da_nil))) (de_v pe_int)) (da_nil)))))
    (dss_cons (ds_par (i := 4) (j := 5) rfl nd rfl rfl (by decide) rfl rfl (da_cons (de_bin op_fdivD (de_var (pv 3)) (de_v pe_int)) (da_cons (de_bin op_modD (de_callTy cl_int (by rfl) T.m_int (by decide +kernel) (da_cons (de_var (pv 3)) (da_nil))) (de_v pe_int)) (da_nil))) (by rfl))
    (dss_cons (ds_if (dt_cmp (op_neE hr.units) (de_call C_octets_of (hr.mono (by decide)) hp (by rfl) (da_cons (de_slice (de_var (pv 2)) (do_none) (do_some (de_var (pv 3)))) (da_nil))) (de_bin op_addD (de_slice (de_var (pv 1)) (do_none) (do_some (de_var (pv 4)))) (de_ifE (dt_cmp op_gtD (de_var (pv 5)) (de_v pe_int) (nomark _)) (de_tup (da_cons (de_bin op_modD (de_callTy cl_int (by rfl) T.m_int (by decide +kernel) (da_cons (de_ix ix_seqD (de_var (pv 1)) (de_var (pv 4)) (fun _ _ => rfl)) (da_nil))) (de_call C_law_power (hr.mono (by decide)) hp (by rfl) (da_cons (de_var (pv 5)) (da_nil)))) (da_nil))) (de_tup (da_nil)))) (nomark _)) (dss_one (ds_ret (de_v pe_bl))) (dss_nil))
    (dss_cons (ds_if ((dw_and (dt_cmp op_gtD (de_var (pv 5)) (de_v pe_int) (nomark _)) (dw_and1 (dt_cmp (op_neE hr.units) (de_call C_octets_of (hr.mono (by decide)) hp (by rfl) (da_cons (de_bin op_addD (de_slice (de_var (pv 2)) (do_none) (do_some (de_var (pv 3)))) (de_bin op_mulA (de_str (l := [48]) (by decide +kernel)) (de_call C_law_roll (hr.mono (by decide)) hp (by rfl) (da_cons (de_var (pv 0)) (da_cons (de_bin op_subD (de_v pe_int) (de_var (pv 5))) (da_nil)))))) (da_nil))) (de_call C_octets_of (hr.mono (by decide)) hp (by rfl) (da_cons (de_slice (de_var (pv 2)) (do_none) (do_some (de_var (pv 3)))) (da_nil))) (nomark _)))).pt) (dss_one (ds_ret (de_v pe_bl))) (dss_nil))
    (dss_cons (ds_for (passes_of rfl) rfl (di_range1 (by rfl) T.m_range (da_cons (de_v pe_int) (da_nil))) (dg_name (i := 6) nd rfl (by first | exact Or.inl rfl | exact Or.inr rfl)) (dss_cons (ds_set (i := 7) nd rfl (by first | exact Or.inl rfl | exact Or.inr rfl) (de_call C_law_roll (hr.mono (by decide)) hp (by rfl) (da_cons (de_var (pv 0)) (da_cons (de_bin op_addD (de_callB cl_len (by rfl) T.m_len (by decide +kernel) (da_cons (de_var (pv 2)) (da_nil))) (de_v pe_int)) (da_nil)))))
    (dss_cons (ds_set (i := 8) nd rfl (by first | exact Or.inl rfl | exact Or.inr rfl) (de_call C_law_roll (hr.mono (by decide)) hp (by rfl) (da_cons (de_var (pv 0)) (da_cons (de_bin op_addD (de_callB (cl_min2 rfl) (by rfl) T.m_min (by decide +kernel) (da_cons (de_v pe_int) (da_cons (de_bin op_subD (de_callB cl_len (by rfl) T.m_len (by decide +kernel) (da_cons (de_var (pv 2)) (da_nil))) (de_var (pv 7))) (da_nil)))) (de_v pe_int)) (da_nil)))))
    (dss_cons (ds_set (i := 9) nd rfl (by first | exact Or.inl rfl | exact Or.inr rfl) (de_call C_law_roll (hr.mono (by decide)) hp (by rfl) (da_cons (de_var (pv 0)) (da_cons (de_bin op_addD (de_var (pv 8)) (de_v pe_int)) (da_nil)))))
    (dss_cons (ds_par3 (i := 10) (j := 11) (l := 12) rfl nd rfl rfl rfl (by decide) (by decide) (by decide) rfl rfl rfl (da_cons (de_call C_number_at (hr.mono (by decide)) hp (by rfl) (da_cons (de_var (pv 2)) (da_cons (de_var (pv 7)) (da_cons (de_var (pv 8)) (da_nil))))) (da_cons (de_call C_number_at (hr.mono (by decide)) hp (by rfl) (da_cons (de_var (pv 2)) (da_cons (de_var (pv 7)) (da_cons (de_var (pv 9)) (da_nil))))) (da_cons (de_call C_number_at (hr.mono (by decide)) hp (by rfl) (da_cons (de_var (pv 2)) (da_cons (de_bin op_addD (de_var (pv 7)) (de_var (pv 9))) (da_cons (de_bin op_subD (de_var (pv 8)) (de_var (pv 9))) (da_nil))))) (da_nil)))) (by rfl))
    (dss_cons (ds_if ((dw_or (dt_cmp (op_neE hr.units) (de_var (pv 10)) (de_call C_law_sum (hr.mono (by decide)) hp (by rfl) (da_cons (de_slice (de_var (pv 2)) (do_some (de_var (pv 7))) (do_some (de_bin op_addD (de_var (pv 7)) (de_var (pv 8))))) (da_nil))) (nomark _)) (dw_or1 (dt_cmp (op_neE hr.units) (de_var (pv 10)) (de_bin op_addD (de_var (pv 11)) (de_bin op_mulA (de_call C_law_power (hr.mono (by decide)) hp (by rfl) (da_cons (de_var (pv 9)) (da_nil))) (de_var (pv 12)))) (nomark _)))).pt) (dss_one (ds_ret (de_v pe_bl))) (dss_nil))
    (dss_one (ds_if ((dw_or (dt_cmp (op_neE hr.units) (de_call C_with_number (hr.mono (by decide)) hp (by rfl) (da_cons (de_var (pv 10)) (da_cons (de_var (pv 8)) (da_nil)))) (de_slice (de_var (pv 2)) (do_some (de_var (pv 7))) (do_some (de_bin op_addD (de_var (pv 7)) (de_var (pv 8))))) (nomark _)) (dw_or1 (dt_cmp (op_neE hr.units) (de_bin op_addD (de_call C_with_number (hr.mono (by decide)) hp (by rfl) (da_cons (de_var (pv 11)) (da_cons (de_var (pv 9)) (da_nil)))) (de_call C_with_number (hr.mono (by decide)) hp (by rfl) (da_cons (de_var (pv 12)) (da_cons (de_bin op_subD (de_var (pv 8)) (de_var (pv 9))) (da_nil))))) (de_call C_with_number (hr.mono (by decide)) hp (by rfl) (da_cons (de_var (pv 10)) (da_cons (de_var (pv 8)) (da_nil)))) (nomark _)))).pt) (dss_one (ds_ret (de_v pe_bl))) (dss_nil)))))))))
    (dss_one (ds_ret (de_cmp (op_eqE hr.units) (de_call C_number_at (hr.mono (by decide)) hp (by rfl) (da_cons (de_var (pv 2)) (da_cons (de_v pe_int) (da_cons (de_callB cl_len (by rfl) T.m_len (by decide +kernel) (da_cons (de_var (pv 2)) (da_nil))) (da_nil))))) (de_callB (cl_sum rfl) (by rfl) T.m_sum (by decide +kernel) (da_cons (de_lc (own := [("at", 13), ("octet", 14)]) (is := [13, 14]) rfl nd (di_enum (by rfl) T.m_enumerate (de_var (pv 1))) (blkOk_by (show blkC N_law_cut_right (defScope s_law_cut_right) _ _ = true from by decide +kernel)) (fun _ _ _ _ _ => dg_tup rfl (dgs_cons (dg_name (i := 13) nd rfl (by first | exact Or.inl rfl | exact Or.inr rfl)) (dgs_cons (dg_name (i := 14) nd rfl (by first | exact Or.inl rfl | exact Or.inr rfl)) (dgs_nil (is := []))))) (fun _ _ _ _ _ => dpts_nil) (fun _ _ _ _ _ => de_bin op_mulA (de_var (pv 14)) (de_call C_law_power (hr.mono (by decide)) pas0 (by rfl) (da_cons (de_bin op_mulA (de_v pe_int) (de_var (pv 13))) (da_nil)))) (by decide)) (da_nil))) (nomark _)))))))))
abbrev s_law : Stmt := topS 33
theorem sc_law : FnScope N_law ["script"] (defScope s_law) := ⟨rfl, rfl, rfl, by decide +kernel, rfl, by decide +kernel, by decide +kernel⟩
theorem d_law {f : Addr} (T : TopM K mg) (C_law_cup : Cal P w K mg base "_law_cup" 1 1 sp_law_cup) (C_with_number : Cal P w K mg base "with_number" 2 2 sp_with_number) (C_number_at : Cal P w K mg base "number_at" 3 3 sp_number_at) (C_octets_of : Cal P w K mg base "octets_of" 1 3 sp_octets_of) (C_bits_of : Cal P w K mg base "bits_of" 1 4 sp_bits_of) (C_are_bits : Cal P w K mg base "are_bits" 1 2 sp_are_bits) (C_are_octets : Cal P w K mg base "are_octets" 1 3 sp_are_octets) (C_law_octets_right : Cal P w K mg base "_law_octets_right" 1 5 sp_law_octets_right) (C_law_cut_right : Cal P w K mg base "_law_cut_right" 2 5 sp_law_cut_right) (C_law_some : Cal P w K mg base "_law_some" 2 2 sp_law_some) (C_law_roll : Cal P w K mg base "_law_roll" 2 1 sp_law_roll) (cdv : Value) (A : Around) (outer : List Env) (s : Shared) (H : Hp) (E : XK) (hr : Room 5 (A.deeper (envOfC "law" (defScope s_law) s.heap.objs.size f cdv))) :
    DSs (cxOf (L2.CX P w) P w K mg base N_law "law" (defScope s_law) f cdv A outer s H E) (fun cls d _ H => E cls d H) (defBody s_law) t_law := by

  have nd := sc_law.nd
  have hp : Pas (cxOf (L2.CX P w) P w K mg base N_law "law" (defScope s_law) f cdv A outer s H E) (fun cls d _ H => E cls d H) := pas_of (takes_of rfl rfl rfl rfl)
  exact dss_cons (ds_set (i := 1) nd rfl (by first | exact Or.inl rfl | exact Or.inr rfl) (de_call C_law_cup (hr.mono (by decide)) hp (by rfl) (da_cons (de_var (pv 0)) (da_nil))))
    (dss_cons (ds_set (i := 2) nd rfl (by first | exact Or.inl rfl | exact Or.inr rfl) (de_tup (da_cons (de_call C_bits_of (hr.mono (by decide)) hp (by rfl) (da_cons (de_tup (da_cons (de_v pe_int) (da_cons (de_v pe_int) (da_cons (de_v pe_int) (da_nil))))) (da_nil))) (da_cons (de_call C_octets_of (hr.mono (by decide)) hp (by rfl) (da_cons (de_str (l := [49]) (by decide +kernel)) (da_nil))) (da_cons (de_call C_octets_of (hr.mono (by decide)) hp (by rfl) (da_cons (de_str (l := [48, 48, 48, 48, 48, 48, 48, 49, 49]) (by decide +kernel)) (da_nil))) (da_cons (de_call C_number_at (hr.mono (by decide)) hp (by rfl) (da_cons (de_str (l := [48, 49, 49, 48]) (by decide +kernel)) (da_cons (de_v pe_int) (da_cons (de_v pe_int) (da_nil))))) (da_cons (de_call C_with_number (hr.mono (by decide)) hp (by rfl) (da_cons (de_v pe_int) (da_cons (de_v pe_int) (da_nil)))) (da_cons (de_call C_with_number (hr.mono (by decide)) hp (by rfl) (da_cons (de_v pe_int) (da_cons (de_v pe_int) (da_nil)))) (da_nil)))))))))
    (dss_cons (ds_set (i := 2) nd rfl (by first | exact Or.inl rfl | exact Or.inr rfl) (de_bin op_addD (de_var (pv 2)) (de_tup (da_cons (de_call C_with_number (hr.mono (by decide)) hp (by rfl) (da_cons (de_bin op_subD (de_bin op_powD (de_v pe_int) (de_v pe_int)) (de_v pe_int)) (da_cons (de_v pe_int) (da_nil)))) (da_cons (de_call C_number_at (hr.mono (by decide)) hp (by rfl) (da_cons (de_str (l := []) (by decide +kernel)) (da_cons (de_v pe_int) (da_cons (de_v pe_int) (da_nil))))) (da_cons (de_call C_octets_of (hr.mono (by decide)) hp (by rfl) (da_cons (de_str (l := []) (by decide +kernel)) (da_nil))) (da_cons (de_call C_are_bits (hr.mono (by decide)) hp (by rfl) (da_cons (de_str (l := [48, 97]) (by decide +kernel)) (da_nil))) (da_cons (de_call C_are_octets (hr.mono (by decide)) hp (by rfl) (da_cons (de_tup (da_cons (de_v pe_int) (da_cons (de_v pe_int) (da_nil)))) (da_nil))) (da_cons (de_call C_are_octets (hr.mono (by decide)) hp (by rfl) (da_cons (de_tup (da_cons (de_v pe_bl) (da_nil))) (da_nil))) (da_cons (de_call C_are_bits (hr.mono (by decide)) hp (by rfl) (da_cons (de_v pe_int) (da_nil))) (da_nil)))))))))))
    (dss_cons (ds_if (dt_cmp (op_neE hr.units) (de_var (pv 2)) (de_tup (da_cons (de_str (l := [49, 48, 48, 48, 48, 48, 48, 48, 48, 48, 48, 48, 48, 48, 48, 49, 48, 49, 49, 48, 48, 48, 48, 48]) (by decide +kernel)) (da_cons (de_tup (da_cons (de_v pe_int) (da_nil))) (da_cons (de_tup (da_cons (de_v pe_int) (da_cons (de_v pe_int) (da_nil)))) (da_cons (de_v pe_int) (da_cons (de_str (l := [49, 48, 49, 48]) (by decide +kernel)) (da_cons (de_str (l := []) (by decide +kernel)) (da_cons (de_bin op_mulA (de_str (l := [49]) (by decide +kernel)) (de_v pe_int)) (da_cons (de_v pe_int) (da_cons (de_tup (da_nil)) (da_cons (de_v pe_bl) (da_cons (de_v pe_bl) (da_cons (de_v pe_bl) (da_cons (de_v pe_bl) (da_nil))))))))))))))) (nomark _)) (dss_one (ds_ret (de_v pe_bl))) (dss_nil))
    (dss_cons (ds_if ((dw_or (dt_not (dt_val (de_call C_law_octets_right (hr.mono (by decide)) hp (by rfl) (da_cons (de_tupRg1 rfl (by rfl) T.m_tuple (by rfl) T.m_range (de_v pe_int)) (da_nil))))) (dw_or (dt_not (dt_val (de_call C_law_octets_right (hr.mono (by decide)) hp (by rfl) (da_cons (de_tup (da_nil)) (da_nil))))) (dw_or (dt_not (dt_val (de_call C_law_octets_right (hr.mono (by decide)) hp (by rfl) (da_cons (de_tup (da_cons (de_v pe_int) (da_cons (de_v pe_int) (da_cons (de_v pe_int) (da_cons (de_v pe_int) (da_nil)))))) (da_nil))))) (dw_or1 (dt_not (dt_val (de_call C_law_cut_right (hr.mono (by decide)) hp (by rfl) (da_cons (de_var (pv 1)) (da_cons (de_tup (da_cons (de_v pe_int) (da_cons (de_v pe_int) (da_cons (de_v pe_int) (da_nil))))) (da_nil)))))))))).pt) (dss_one (ds_ret (de_v pe_bl))) (dss_nil))
    (dss_cons (ds_for (passes_of rfl) rfl (di_seq (de_tup (da_cons (de_v pe_int) (da_cons (de_v pe_int) (da_cons (de_v pe_int) (da_cons (de_v pe_int) (da_nil))))))) (dg_name (i := 3) nd rfl (by first | exact Or.inl rfl | exact Or.inr rfl)) (dss_cons (ds_set (i := 4) nd rfl (by first | exact Or.inl rfl | exact Or.inr rfl) (de_callTy cl_tuple (by rfl) T.m_tuple (by decide +kernel) (da_cons (de_lc (own := [("at", 5)]) (is := [5]) rfl nd (di_range1 (by rfl) T.m_range (da_cons (de_var (pv 3)) (da_nil))) (blkOk_by (show blkC N_law (defScope s_law) _ _ = true from by decide +kernel)) (fun _ _ _ _ _ => dg_name (i := 5) nd rfl (by first | exact Or.inl rfl | exact Or.inr rfl)) (fun _ _ _ _ _ => dpts_nil) (fun _ _ _ _ _ => de_call C_law_some (hr.mono (by decide)) pas0 (by rfl) (da_cons (de_var (pv 1)) (da_cons (de_lst (da_cons (de_call C_law_roll (hr.mono (by decide)) pas0 (by rfl) (da_cons (de_var (pv 1)) (da_cons (de_v pe_int) (da_nil)))) (da_cons (de_v pe_int) (da_cons (de_v pe_int) (da_cons (de_v pe_int) (da_nil)))))) (da_nil)))) (by decide)) (da_nil))))
    (dss_one (ds_if ((dw_or (dt_not (dt_val (de_call C_law_octets_right (hr.mono (by decide)) hp (by rfl) (da_cons (de_var (pv 4)) (da_nil))))) (dw_or (dt_not (dt_val (de_call C_law_cut_right (hr.mono (by decide)) hp (by rfl) (da_cons (de_var (pv 1)) (da_cons (de_var (pv 4)) (da_nil)))))) (dw_or1 (dt_cmp (op_neE hr.units) (de_call C_bits_of (hr.mono (by decide)) hp (by rfl) (da_cons (de_bin op_addD (de_var (pv 4)) (de_slice (de_var (pv 4)) (do_none) (do_some (de_v pe_int)))) (da_nil))) (de_bin op_addD (de_call C_bits_of (hr.mono (by decide)) hp (by rfl) (da_cons (de_var (pv 4)) (da_nil))) (de_call C_bits_of (hr.mono (by decide)) hp (by rfl) (da_cons (de_slice (de_var (pv 4)) (do_none) (do_some (de_v pe_int))) (da_nil)))) (nomark _))))).pt) (dss_one (ds_ret (de_v pe_bl))) (dss_nil)))))
    (dss_one (ds_ret (de_v pe_bl))))))))
end
/-- a law's end, where what may be let out hangs on the world -/
theorem walk_ofW {l : PySem.W.OpenLaw} {n k : Nat} {q : Program} {loose : List Str} {XP : (Str → Option Value) → Heap → Prop} {YP : World → Heap → Prop} {d : DefRec} {CX : World → CXT} {x : Str}
    (hn : l.most = some n) (hn2 : n ≤ sizeLine) (hdf : d.params.defaults = []) (hr : Room k callerA)
    (F : ∀ (w : World) (mg : Str → Option Value) (fa : Addr) (h : Heap), YP w h → h.Ns mainGlobals mg → mg d.name = some (.ref fa) →
      ∃ (K : PySem.W.Frag) (fd : FuncData) (sp : Sp), K.In h ∧ (∀ (s : Shared) (u : Value), BindsTo s fd ⟨[u], []⟩ [(x, u)]) ∧
        (∀ (H : Hp) (a : Addr) (ns : List Int), ns.length ≤ n → Only H → SqL K H a (ns.map V.int) → sp [.ref a] H (fun v _ => v = .bl true) fun _ _ _ => False) ∧
        ∀ base : Heap, K.In base → base.Ns mainGlobals mg → FnOk l.prog w K mg base (CX w) k fa fd [x] sp)
    (hCX : ∀ (w : World) (H : Hp) (s : Shared) (e : Value) (s' : Shared), CX w [] H s (fun _ _ _ => False) e s' → False) :
    PySem.W.WalkO q loose XP YP l.row.toRowW d [] (fun f vs => PySem.call f vs) := by
  refine Att.attach_call hn hdf fun w s₀ s₁ mg mb fa o pm cd doc a vs ns G Y ho hd hcd hmg hobj hints hlen hg => ?_
  obtain ⟨K, fd, sp, KX, hb, hsp, hF⟩ := F w mg fa _ Y G.T.g hmg
  exact law_call KX G.T.g G.T.b G.T.builtins G.T.nolimit hg hobj hints (Nat.le_trans hlen hn2) hr hF hb (fun H hO hS => hsp H a ns hlen hO hS) fun H e s' => hCX w H s₁ e s'
theorem scr_ok {K : PySem.W.Frag} {H : Hp} {a : Addr} {ns : List Int} (hO : Only H) (hS : SqL K H a (ns.map V.int)) : Ok K (fun _ => none) (fun _ => False) H ∧ RepVs K (fun _ => none) (fun _ => False) H [.scr (ns.map dI)] [.ref a] := by
  refine ⟨⟨fun _ _ e => (by cases e), fun _ f => f.elim⟩, .ref a, [], rfl, ⟨a, ns.map V.int, rfl, ?_, ints_reps ns⟩, rfl⟩
  rcases hS with (h | ⟨o, h⟩) | h
  · rcases hO a with e | ⟨o, xs, e⟩
    · rw [e] at h; cases h
    · rw [e] at h; cases h
  · exact .inl ⟨o, h, rfl, fun f => f⟩
  · exact .inr h
def df_is_whole : He.DefD := ⟨("is_whole", none), "is_whole", "is_whole", defArgs s_is_whole, defBody s_is_whole, defScope s_is_whole, [], []⟩
def df_is_tuple_of : He.DefD := ⟨("is_tuple_of", none), "is_tuple_of", "is_tuple_of", defArgs s_is_tuple_of, defBody s_is_tuple_of, defScope s_is_tuple_of, [], []⟩
def df_fits_bits : He.DefD := ⟨("fits_bits", none), "fits_bits", "fits_bits", defArgs s_fits_bits, defBody s_fits_bits, defScope s_fits_bits, [], []⟩
def df_fits_octets : He.DefD := ⟨("fits_octets", none), "fits_octets", "fits_octets", defArgs s_fits_octets, defBody s_fits_octets, defScope s_fits_octets, [], []⟩
def df_need_bits : He.DefD := ⟨("need_bits", none), "need_bits", "need_bits", defArgs s_need_bits, defBody s_need_bits, defScope s_need_bits, [], []⟩
def df_need_octets : He.DefD := ⟨("need_octets", none), "need_octets", "need_octets", defArgs s_need_octets, defBody s_need_octets, defScope s_need_octets, [], []⟩
def df_number_of : He.DefD := ⟨("number_of", none), "number_of", "number_of", defArgs s_number_of, defBody s_number_of, defScope s_number_of, [], []⟩
def df_bits_for : He.DefD := ⟨("bits_for", none), "bits_for", "bits_for", defArgs s_bits_for, defBody s_bits_for, defScope s_bits_for, [], []⟩
def df_spread : He.DefD := ⟨("spread", none), "spread", "spread", defArgs s_spread, defBody s_spread, defScope s_spread, [], []⟩
def df_gathered : He.DefD := ⟨("gathered", none), "gathered", "gathered", defArgs s_gathered, defBody s_gathered, defScope s_gathered, [], []⟩
def df_power : He.DefD := ⟨("power", none), "power", "power", defArgs s_power, defBody s_power, defScope s_power, [], []⟩
def df_are_bits : He.DefD := ⟨("are_bits", none), "are_bits", "are_bits", defArgs s_are_bits, defBody s_are_bits, defScope s_are_bits, [], []⟩
def df_are_octets : He.DefD := ⟨("are_octets", none), "are_octets", "are_octets", defArgs s_are_octets, defBody s_are_octets, defScope s_are_octets, [], []⟩
def df_bits_of : He.DefD := ⟨("bits_of", none), "bits_of", "bits_of", defArgs s_bits_of, defBody s_bits_of, defScope s_bits_of, [], []⟩
def df_octets_of : He.DefD := ⟨("octets_of", none), "octets_of", "octets_of", defArgs s_octets_of, defBody s_octets_of, defScope s_octets_of, [], []⟩
def df_number_at : He.DefD := ⟨("number_at", none), "number_at", "number_at", defArgs s_number_at, defBody s_number_at, defScope s_number_at, [], []⟩
def df_with_number : He.DefD := ⟨("with_number", none), "with_number", "with_number", defArgs s_with_number, defBody s_with_number, defScope s_with_number, [], []⟩
def df_law_cup : He.DefD := ⟨("_law_cup", none), "_law_cup", "_law_cup", defArgs s_law_cup, defBody s_law_cup, defScope s_law_cup, [], []⟩
def df_law_roll : He.DefD := ⟨("_law_roll", none), "_law_roll", "_law_roll", defArgs s_law_roll, defBody s_law_roll, defScope s_law_roll, [], []⟩
def df_law_some : He.DefD := ⟨("_law_some", none), "_law_some", "_law_some", defArgs s_law_some, defBody s_law_some, defScope s_law_some, [], []⟩
def df_law_power : He.DefD := ⟨("_law_power", none), "_law_power", "_law_power", defArgs s_law_power, defBody s_law_power, defScope s_law_power, [], []⟩
def df_law_sum : He.DefD := ⟨("_law_sum", none), "_law_sum", "_law_sum", defArgs s_law_sum, defBody s_law_sum, defScope s_law_sum, [], []⟩
def df_law_octets_right : He.DefD := ⟨("_law_octets_right", none), "_law_octets_right", "_law_octets_right", defArgs s_law_octets_right, defBody s_law_octets_right, defScope s_law_octets_right, [], []⟩
def df_law_cut_right : He.DefD := ⟨("_law_cut_right", none), "_law_cut_right", "_law_cut_right", defArgs s_law_cut_right, defBody s_law_cut_right, defScope s_law_cut_right, [], []⟩
def df_law : He.DefD := ⟨("law", none), "law", "law", defArgs s_law, defBody s_law, defScope s_law, [], []⟩
def fn : List He.DefD := [df_is_whole, df_is_tuple_of, df_fits_bits, df_fits_octets, df_need_bits, df_need_octets, df_number_of, df_bits_for, df_spread, df_gathered, df_power, df_are_bits, df_are_octets, df_bits_of, df_octets_of, df_number_at, df_with_number, df_law_cup, df_law_roll, df_law_some, df_law_power, df_law_sum, df_law_octets_right, df_law_cut_right, df_law]
def fa : List He.Fa := [.glo "is_whole", .glo "is_tuple_of", .glo "fits_bits", .glo "fits_octets", .glo "need_bits", .glo "need_octets", .glo "number_of", .glo "bits_for", .glo "spread", .glo "gathered", .glo "power", .glo "are_bits", .glo "are_octets", .glo "bits_of", .glo "octets_of", .glo "number_at", .glo "with_number", .glo "_law_cup", .glo "_law_roll", .glo "_law_some", .glo "_law_power", .glo "_law_sum", .glo "_law_octets_right", .glo "_law_cut_right", .glo "law", .free "abs", .free "all", .free "bool", .free "enumerate", .free "int", .free "isinstance", .free "len", .free "list", .free "min", .free "range", .free "str", .free "sum", .free "tuple", .int "BITS" (630000), .int "OCTETS" (70000)]
abbrev R : PySem.W.OpenRow := PySem.W.OpenLaw.row PySem.Challenge.rw_tightstreams_k00_whole_bits_by_powers
abbrev hk : PySem.W.Hook := He.hookD 4 fa fn
def ob (s : PySem.W.SharedT) : He.AlD := He.obsDG 4 fa fn (HandSHeadRun.getT s)
theorem ob_eq (s : PySem.W.SharedT) : ob s = hk.obs s.abs := He.obsDG_eq (HandSHeadRun.getT_eq s)
def lo0 : List PySem.Str := ["TightError", "InvalidBits", "InvalidOctets", "InvalidNumber", "OCTETS", "BITS", "is_whole", "is_tuple_of", "fits_bits", "fits_octets", "need_bits", "need_octets", "number_of", "bits_for", "spread", "gathered", "power", "are_bits", "are_octets", "bits_of", "octets_of", "number_at", "with_number", "_law_cup", "_law_roll", "_law_some", "_law_power", "_law_sum", "_law_octets_right", "_law_cut_right"]
abbrev loose : List PySem.Str := lo0
theorem run (w : World) : HandSHeadRun.RunEq R (PySem.W.view R.prog [33]) hk ob 2240 loose w := by
  intro os
  kernel_rfl
theorem facts {P : Program} {w : World} {K : PySem.W.Frag} {h : Heap} {mg : Str → Option Value} {f : Addr} (X : K.In h) (G : h.Ns mainGlobals mg) (hfa : mg ("law" : Str) = some (.ref f)) (c : He.SaysD fa fn K) :
    ∃ fd : FuncData, (∀ (s : Shared) (v : Value), BindsTo s fd ⟨[v], []⟩ [("script", v)]) ∧ ∀ base : Heap, K.In base → base.Ns mainGlobals mg → FnOk P w K mg base (L2.CX P w) 6 f fd ["script"] fun vs H Q E => vs.length = 1 ∧ liftSp K mg sp_law vs H Q E := by
  have T : TopM K mg :=
    { m_abs := He.free_ok X G (c.fact 25 rfl)
      m_all := He.free_ok X G (c.fact 26 rfl)
      m_bool := He.free_ok X G (c.fact 27 rfl)
      m_enumerate := He.free_ok X G (c.fact 28 rfl)
      m_int := He.free_ok X G (c.fact 29 rfl)
      m_isinstance := He.free_ok X G (c.fact 30 rfl)
      m_len := He.free_ok X G (c.fact 31 rfl)
      m_list := He.free_ok X G (c.fact 32 rfl)
      m_min := He.free_ok X G (c.fact 33 rfl)
      m_range := He.free_ok X G (c.fact 34 rfl)
      m_str := He.free_ok X G (c.fact 35 rfl)
      m_sum := He.free_ok X G (c.fact 36 rfl)
      m_tuple := He.free_ok X G (c.fact 37 rfl)
      k_BITS := He.int_ok X G (c.fact 38 rfl)
      k_OCTETS := He.int_ok X G (c.fact 39 rfl) }
  obtain ⟨fd_is_whole, F_is_whole⟩ := c.def_ 0 (d := df_is_whole) rfl
  obtain ⟨fd_is_tuple_of, F_is_tuple_of⟩ := c.def_ 1 (d := df_is_tuple_of) rfl
  obtain ⟨fd_fits_bits, F_fits_bits⟩ := c.def_ 2 (d := df_fits_bits) rfl
  obtain ⟨fd_fits_octets, F_fits_octets⟩ := c.def_ 3 (d := df_fits_octets) rfl
  obtain ⟨fd_need_bits, F_need_bits⟩ := c.def_ 4 (d := df_need_bits) rfl
  obtain ⟨fd_need_octets, F_need_octets⟩ := c.def_ 5 (d := df_need_octets) rfl
  obtain ⟨fd_number_of, F_number_of⟩ := c.def_ 6 (d := df_number_of) rfl
  obtain ⟨fd_bits_for, F_bits_for⟩ := c.def_ 7 (d := df_bits_for) rfl
  obtain ⟨fd_spread, F_spread⟩ := c.def_ 8 (d := df_spread) rfl
  obtain ⟨fd_gathered, F_gathered⟩ := c.def_ 9 (d := df_gathered) rfl
  obtain ⟨fd_power, F_power⟩ := c.def_ 10 (d := df_power) rfl
  obtain ⟨fd_are_bits, F_are_bits⟩ := c.def_ 11 (d := df_are_bits) rfl
  obtain ⟨fd_are_octets, F_are_octets⟩ := c.def_ 12 (d := df_are_octets) rfl
  obtain ⟨fd_bits_of, F_bits_of⟩ := c.def_ 13 (d := df_bits_of) rfl
  obtain ⟨fd_octets_of, F_octets_of⟩ := c.def_ 14 (d := df_octets_of) rfl
  obtain ⟨fd_number_at, F_number_at⟩ := c.def_ 15 (d := df_number_at) rfl
  obtain ⟨fd_with_number, F_with_number⟩ := c.def_ 16 (d := df_with_number) rfl
  obtain ⟨fd_law_cup, F_law_cup⟩ := c.def_ 17 (d := df_law_cup) rfl
  obtain ⟨fd_law_roll, F_law_roll⟩ := c.def_ 18 (d := df_law_roll) rfl
  obtain ⟨fd_law_some, F_law_some⟩ := c.def_ 19 (d := df_law_some) rfl
  obtain ⟨fd_law_power, F_law_power⟩ := c.def_ 20 (d := df_law_power) rfl
  obtain ⟨fd_law_sum, F_law_sum⟩ := c.def_ 21 (d := df_law_sum) rfl
  obtain ⟨fd_law_octets_right, F_law_octets_right⟩ := c.def_ 22 (d := df_law_octets_right) rfl
  obtain ⟨fd_law_cut_right, F_law_cut_right⟩ := c.def_ 23 (d := df_law_cut_right) rfl
  obtain ⟨fd_law, F_law⟩ := c.def_ 24 (d := df_law) rfl
  have e := hfa.symm.trans (He.glo_ok X G (c.fact 24 (f := .glo "law") rfl))
  cases e
  have b := FunD.bindsA (ps := ["script"]) F_law fun _ _ _ _ _ _ us hl => match us, hl with | [_], _ => rfl
  refine ⟨fd_law, fun s v => b s [v] rfl, fun base _ _ => ?_⟩
  have C_is_whole : Cal P w K mg base "is_whole" 3 1 sp_is_whole := cal_of (He.glo_ok X G (c.fact 0 rfl)) F_is_whole sc_is_whole (fun _ _ _ _ _ _ us hl => match us, hl with | [_, _, _], _ => rfl) rfl (fun cdv A outer s H E hr => d_is_whole T  cdv A outer s H E hr) (fun ds S Q E _ q => vc_is_whole ds S Q E q)
  have C_is_tuple_of : Cal P w K mg base "is_tuple_of" 3 1 sp_is_tuple_of := cal_of (He.glo_ok X G (c.fact 1 rfl)) F_is_tuple_of sc_is_tuple_of (fun _ _ _ _ _ _ us hl => match us, hl with | [_, _, _], _ => rfl) rfl (fun cdv A outer s H E hr => d_is_tuple_of T  cdv A outer s H E hr) (fun ds S Q E _ q => vc_is_tuple_of ds S Q E q)
  have C_fits_bits : Cal P w K mg base "fits_bits" 1 1 sp_fits_bits := cal_of (He.glo_ok X G (c.fact 2 rfl)) F_fits_bits sc_fits_bits (fun _ _ _ _ _ _ us hl => match us, hl with | [_], _ => rfl) rfl (fun cdv A outer s H E hr => d_fits_bits T  cdv A outer s H E hr) (fun ds S Q E _ q => vc_fits_bits ds S Q E q)
  have C_fits_octets : Cal P w K mg base "fits_octets" 1 2 sp_fits_octets := cal_of (He.glo_ok X G (c.fact 3 rfl)) F_fits_octets sc_fits_octets (fun _ _ _ _ _ _ us hl => match us, hl with | [_], _ => rfl) rfl (fun cdv A outer s H E hr => d_fits_octets T C_is_tuple_of C_is_whole cdv A outer s H E hr) (fun ds S Q E _ q => vc_fits_octets ds S Q E q)
  have C_need_bits : Cal P w K mg base "need_bits" 1 2 sp_need_bits := cal_of (He.glo_ok X G (c.fact 4 rfl)) F_need_bits sc_need_bits (fun _ _ _ _ _ _ us hl => match us, hl with | [_], _ => rfl) rfl (fun cdv A outer s H E hr => d_need_bits T C_fits_bits cdv A outer s H E hr) (fun ds S Q E _ q => vc_need_bits ds S Q E q)
  have C_need_octets : Cal P w K mg base "need_octets" 1 3 sp_need_octets := cal_of (He.glo_ok X G (c.fact 5 rfl)) F_need_octets sc_need_octets (fun _ _ _ _ _ _ us hl => match us, hl with | [_], _ => rfl) rfl (fun cdv A outer s H E hr => d_need_octets T C_fits_octets cdv A outer s H E hr) (fun ds S Q E _ q => vc_need_octets ds S Q E q)
  have C_number_of : Cal P w K mg base "number_of" 1 1 sp_number_of := cal_of (He.glo_ok X G (c.fact 6 rfl)) F_number_of sc_number_of (fun _ _ _ _ _ _ us hl => match us, hl with | [_], _ => rfl) rfl (fun cdv A outer s H E hr => d_number_of T  cdv A outer s H E hr) (fun ds S Q E _ q => vc_number_of ds S Q E q)
  have C_bits_for : Cal P w K mg base "bits_for" 2 1 sp_bits_for := cal_of (He.glo_ok X G (c.fact 7 rfl)) F_bits_for sc_bits_for (fun _ _ _ _ _ _ us hl => match us, hl with | [_, _], _ => rfl) rfl (fun cdv A outer s H E hr => d_bits_for T  cdv A outer s H E hr) (fun ds S Q E _ q => vc_bits_for ds S Q E q)
  have C_spread : Cal P w K mg base "spread" 1 2 sp_spread := cal_of (He.glo_ok X G (c.fact 8 rfl)) F_spread sc_spread (fun _ _ _ _ _ _ us hl => match us, hl with | [_], _ => rfl) rfl (fun cdv A outer s H E hr => d_spread T C_bits_for cdv A outer s H E hr) (fun ds S Q E _ q => vc_spread ds S Q E q)
  have C_gathered : Cal P w K mg base "gathered" 1 2 sp_gathered := cal_of (He.glo_ok X G (c.fact 9 rfl)) F_gathered sc_gathered (fun _ _ _ _ _ _ us hl => match us, hl with | [_], _ => rfl) rfl (fun cdv A outer s H E hr => d_gathered T C_number_of cdv A outer s H E hr) (fun ds S Q E _ q => vc_gathered ds S Q E q)
  have C_power : Cal P w K mg base "power" 1 1 sp_power := cal_of (He.glo_ok X G (c.fact 10 rfl)) F_power sc_power (fun _ _ _ _ _ _ us hl => match us, hl with | [_], _ => rfl) rfl (fun cdv A outer s H E hr => d_power T  cdv A outer s H E hr) (fun ds S Q E _ q => vc_power ds S Q E q)
  have C_are_bits : Cal P w K mg base "are_bits" 1 2 sp_are_bits := cal_of (He.glo_ok X G (c.fact 11 rfl)) F_are_bits sc_are_bits (fun _ _ _ _ _ _ us hl => match us, hl with | [_], _ => rfl) rfl (fun cdv A outer s H E hr => d_are_bits T C_fits_bits cdv A outer s H E hr) (fun ds S Q E _ q => vc_are_bits ds S Q E q)
  have C_are_octets : Cal P w K mg base "are_octets" 1 3 sp_are_octets := cal_of (He.glo_ok X G (c.fact 12 rfl)) F_are_octets sc_are_octets (fun _ _ _ _ _ _ us hl => match us, hl with | [_], _ => rfl) rfl (fun cdv A outer s H E hr => d_are_octets T C_fits_octets cdv A outer s H E hr) (fun ds S Q E _ q => vc_are_octets ds S Q E q)
  have C_bits_of : Cal P w K mg base "bits_of" 1 4 sp_bits_of := cal_of (He.glo_ok X G (c.fact 13 rfl)) F_bits_of sc_bits_of (fun _ _ _ _ _ _ us hl => match us, hl with | [_], _ => rfl) rfl (fun cdv A outer s H E hr => d_bits_of T C_need_octets C_spread cdv A outer s H E hr) (fun ds S Q E _ q => vc_bits_of ds S Q E q)
  have C_octets_of : Cal P w K mg base "octets_of" 1 3 sp_octets_of := cal_of (He.glo_ok X G (c.fact 14 rfl)) F_octets_of sc_octets_of (fun _ _ _ _ _ _ us hl => match us, hl with | [_], _ => rfl) rfl (fun cdv A outer s H E hr => d_octets_of T C_need_bits C_gathered cdv A outer s H E hr) (fun ds S Q E _ q => vc_octets_of ds S Q E q)
  have C_number_at : Cal P w K mg base "number_at" 3 3 sp_number_at := cal_of (He.glo_ok X G (c.fact 15 rfl)) F_number_at sc_number_at (fun _ _ _ _ _ _ us hl => match us, hl with | [_, _, _], _ => rfl) rfl (fun cdv A outer s H E hr => d_number_at T C_need_bits C_is_whole C_number_of cdv A outer s H E hr) (fun ds S Q E _ q => vc_number_at ds S Q E q)
  have C_with_number : Cal P w K mg base "with_number" 2 2 sp_with_number := cal_of (He.glo_ok X G (c.fact 16 rfl)) F_with_number sc_with_number (fun _ _ _ _ _ _ us hl => match us, hl with | [_, _], _ => rfl) rfl (fun cdv A outer s H E hr => d_with_number T C_is_whole C_power C_bits_for cdv A outer s H E hr) (fun ds S Q E _ q => vc_with_number ds S Q E q)
  have C_law_cup : Cal P w K mg base "_law_cup" 1 1 sp_law_cup := cal_of (He.glo_ok X G (c.fact 17 rfl)) F_law_cup sc_law_cup (fun _ _ _ _ _ _ us hl => match us, hl with | [_], _ => rfl) rfl (fun cdv A outer s H E hr => d_law_cup T  cdv A outer s H E hr) (fun ds S Q E _ q => vc_law_cup ds S Q E q)
  have C_law_roll : Cal P w K mg base "_law_roll" 2 1 sp_law_roll := cal_of (He.glo_ok X G (c.fact 18 rfl)) F_law_roll sc_law_roll (fun _ _ _ _ _ _ us hl => match us, hl with | [_, _], _ => rfl) rfl (fun cdv A outer s H E hr => d_law_roll T  cdv A outer s H E hr) (fun ds S Q E _ q => vc_law_roll ds S Q E q)
  have C_law_some : Cal P w K mg base "_law_some" 2 2 sp_law_some := cal_of (He.glo_ok X G (c.fact 19 rfl)) F_law_some sc_law_some (fun _ _ _ _ _ _ us hl => match us, hl with | [_, _], _ => rfl) rfl (fun cdv A outer s H E hr => d_law_some T C_law_roll cdv A outer s H E hr) (fun ds S Q E _ q => vc_law_some ds S Q E q)
  have C_law_power : Cal P w K mg base "_law_power" 1 1 sp_law_power := cal_of (He.glo_ok X G (c.fact 20 rfl)) F_law_power sc_law_power (fun _ _ _ _ _ _ us hl => match us, hl with | [_], _ => rfl) rfl (fun cdv A outer s H E hr => d_law_power T  cdv A outer s H E hr) (fun ds S Q E _ q => vc_law_power ds S Q E q)
  have C_law_sum : Cal P w K mg base "_law_sum" 1 2 sp_law_sum := cal_of (He.glo_ok X G (c.fact 21 rfl)) F_law_sum sc_law_sum (fun _ _ _ _ _ _ us hl => match us, hl with | [_], _ => rfl) rfl (fun cdv A outer s H E hr => d_law_sum T C_law_power cdv A outer s H E hr) (fun ds S Q E _ q => vc_law_sum ds S Q E q)
  have C_law_octets_right : Cal P w K mg base "_law_octets_right" 1 5 sp_law_octets_right := cal_of (He.glo_ok X G (c.fact 22 rfl)) F_law_octets_right sc_law_octets_right (fun _ _ _ _ _ _ us hl => match us, hl with | [_], _ => rfl) rfl (fun cdv A outer s H E hr => d_law_octets_right T C_bits_of C_are_octets C_are_bits C_octets_of C_law_power C_number_at cdv A outer s H E hr) (fun ds S Q E _ q => vc_law_octets_right ds S Q E q)
  have C_law_cut_right : Cal P w K mg base "_law_cut_right" 2 5 sp_law_cut_right := cal_of (He.glo_ok X G (c.fact 23 rfl)) F_law_cut_right sc_law_cut_right (fun _ _ _ _ _ _ us hl => match us, hl with | [_, _], _ => rfl) rfl (fun cdv A outer s H E hr => d_law_cut_right T C_bits_of C_law_roll C_octets_of C_law_power C_number_at C_law_sum C_with_number cdv A outer s H E hr) (fun ds S Q E _ q => vc_law_cut_right ds S Q E q)
  exact fnok_of F_law sc_law (fun _ _ _ _ _ _ us hl => match us, hl with | [_], _ => rfl) rfl (fun cdv A outer s H E hr => d_law T C_law_cup C_with_number C_number_at C_octets_of C_bits_of C_are_bits C_are_octets C_law_octets_right C_law_cut_right C_law_some C_law_roll cdv A outer s H E hr) (fun ds S Q E _ q => vc_law ds S Q E q)
end DL
open PySem PySem.W PySem.Calls PyProof.Rows
theorem PySem.Challenge.cw_tightstreams_k00_whole_bits_by_powers_holds : PySem.Challenge.rw_tightstreams_k00_whole_bits_by_powers.Holds := by
  w_on; o_law
  refine HandSHeadRun.head_any (r := OpenLaw.row PySem.Challenge.rw_tightstreams_k00_whole_bits_by_powers) (q := view (OpenLaw.row PySem.Challenge.rw_tightstreams_k00_whole_bits_by_powers).prog [33]) (H := DL.hk) (ob := DL.ob) (M := 2240) (loose := DL.loose) (d := HandSHeadRun.topDef (OpenLaw.row PySem.Challenge.rw_tightstreams_k00_whole_bits_by_powers).prog 33) (kwd := []) DL.ob_eq
    (by kernel_rfl) (fun s => by kernel_rfl) DL.run (by kernel_rfl) (by kernel_rfl) (by kernel_rfl) (by rfl) (by first | assumption | decide +kernel) (by decide +kernel) ⟨rfl, rfl, rfl, rfl, rfl, by decide +kernel⟩ ?hw ?hc
  case hw => w_witness2
  case hc =>
    refine DL.walk_ofW (l := PySem.Challenge.rw_tightstreams_k00_whole_bits_by_powers) (n := 63) (k := 6) (x := "script") (CX := fun w => L2.CX (PySem.Challenge.rw_tightstreams_k00_whole_bits_by_powers).prog w) rfl (by decide) (by kernel_rfl) ⟨rfl, by decide, by decide⟩ ?F (fun w H s e s' ⟨_, _, _, _, _, _, _, _, _, _, _, _, h⟩ => h)
    intro w mg fa h Y G hmg0
    obtain ⟨K, KX, c⟩ := Y
    have hmg : mg ("law" : PySem.Str) = some (.ref fa) := by
      have e : (HandSHeadRun.topDef (OpenLaw.row PySem.Challenge.rw_tightstreams_k00_whole_bits_by_powers).prog 33).name = ("law" : PySem.Str) := by kernel_rfl
      rw [← e]
      exact hmg0
    obtain ⟨fd, hb, hF⟩ := DL.facts (P := (PySem.Challenge.rw_tightstreams_k00_whole_bits_by_powers).prog) (w := w) KX G hmg c
    refine ⟨K, fd, fun vs H Q E => vs.length = 1 ∧ DL.liftSp K mg DL.sp_law vs H Q E, KX, hb, fun H a ns hl hO hS => ⟨rfl, ?_⟩, hF⟩
    obtain ⟨h1, h2⟩ := DL.scr_ok hO hS
    exact ⟨fun _ => none, fun _ => False, _, fun d _ => d = DL.dB true, fun _ _ _ => False, h1, h2, ⟨ns, rfl, by omega, fun _ => rfl⟩, fun d S' v H' _ _ r e => by subst e; exact r, fun _ _ _ _ _ _ _ _ e => e.elim⟩
