import PyProof.Rows.All
import Wide.All
import OpenK.AllK
import Wide.FinOn
import HandS.ForMost
import HandS.ForExc
import HandS.ExcCtx
import HandS.CallSlots
import HandS.HotCalls
import HandS.ExcInit
import HandS.ExcIs
import HandS.ExcField
import HandS.IsInst
import HandS.WordsExc
import HandS.TupAny
import HandS.Style
import HandS.Wide
import HandS.Text
import HandS.Zip
import HandS.Iter
import KE.GoesMore
import HandS.OwnEq
import HandS.MakeKw
import HandS.More
import HandS.ExcBuiltin
import KE.KExcIs
import HandS.Head0
import HandS.Head1
import HandS.Head2
import HandS.HeadEnd
import HandS.HeadHook1
import HandS.HeadHook2
import HandS.HeadHook3
import HandS.Conv
import PySem.Challenge.RW_keptlight_k04_photos_of_some_names
set_option Elab.async false
set_option linter.all false
set_option maxRecDepth 100000
set_option maxHeartbeats 4000000
/-! DL, first part: data D, the store, the relation with the tracked heap. -/
namespace DL
open PySem PySem.Spec PyProof.Rows L2

/-- a value as data: tuples, frozen lists, frozen instances and dicts by content; ref: a thing of the store, that may change -/
inductive D where
  | non | bl (b : Bool) | int (i : Int) | str (x : Str) | tup (xs : List D) | lst (xs : List D) | ref (n : Nat) | ins (c : String) (vs : List D) | dic (ks : List Str) (vs : List D) | adr (a : Addr) | ty (n : String) | scr (ns : List Int)
/-- a thing of the store -/
inductive Ob where
  | lst (xs : List D) | well | inst (c : String) (ks : List Str) (vs : List D) | dic (ks : List Key) (vs : List D) | dead
abbrev Sto := List Ob
/-- the own classes: where each stands, its fields in the order of storing -/
structure Gm where
  ca : String → Addr
  fo : String → List Str
  /-- lists that are being made, which no value names -/
  hid : List Addr := []
abbrev Gm.hide (g : Gm) (l : List Addr) : Gm := { g with hid := l }

/-- what stands at a and does not change -/
def Fz (ι : List Addr) (H : Hp) (a : Addr) (u : HO) : Prop := a ∉ ι ∧ Rd H a u
/-- a list of the written part -/
def SqLK (K : PySem.W.Frag) (a : Addr) (xs : List V) : Prop := ∃ (o : Obj) (its : Array Value) (n : Nat), K.lookup a = some o ∧ o.cls = .type "list" ∧ o.dict = none ∧ o.data = .seq its n ∧ its.size ≤ sizeLine ∧ Vals xs its.toList
mutual
inductive R (K : PySem.W.Frag) (g : Gm) (ι : List Addr) (H : Hp) : V → D → Prop
  | non : R K g ι H .non .non
  | bl (b : Bool) : R K g ι H (.bl b) (.bl b)
  | int (i : Int) : R K g ι H (.int i) (.int i)
  | str (x : Str) : R K g ι H (.str x) (.str x)
  | adr (a : Addr) : R K g ι H (.ref a) (.adr a)
  | ty (n : String) : R K g ι H (.ty n) (.ty n)
  | scr {a : Addr} {ns : List Int} : (Fz ι H a (.lst (ns.map V.int)) ∧ a ∉ g.hid) ∨ SqLK K a (ns.map V.int) → R K g ι H (.ref a) (.scr ns)
  | tup {a : Addr} {vs : List V} {ds : List D} : Fz ι H a (.tup vs) → RL K g ι H vs ds → R K g ι H (.ref a) (.tup ds)
  | tupK {a : Addr} {vs : List V} {ds : List D} {o : Obj} {its : Array Value} {n : Nat} : K.lookup a = some o → o.cls = .type "tuple" → o.data = .seq its n → its.size ≤ sizeLine → Vals vs its.toList → RL K g ι H vs ds → R K g ι H (.ref a) (.tup ds)
  | lst {a : Addr} {vs : List V} {ds : List D} : a ∉ g.hid → (a ∉ ι ∧ H a = some (.lst vs)) → RL K g ι H vs ds → R K g ι H (.ref a) (.lst ds)
  | ref {a : Addr} {n : Nat} : ι[n]? = some a → R K g ι H (.ref a) (.ref n)
  | ins {a dx : Addr} {c : String} {fs : List (Str × V)} {ds : List D} : a ∉ ι → H a = some (.ins (g.ca c) dx fs) → fs.map (·.1) = g.fo c → RL K g ι H (fs.map (·.2)) ds → R K g ι H (.ref a) (.ins c ds)
  | dic {a : Addr} {kvs : List (Key × V)} {ks : List Str} {ds : List D} : Fz ι H a (.dK kvs) → kvs.map (·.1) = ks.map Sum.inr → RL K g ι H (kvs.map (·.2)) ds → R K g ι H (.ref a) (.dic ks ds)
inductive RL (K : PySem.W.Frag) (g : Gm) (ι : List Addr) (H : Hp) : List V → List D → Prop
  | nil : RL K g ι H [] []
  | cons {v : V} {vs : List V} {d : D} {ds : List D} : R K g ι H v d → RL K g ι H vs ds → RL K g ι H (v :: vs) (d :: ds)
end

def Grow (ι : List Addr) (H : Hp) (ι' : List Addr) (H' : Hp) : Prop := (∃ more, ι' = ι ++ more ∧ ∀ a ∈ more, H a = none) ∧ ∀ a o, a ∉ ι → H a = some o → H' a = some o
theorem Grow.refl {ι : List Addr} {H : Hp} : Grow ι H ι H := ⟨⟨[], by simp, by simp⟩, fun _ _ _ h => h⟩
theorem Grow.notin {ι ι' : List Addr} {H H' : Hp} (g : Grow ι H ι' H') {a : Addr} (h : a ∉ ι) (h2 : H a ≠ none) : a ∉ ι' := by
  obtain ⟨⟨more, e, f⟩, _⟩ := g
  rw [e, List.mem_append]
  rintro (z | z)
  · exact h z
  · exact h2 (f a z)
theorem Grow.trans {ι ι1 ι2 : List Addr} {H H1 H2 : Hp} (a : Grow ι H ι1 H1) (b : Grow ι1 H1 ι2 H2) (hs : ∀ x ∈ ι1, H1 x ≠ none) : Grow ι H ι2 H2 := by
  have na := @Grow.notin _ _ _ _ a
  obtain ⟨⟨m1, e1, f1⟩, k1⟩ := a
  obtain ⟨⟨m2, e2, f2⟩, k2⟩ := b
  refine ⟨⟨m1 ++ m2, by rw [e2, e1, List.append_assoc], fun x hx => ?_⟩, fun x o hx ho => ?_⟩
  · rcases List.mem_append.mp hx with z | z
    · exact f1 x z
    · cases q : H x with
      | none => rfl
      | some u =>
        by_cases hi : x ∈ ι
        · have := hs x (by rw [e1]; exact List.mem_append_left _ hi)
          exact absurd (f2 x z) this
        · have := k1 x u hi q
          rw [f2 x z] at this; cases this
  · exact k2 x o (na hx (by rw [ho]; simp)) (k1 x o hx ho)
theorem Fz.mono {ι ι' : List Addr} {H H' : Hp} {a : Addr} {u : HO} (g : Grow ι H ι' H') (h : Fz ι H a u) : Fz ι' H' a u := by
  obtain ⟨n, r⟩ := h
  rcases r with r | ⟨o, r⟩
  · exact ⟨g.notin n (by rw [r]; simp), .inl (g.2 _ _ n r)⟩
  · exact ⟨g.notin n (by rw [r]; simp), .inr ⟨o, g.2 _ _ n r⟩⟩
section
variable {K : PySem.W.Frag} {g : Gm} {ι ι' : List Addr} {H H' : Hp}
mutual
theorem R.mono (k : Grow ι H ι' H') : ∀ {v : V} {d : D}, R K g ι H v d → R K g ι' H' v d
  | _, _, .non => .non
  | _, _, .bl b => .bl b
  | _, _, .int i => .int i
  | _, _, .str x => .str x
  | _, _, .adr a => .adr a
  | _, _, .tup f r => .tup (f.mono k) (RL.mono k r)
  | _, _, .tupK a b c d e r => .tupK a b c d e (RL.mono k r)
  | _, _, .ty a => .ty a
  | _, _, .scr h => .scr (h.imp (fun h => ⟨h.1.mono k, h.2⟩) id)
  | _, _, .lst n f r => .lst n ⟨k.notin f.1 (by rw [f.2]; simp), k.2 _ _ f.1 f.2⟩ (RL.mono k r)
  | _, _, .ref (a := a) (n := n) e => .ref (by
      obtain ⟨⟨more, q, _⟩, _⟩ := k
      rw [q, List.getElem?_append_left (List.getElem?_eq_some_iff.mp e).1]; exact e)
  | _, _, .ins n h e r => .ins (k.notin n (by rw [h]; simp)) (k.2 _ _ n h) e (RL.mono k r)
  | _, _, .dic f e r => .dic (f.mono k) e (RL.mono k r)
theorem RL.mono (k : Grow ι H ι' H') : ∀ {vs : List V} {ds : List D}, RL K g ι H vs ds → RL K g ι' H' vs ds
  | _, _, .nil => .nil
  | _, _, .cons a r => .cons (R.mono k a) (RL.mono k r)
end
mutual
/-- .. with other hidden lists, younger than the value -/
theorem R.monoH {hid : List Addr} (k : Grow ι H ι' H') (hh : ∀ a ∈ hid, a ∈ g.hid ∨ H a = none) : ∀ {v : V} {d : D}, R K g ι H v d → R K (g.hide hid) ι' H' v d
  | _, _, .non => .non
  | _, _, .bl b => .bl b
  | _, _, .int i => .int i
  | _, _, .str x => .str x
  | _, _, .adr a => .adr a
  | _, _, .tup f r => .tup (f.mono k) (RL.monoH k hh r)
  | _, _, .tupK a b c d e r => .tupK a b c d e (RL.monoH k hh r)
  | _, _, .ty a => .ty a
  | _, _, .scr h => .scr (h.imp (fun h => ⟨h.1.mono k, fun z => (hh _ z).elim h.2 fun z => by
      rcases h.1.2 with q | ⟨o, q⟩ <;> · rw [z] at q; exact nomatch q⟩) id)
  | _, _, .lst n f r => .lst (fun z => (hh _ z).elim n fun z => by rw [f.2] at z; exact nomatch z) ⟨k.notin f.1 (by rw [f.2]; simp), k.2 _ _ f.1 f.2⟩ (RL.monoH k hh r)
  | _, _, .ref (a := a) (n := n) e => .ref (by
      obtain ⟨⟨more, q, _⟩, _⟩ := k
      rw [q, List.getElem?_append_left (List.getElem?_eq_some_iff.mp e).1]; exact e)
  | _, _, .ins n h e r => .ins (k.notin n (by rw [h]; simp)) (k.2 _ _ n h) e (RL.monoH k hh r)
  | _, _, .dic f e r => .dic (f.mono k) e (RL.monoH k hh r)
theorem RL.monoH {hid : List Addr} (k : Grow ι H ι' H') (hh : ∀ a ∈ hid, a ∈ g.hid ∨ H a = none) : ∀ {vs : List V} {ds : List D}, RL K g ι H vs ds → RL K (g.hide hid) ι' H' vs ds
  | _, _, .nil => .nil
  | _, _, .cons a r => .cons (R.monoH k hh a) (RL.monoH k hh r)
end
theorem RL.length : ∀ {vs : List V} {ds : List D}, RL K g ι H vs ds → vs.length = ds.length
  | _, _, .nil => rfl
  | _, _, .cons _ r => by rw [List.length_cons, List.length_cons, RL.length r]
theorem RL.get : ∀ {vs : List V} {ds : List D} {i : Nat} {d : D}, RL K g ι H vs ds → ds[i]? = some d → ∃ v, vs[i]? = some v ∧ R K g ι H v d
  | _, _, _, _, .nil, e => by simp at e
  | _, _, 0, _, .cons a _, e => by simp at e; subst e; exact ⟨_, rfl, a⟩
  | _, _, i + 1, d, .cons _ r, e => by
    obtain ⟨u, h1, h2⟩ := RL.get (i := i) (d := d) r (by simpa using e)
    exact ⟨u, by simpa using h1, h2⟩
theorem RL.getV : ∀ {vs : List V} {ds : List D} {i : Nat} {v : V}, RL K g ι H vs ds → vs[i]? = some v → ∃ d, ds[i]? = some d ∧ R K g ι H v d
  | _, _, _, _, .nil, e => by simp at e
  | _, _, 0, _, .cons a _, e => by simp at e; subst e; exact ⟨_, rfl, a⟩
  | _, _, i + 1, d, .cons _ r, e => by
    obtain ⟨u, h1, h2⟩ := RL.getV (i := i) (v := d) r (by simpa using e)
    exact ⟨u, by simpa using h1, h2⟩
theorem RL.append : ∀ {vs ws : List V} {ds es : List D}, RL K g ι H vs ds → RL K g ι H ws es → RL K g ι H (vs ++ ws) (ds ++ es)
  | _, _, _, _, .nil, s => s
  | _, _, _, _, .cons r t, s => .cons r (RL.append t s)
theorem RL.set {v : V} {d : D} (r : R K g ι H v d) : ∀ {vs : List V} {ds : List D} (i : Nat), RL K g ι H vs ds → RL K g ι H (vs.set i v) (ds.set i d)
  | _, _, _, .nil => .nil
  | _, _, 0, .cons _ t => .cons r t
  | _, _, i + 1, .cons q t => .cons q (RL.set r i t)
theorem RL.take : ∀ {vs : List V} {ds : List D} (n : Nat), RL K g ι H vs ds → RL K g ι H (vs.take n) (ds.take n)
  | _, _, 0, _ => by simp; exact .nil
  | _, _, _ + 1, .nil => .nil
  | _, _, n + 1, .cons r t => .cons r (RL.take n t)
theorem RL.drop : ∀ {vs : List V} {ds : List D} (n : Nat), RL K g ι H vs ds → RL K g ι H (vs.drop n) (ds.drop n)
  | _, _, 0, r => r
  | _, _, _ + 1, .nil => .nil
  | _, _, n + 1, .cons _ t => RL.drop n t
end

def ObR (K : PySem.W.Frag) (g : Gm) (ι : List Addr) (H : Hp) (a : Addr) : Ob → Prop
  | .lst ds => ∃ vs, H a = some (.lst vs) ∧ RL K g ι H vs ds
  | .well => ∃ i j k l : Int, H a = some (.lst [.int i, .int j, .int k, .int l])
  | .inst c ks ds => ∃ dx fs, H a = some (.ins (g.ca c) dx fs) ∧ fs.map (·.1) = ks ∧ RL K g ι H (fs.map (·.2)) ds
  | .dic ks ds => ∃ kvs, H a = some (.dK kvs) ∧ kvs.map (·.1) = ks ∧ RL K g ι H (kvs.map (·.2)) ds
  | .dead => H a ≠ none
theorem ObR.there {K : PySem.W.Frag} {g : Gm} {ι : List Addr} {H : Hp} {a : Addr} {o : Ob} (h : ObR K g ι H a o) : H a ≠ none := by
  cases o with
  | lst ds => obtain ⟨_, e, _⟩ := h; rw [e]; simp
  | well => obtain ⟨_, _, _, _, e⟩ := h; rw [e]; simp
  | inst c ks ds => obtain ⟨_, _, e, _⟩ := h; rw [e]; simp
  | dic ks ds => obtain ⟨_, e, _⟩ := h; rw [e]; simp
  | dead => exact h
/-- the same object, the rest grown -/
theorem ObR.mono {K : PySem.W.Frag} {g : Gm} {ι ι' : List Addr} {H H' : Hp} {a : Addr} {o : Ob} (k : Grow ι H ι' H') (e : H' a = H a) (h : ObR K g ι H a o) : ObR K g ι' H' a o := by
  cases o with
  | lst ds => obtain ⟨vs, q, r⟩ := h; exact ⟨vs, e.trans q, r.mono k⟩
  | well => obtain ⟨i, j, l, m, q⟩ := h; exact ⟨i, j, l, m, e.trans q⟩
  | inst c ks ds => obtain ⟨dx, fs, q, z, r⟩ := h; exact ⟨dx, fs, e.trans q, z, r.mono k⟩
  | dic ks ds => obtain ⟨kvs, q, z, r⟩ := h; exact ⟨kvs, e.trans q, z, r.mono k⟩
  | dead => exact fun z => h (e.symm.trans z)

structure StoR (K : PySem.W.Frag) (g : Gm) (ι : List Addr) (H : Hp) (S : Sto) : Prop where
  len : ι.length = S.length
  nd : ι.Nodup
  ob : ∀ (n : Nat) a o, ι[n]? = some a → S[n]? = some o → ObR K g ι H a o
  hd : ∀ a ∈ g.hid, a ∉ ι ∧ ∃ vs, H a = some (.lst vs)
theorem StoR.nohid {K : PySem.W.Frag} {g : Gm} {ι : List Addr} {H : Hp} {S : Sto} (s : StoR K g ι H S) {p : Addr} (h : H p = none) : p ∉ g.hid := fun z => by
  obtain ⟨_, vs, e⟩ := s.hd p z
  rw [h] at e; cases e
theorem StoR.there {K : PySem.W.Frag} {g : Gm} {ι : List Addr} {H : Hp} {S : Sto} (s : StoR K g ι H S) : ∀ a ∈ ι, H a ≠ none := fun a ha => by
  obtain ⟨n, hn, e⟩ := List.getElem_of_mem ha
  have h2 : n < S.length := by rw [← s.len]; exact hn
  exact (s.ob n a S[n] (by rw [List.getElem?_eq_getElem hn, e]) (List.getElem?_eq_getElem h2)).there
theorem StoR.free {K : PySem.W.Frag} {g : Gm} {ι : List Addr} {H : Hp} {S : Sto} (s : StoR K g ι H S) {p : Addr} (h : H p = none) : p ∉ ι := fun z => s.there p z h
theorem StoR.at {K : PySem.W.Frag} {g : Gm} {ι : List Addr} {H : Hp} {S : Sto} (s : StoR K g ι H S) {n : Nat} {o : Ob} (h : S[n]? = some o) : ∃ a, ι[n]? = some a ∧ ObR K g ι H a o := by
  have hn : n < ι.length := by rw [s.len]; exact (List.getElem?_eq_some_iff.mp h).1
  exact ⟨ι[n], List.getElem?_eq_getElem hn, s.ob n _ o (List.getElem?_eq_getElem hn) h⟩

section
variable {K : PySem.W.Frag} {g : Gm} {ι : List Addr} {H : Hp} {S : Sto} {p : Addr} {u : HO}
/-- a new thing that never changes -/
theorem grow_new (h : H p = none) : Grow ι H ι (upd H p u) := ⟨⟨[], by simp, by simp⟩, fun a o _ e => by rw [upd_ne (ne_of_none e h)]; exact e⟩
theorem StoR.new (s : StoR K g ι H S) (h : H p = none) : StoR K g ι (upd H p u) S :=
  ⟨s.len, s.nd, fun n a o e q => (s.ob n a o e q).mono (grow_new h) (by
    have := (s.ob n a o e q).there
    exact upd_ne fun z => this (by rw [z]; exact h)), fun a ha => ⟨(s.hd a ha).1, by
    obtain ⟨_, vs, e⟩ := s.hd a ha
    exact ⟨vs, by rw [upd_ne (ne_of_none e h)]; exact e⟩⟩⟩
/-- a new thing that may change -/
theorem grow_add (h : H p = none) : Grow ι H (ι ++ [p]) (upd H p u) := ⟨⟨[p], rfl, fun a ha => by rw [List.mem_singleton] at ha; rw [ha]; exact h⟩, fun a o _ e => by rw [upd_ne (ne_of_none e h)]; exact e⟩
theorem StoR.add {o : Ob} (s : StoR K g ι H S) (h : H p = none) (hu : ObR K g (ι ++ [p]) (upd H p u) p o) : StoR K g (ι ++ [p]) (upd H p u) (S ++ [o]) := by
  refine ⟨by simp [s.len], ?_, fun n a o' e q => ?_, fun a ha => ?_⟩
  · rw [List.nodup_append]
    refine ⟨s.nd, by simp, fun a ha b hb => ?_⟩
    rw [List.mem_singleton] at hb
    rintro rfl
    exact s.there a ha (by rw [hb]; exact h)
  · by_cases hn : n < ι.length
    · rw [List.getElem?_append_left hn] at e
      rw [List.getElem?_append_left (by rw [← s.len]; exact hn)] at q
      have z := s.ob n a o' e q
      exact z.mono (grow_add h) (upd_ne fun w => z.there (by rw [w]; exact h))
    · have hlt := (List.getElem?_eq_some_iff.mp e).1
      rw [List.length_append, List.length_singleton] at hlt
      have hn' : n = ι.length := by omega
      subst hn'
      rw [List.getElem?_append_right (Nat.le_refl _), Nat.sub_self] at e
      rw [List.getElem?_append_right (by rw [s.len]; exact Nat.le_refl _), s.len, Nat.sub_self] at q
      simp at e q
      subst e; subst q; exact hu
  · obtain ⟨n, vs, e⟩ := s.hd a ha
    refine ⟨?_, vs, by rw [upd_ne (ne_of_none e h)]; exact e⟩
    rw [List.mem_append, List.mem_singleton]
    rintro (z | z)
    · exact n z
    · exact ne_of_none e h z
/-- a thing of the store changes -/
theorem grow_set {n : Nat} {a : Addr} (h : ι[n]? = some a) : Grow ι H ι (upd H a u) := ⟨⟨[], by simp, by simp⟩, fun b o hb e => by
  rw [upd_ne fun z => hb (by rw [z]; exact List.mem_of_getElem? h)]; exact e⟩
theorem StoR.put {n : Nat} {a : Addr} {o : Ob} (s : StoR K g ι H S) (h : ι[n]? = some a) (hu : ObR K g ι (upd H a u) a o) : StoR K g ι (upd H a u) (S.set n o) := by
  refine ⟨by simp [s.len], s.nd, fun m b o' e q => ?_, fun b hb => ⟨(s.hd b hb).1, by
    obtain ⟨n', vs, e⟩ := s.hd b hb
    exact ⟨vs, by rw [upd_ne fun z => n' (by rw [z]; exact List.mem_of_getElem? h)]; exact e⟩⟩⟩
  by_cases hm : m = n
  · subst hm
    rw [h] at e; cases e
    rw [List.getElem?_set_self (by rw [← s.len]; exact (List.getElem?_eq_some_iff.mp h).1)] at q
    cases q; exact hu
  · rw [List.getElem?_set_ne (Ne.symm hm)] at q
    refine (s.ob m b o' e q).mono (grow_set h) (upd_ne fun z => hm ?_)
    subst z
    obtain ⟨h1, e1⟩ := List.getElem?_eq_some_iff.mp e
    obtain ⟨h2, e2⟩ := List.getElem?_eq_some_iff.mp h
    exact (List.getElem_inj s.nd).mp (e1.trans e2.symm)
end
/-! ### a list that is being made -/
section
variable {K : PySem.W.Frag} {g : Gm} {ι : List Addr} {H H' : Hp} {S : Sto} {p : Addr} {xs ys : List V}
theorem ne_lst {a : Addr} {u : HO} (h : H p = some (.lst xs)) (e : H a = some u) (hu : ∀ zs, u ≠ .lst zs) : a ≠ p := fun z => by
  rw [z, h] at e
  exact hu xs (Option.some.inj e).symm
theorem Fz.ne_lst {u : HO} {a : Addr} (h : H p = some (.lst xs)) (hu : ∀ zs, u ≠ .lst zs) (f : Fz ι H a u) : a ≠ p := by
  rcases f.2 with r | ⟨o, r⟩
  · exact DL.ne_lst h r hu
  · exact DL.ne_lst h r fun _ z => nomatch z
theorem Fz.upd_ne {u : HO} {a : Addr} (hne : a ≠ p) {w : HO} (f : Fz ι H a u) : Fz ι (upd H p w) a u := by
  obtain ⟨n, r⟩ := f
  rcases r with r | ⟨o, r⟩
  · exact ⟨n, .inl (by rw [L2.upd_ne hne]; exact r)⟩
  · exact ⟨n, .inr ⟨o, by rw [L2.upd_ne hne]; exact r⟩⟩
theorem Fz.upd_lst {u : HO} {a : Addr} (h : H p = some (.lst xs)) (hu : ∀ zs, u ≠ .lst zs) {w : HO} (f : Fz ι H a u) : Fz ι (upd H p w) a u := f.upd_ne (f.ne_lst h hu)
theorem Fz.ne_none {u : HO} {a : Addr} (h : H p = none) (f : Fz ι H a u) : a ≠ p := by
  rcases f.2 with r | ⟨o, r⟩
  · exact ne_of_none r h
  · exact ne_of_none r h
theorem notin_app {a : Addr} (h : a ∉ ι) (h2 : a ≠ p) : a ∉ ι ++ [p] := by
  rw [List.mem_append, List.mem_singleton]
  rintro (z | z)
  · exact h z
  · exact h2 z
theorem no_tup {ts : List V} : ∀ zs, HO.tup ts ≠ .lst zs := fun _ z => nomatch z
theorem no_dic {ts : List (Key × V)} : ∀ zs, HO.dK ts ≠ .lst zs := fun _ z => nomatch z
theorem no_ins {C dx : Addr} {ts : List (Str × V)} : ∀ zs, HO.ins C dx ts ≠ .lst zs := fun _ z => nomatch z
mutual
/-- the hidden list changes -/
theorem R.hid {w : List V} (hp : p ∈ g.hid) (h : H p = some (.lst xs)) : ∀ {v : V} {d : D}, R K g ι H v d → R K g ι (upd H p (.lst w)) v d
  | _, _, .non => .non
  | _, _, .bl b => .bl b
  | _, _, .int i => .int i
  | _, _, .str x => .str x
  | _, _, .adr a => .adr a
  | _, _, .tup f r => .tup (f.upd_lst h no_tup) (RL.hid hp h r)
  | _, _, .tupK a b c d e r => .tupK a b c d e (RL.hid hp h r)
  | _, _, .ty a => .ty a
  | _, _, .scr q => .scr (q.imp (fun q => ⟨q.1.upd_ne fun z => q.2 (by rw [z]; exact hp), q.2⟩) id)
  | _, _, .lst n f r => .lst n ⟨f.1, (L2.upd_ne fun z => n (by rw [z]; exact hp)).trans f.2⟩ (RL.hid hp h r)
  | _, _, .ref e => .ref e
  | _, _, .ins n e q r => .ins n ((L2.upd_ne (ne_lst h e no_ins)).trans e) q (RL.hid hp h r)
  | _, _, .dic f e r => .dic (f.upd_lst h no_dic) e (RL.hid hp h r)
theorem RL.hid {w : List V} (hp : p ∈ g.hid) (h : H p = some (.lst xs)) : ∀ {vs : List V} {ds : List D}, RL K g ι H vs ds → RL K g ι (upd H p (.lst w)) vs ds
  | _, _, .nil => .nil
  | _, _, .cons a r => .cons (R.hid hp h a) (RL.hid hp h r)
end
mutual
/-- a list is hidden as it is laid -/
theorem R.lay {w : List V} (h : H p = none) : ∀ {v : V} {d : D}, R K g ι H v d → R K (g.hide (p :: g.hid)) ι (upd H p (.lst w)) v d
  | _, _, .non => .non
  | _, _, .bl b => .bl b
  | _, _, .int i => .int i
  | _, _, .str x => .str x
  | _, _, .adr a => .adr a
  | _, _, .tup f r => .tup (f.mono (grow_new h)) (RL.lay h r)
  | _, _, .tupK a b c d e r => .tupK a b c d e (RL.lay h r)
  | _, _, .ty a => .ty a
  | _, _, .scr q => .scr (q.imp (fun q => ⟨q.1.mono (grow_new h), List.not_mem_cons_of_ne_of_not_mem (q.1.ne_none h) q.2⟩) id)
  | _, _, .lst n f r => .lst (List.not_mem_cons_of_ne_of_not_mem (ne_of_none f.2 h) n) ⟨f.1, (L2.upd_ne (ne_of_none f.2 h)).trans f.2⟩ (RL.lay h r)
  | _, _, .ref e => .ref e
  | _, _, .ins n e q r => .ins n ((L2.upd_ne (ne_of_none e h)).trans e) q (RL.lay h r)
  | _, _, .dic f e r => .dic (f.mono (grow_new h)) e (RL.lay h r)
theorem RL.lay {w : List V} (h : H p = none) : ∀ {vs : List V} {ds : List D}, RL K g ι H vs ds → RL K (g.hide (p :: g.hid)) ι (upd H p (.lst w)) vs ds
  | _, _, .nil => .nil
  | _, _, .cons a r => .cons (R.lay h a) (RL.lay h r)
end
mutual
/-- .. shown -/
theorem R.show : ∀ {v : V} {d : D}, R K (g.hide (p :: g.hid)) ι H v d → R K g ι H v d
  | _, _, .non => .non
  | _, _, .bl b => .bl b
  | _, _, .int i => .int i
  | _, _, .str x => .str x
  | _, _, .adr a => .adr a
  | _, _, .tup f r => .tup f (RL.show r)
  | _, _, .tupK a b c d e r => .tupK a b c d e (RL.show r)
  | _, _, .ty a => .ty a
  | _, _, .scr q => .scr (q.imp (fun q => ⟨q.1, fun z => q.2 (List.mem_cons_of_mem _ z)⟩) id)
  | _, _, .lst n f r => .lst (fun z => n (List.mem_cons_of_mem _ z)) f (RL.show r)
  | _, _, .ref e => .ref e
  | _, _, .ins n e q r => .ins n e q (RL.show r)
  | _, _, .dic f e r => .dic f e (RL.show r)
theorem RL.show : ∀ {vs : List V} {ds : List D}, RL K (g.hide (p :: g.hid)) ι H vs ds → RL K g ι H vs ds
  | _, _, .nil => .nil
  | _, _, .cons a r => .cons (R.show a) (RL.show r)
end
mutual
/-- .. taken into the store -/
theorem R.take_ (h : H p = some (.lst xs)) : ∀ {v : V} {d : D}, R K (g.hide (p :: g.hid)) ι H v d → R K g (ι ++ [p]) H v d
  | _, _, .non => .non
  | _, _, .bl b => .bl b
  | _, _, .int i => .int i
  | _, _, .str x => .str x
  | _, _, .adr a => .adr a
  | _, _, .tup f r => .tup ⟨notin_app f.1 (f.ne_lst h no_tup), f.2⟩ (RL.take_ h r)
  | _, _, .tupK a b c d e r => .tupK a b c d e (RL.take_ h r)
  | _, _, .ty a => .ty a
  | _, _, .scr q => .scr (q.imp (fun q => ⟨⟨notin_app q.1.1 (fun z => q.2 (by rw [z]; exact List.mem_cons_self)), q.1.2⟩, fun z => q.2 (List.mem_cons_of_mem _ z)⟩) id)
  | _, _, .lst n f r => .lst (fun z => n (List.mem_cons_of_mem _ z)) ⟨notin_app f.1 (fun z => n (by rw [z]; exact List.mem_cons_self)), f.2⟩ (RL.take_ h r)
  | _, _, .ref e => .ref (by rw [List.getElem?_append_left (List.getElem?_eq_some_iff.mp e).1]; exact e)
  | _, _, .ins n e q r => .ins (notin_app n (ne_lst h e no_ins)) e q (RL.take_ h r)
  | _, _, .dic f e r => .dic ⟨notin_app f.1 (f.ne_lst h no_dic), f.2⟩ e (RL.take_ h r)
theorem RL.take_ (h : H p = some (.lst xs)) : ∀ {vs : List V} {ds : List D}, RL K (g.hide (p :: g.hid)) ι H vs ds → RL K g (ι ++ [p]) H vs ds
  | _, _, .nil => .nil
  | _, _, .cons a r => .cons (R.take_ h a) (RL.take_ h r)
end
theorem ObR.conv {g g' : Gm} {ι ι' : List Addr} {a : Addr} {o : Ob} (h : ObR K g ι H a o) (hc : g'.ca = g.ca) (e : H' a = H a) (f : ∀ vs ds, RL K g ι H vs ds → RL K g' ι' H' vs ds) : ObR K g' ι' H' a o := by
  cases o with
  | lst ds => obtain ⟨vs, q, r⟩ := h; exact ⟨vs, e.trans q, f _ _ r⟩
  | well => obtain ⟨i, j, l, m, q⟩ := h; exact ⟨i, j, l, m, e.trans q⟩
  | inst c ks ds => obtain ⟨dx, fs, q, z, r⟩ := h; exact ⟨dx, fs, by rw [e, q, hc], z, f _ _ r⟩
  | dic ks ds => obtain ⟨kvs, q, z, r⟩ := h; exact ⟨kvs, e.trans q, z, f _ _ r⟩
  | dead => exact fun z => h (e.symm.trans z)
theorem StoR.hid {w : List V} (hp : p ∈ g.hid) (s : StoR K g ι H S) : StoR K g ι (upd H p (.lst w)) S := by
  obtain ⟨np, xs, h⟩ := s.hd p hp
  refine ⟨s.len, s.nd, fun n a o e q => (s.ob n a o e q).conv rfl (upd_ne fun z => np (by rw [← z]; exact List.mem_of_getElem? e)) (fun _ _ r => r.hid hp h), fun a ha => ⟨(s.hd a ha).1, ?_⟩⟩
  by_cases hq : a = p
  · exact ⟨w, by rw [hq, upd_same]⟩
  · obtain ⟨_, vs, e⟩ := s.hd a ha
    exact ⟨vs, by rw [upd_ne hq]; exact e⟩
theorem StoR.lay {w : List V} (h : H p = none) (s : StoR K g ι H S) : StoR K (g.hide (p :: g.hid)) ι (upd H p (.lst w)) S := by
  refine ⟨s.len, s.nd, fun n a o e q => (s.ob n a o e q).conv rfl (upd_ne fun z => s.free h (by rw [← z]; exact List.mem_of_getElem? e)) (fun _ _ r => r.lay h), fun a ha => ?_⟩
  rcases List.mem_cons.mp ha with rfl | ha
  · exact ⟨s.free h, w, upd_same⟩
  · obtain ⟨n, vs, e⟩ := s.hd a ha
    exact ⟨n, vs, by rw [upd_ne (ne_of_none e h)]; exact e⟩
theorem StoR.show (s : StoR K (g.hide (p :: g.hid)) ι H S) : StoR K g ι H S :=
  ⟨s.len, s.nd, fun n a o e q => (s.ob n a o e q).conv rfl rfl (fun _ _ r => r.show), fun a ha => s.hd a (List.mem_cons_of_mem _ ha)⟩
theorem StoR.take_ {ds : List D} (nd : p ∉ g.hid) (s : StoR K (g.hide (p :: g.hid)) ι H S) (h : H p = some (.lst xs)) (r : RL K (g.hide (p :: g.hid)) ι H xs ds) : StoR K g (ι ++ [p]) H (S ++ [.lst ds]) := by
  have np : p ∉ ι := (s.hd p List.mem_cons_self).1
  refine ⟨by simp [s.len], ?_, fun n a o e q => ?_, fun a ha => ?_⟩
  · rw [List.nodup_append]
    refine ⟨s.nd, by simp, fun a ha b hb => ?_⟩
    rw [List.mem_singleton] at hb
    rintro rfl
    exact np (by rw [← hb]; exact ha)
  · by_cases hn : n < ι.length
    · rw [List.getElem?_append_left hn] at e
      rw [List.getElem?_append_left (by rw [← s.len]; exact hn)] at q
      exact (s.ob n a o e q).conv rfl rfl (fun _ _ r => r.take_ h)
    · have hlt := (List.getElem?_eq_some_iff.mp e).1
      rw [List.length_append, List.length_singleton] at hlt
      have hn' : n = ι.length := by omega
      subst hn'
      rw [List.getElem?_append_right (Nat.le_refl _), Nat.sub_self] at e
      rw [List.getElem?_append_right (by rw [s.len]; exact Nat.le_refl _), s.len, Nat.sub_self] at q
      simp at e q
      subst e; subst q; exact ⟨xs, h, RL.take_ h r⟩
  · obtain ⟨n, vs, e⟩ := s.hd a (List.mem_cons_of_mem _ ha)
    refine ⟨?_, vs, e⟩
    rw [List.mem_append, List.mem_singleton]
    rintro (z | z)
    · exact n z
    · exact nd (by rw [← z]; exact ha)
end
end DL
set_option maxHeartbeats 4000000
/-! DL, second part: the judgements over data, statements, expressions, calls. -/
namespace DL
open PySem PySem.Spec L2

abbrev En := List (Option D)
abbrev DK := D → Sto → Prop
abbrev DE := En → Sto → DK → Prop
abbrev DT := En → Sto → (Bool → Sto → Prop) → Prop
abbrev DA := En → Sto → (List D → Sto → Prop) → Prop
/-- what is wished of an exception: its class, its fields, the slots and the store behind it -/
abbrev XD := String → List D → En → Sto → Prop
structure DEnds where
  nx : En → Sto → Prop
  rt : DK
  bk : En → Sto → Prop := fun _ _ => False
  ct : En → Sto → Prop := fun _ _ => False
abbrev DS := DEnds → En → Sto → Prop

structure EnvR (K : PySem.W.Frag) (g : Gm) (ι : List Addr) (H : Hp) (σ : St) (env : En) : Prop where
  len : σ.length = env.length
  at_ : ∀ (i : Nat) (d : D), env[i]? = some (some d) → ∃ v, σ[i]? = some (some v) ∧ R K g ι H v d
theorem EnvR.mono {K : PySem.W.Frag} {g : Gm} {ι ι' : List Addr} {H H' : Hp} {σ : St} {env : En} (k : Grow ι H ι' H') (e : EnvR K g ι H σ env) : EnvR K g ι' H' σ env :=
  ⟨e.len, fun i d h => let ⟨v, a, b⟩ := e.at_ i d h; ⟨v, a, b.mono k⟩⟩
theorem EnvR.set {K : PySem.W.Frag} {g : Gm} {ι : List Addr} {H : Hp} {σ : St} {env : En} (e : EnvR K g ι H σ env) {v : V} {d : D} (r : R K g ι H v d) (i : Nat) : EnvR K g ι H (σ.set i (some v)) (env.set i (some d)) := by
  refine ⟨by simp [e.len], fun j d' h => ?_⟩
  by_cases hj : j = i
  · subst hj
    have hl := (List.getElem?_eq_some_iff.mp h).1
    rw [List.length_set] at hl
    rw [List.getElem?_set_self hl] at h
    cases h
    exact ⟨v, List.getElem?_set_self (by rw [e.len]; exact hl), r⟩
  · rw [List.getElem?_set_ne (Ne.symm hj)] at h
    obtain ⟨u, a, b⟩ := e.at_ j d' h
    exact ⟨u, by rw [List.getElem?_set_ne (Ne.symm hj)]; exact a, b⟩
theorem EnvR.unset {K : PySem.W.Frag} {g : Gm} {ι : List Addr} {H : Hp} {σ : St} {env : En} (e : EnvR K g ι H σ env) (i : Nat) (o : Option V) : EnvR K g ι H (σ.set i o) (env.set i none) := by
  refine ⟨by simp [e.len], fun j d' h => ?_⟩
  by_cases hj : j = i
  · subst hj
    have hl := (List.getElem?_eq_some_iff.mp h).1
    rw [List.length_set] at hl
    rw [List.getElem?_set_self hl] at h
    cases h
  · rw [List.getElem?_set_ne (Ne.symm hj)] at h
    obtain ⟨u, a, b⟩ := e.at_ j d' h
    exact ⟨u, by rw [List.getElem?_set_ne (Ne.symm hj)]; exact a, b⟩
/-- the state, since the entry at ι0, H0 -/
structure At (K : PySem.W.Frag) (g : Gm) (ι0 : List Addr) (H0 : Hp) (ι : List Addr) (H : Hp) (σ : St) (env : En) (S : Sto) : Prop where
  gr : Grow ι0 H0 ι H
  en : EnvR K g ι H σ env
  st : StoR K g ι H S
theorem At.on {K : PySem.W.Frag} {g : Gm} {ι0 ι ι' : List Addr} {H0 H H' : Hp} {σ : St} {env : En} {S S' : Sto} (a : At K g ι0 H0 ι H σ env S) (k : Grow ι H ι' H') (s : StoR K g ι' H' S') : At K g ι0 H0 ι' H' σ env S' :=
  ⟨a.gr.trans k a.st.there, a.en.mono k, s⟩
theorem At.to {K : PySem.W.Frag} {g : Gm} {ι0 ι ι' : List Addr} {H0 H H' : Hp} {σ σ' : St} {env env' : En} {S S' : Sto} (a : At K g ι0 H0 ι H σ env S) (k : Grow ι H ι' H') (e : EnvR K g ι' H' σ' env') (s : StoR K g ι' H' S') : At K g ι0 H0 ι' H' σ' env' S' :=
  ⟨a.gr.trans k a.st.there, e, s⟩

/-- how an exception lies -/
def ExR (K : PySem.W.Frag) (g : Gm) (ι : List Addr) (H : Hp) (cls : Value) (d : Option Addr) (c : String) (ds : List D) : Prop :=
  cls = .ref (g.ca c) ∧ ∃ dd fs, d = some dd ∧ dd ∉ ι ∧ H dd = some (.xd fs) ∧ ds.length = (g.fo c).length ∧ ∀ (i : Nat) (n : Str), (g.fo c)[i]? = some n → ∃ v e, fs.lookup n = some v ∧ ds[i]? = some e ∧ R K g ι H v e
theorem ExR.mono {K : PySem.W.Frag} {g : Gm} {ι ι' : List Addr} {H H' : Hp} {cls : Value} {d : Option Addr} {c : String} {ds : List D} (k : Grow ι H ι' H') (x : ExR K g ι H cls d c ds) : ExR K g ι' H' cls d c ds := by
  obtain ⟨e, dd, fs, e2, n, h, l, f⟩ := x
  exact ⟨e, dd, fs, e2, k.notin n (by rw [h]; simp), k.2 _ _ n h, l, fun i n hn => let ⟨v, d, a, b, r⟩ := f i n hn; ⟨v, d, a, b, r.mono k⟩⟩
def lW (K : PySem.W.Frag) (g : Gm) (ι0 : List Addr) (H0 : Hp) (W : XD) : WX := fun cls d σ H => ∃ ι env S c fs, At K g ι0 H0 ι H σ env S ∧ ExR K g ι H cls d c fs ∧ W c fs env S
/-- the context takes the wish W, from the entry at ι0, H0 -/
def Tk (X : Cx) (g : Gm) (ι0 : List Addr) (H0 : Hp) (W : XD) : Prop := L2N.Takes X (lW X.K g ι0 H0 W)

/-! ### the lifts -/
/-- what a continuation over data means over the heap, from ι, H on -/
abbrev lK (K : PySem.W.Frag) (g : Gm) (ι : List Addr) (H : Hp) (Q : VK) : DK := fun d S' => ∀ v H' ι', Grow ι H ι' H' → StoR K g ι' H' S' → R K g ι' H' v d → Q v H'
theorem lK.on {K : PySem.W.Frag} {g : Gm} {ι ι1 : List Addr} {H H1 : Hp} {Q : VK} {d : D} {S : Sto} (h : lK K g ι H Q d S) (k : Grow ι H ι1 H1) (hs : ∀ x ∈ ι1, H1 x ≠ none) : lK K g ι1 H1 Q d S := fun v H' ι' k' s r => h v H' ι' (k.trans k' hs) s r
def lE (K : PySem.W.Frag) (g : Gm) (ι0 : List Addr) (H0 : Hp) (f : DE) : TE := fun σ H Q => ∃ ι env S, At K g ι0 H0 ι H σ env S ∧ f env S (lK K g ι H Q)
def lT (K : PySem.W.Frag) (g : Gm) (ι0 : List Addr) (H0 : Hp) (f : DT) : TT := fun σ H Q => ∃ ι env S, At K g ι0 H0 ι H σ env S ∧ f env S fun b S' => ∀ H' ι', Grow ι H ι' H' → StoR K g ι' H' S' → Q b H'
def lA (K : PySem.W.Frag) (g : Gm) (ι0 : List Addr) (H0 : Hp) (f : DA) : TA := fun σ H Q => ∃ ι env S, At K g ι0 H0 ι H σ env S ∧ f env S fun ds S' => ∀ vs H' ι', Grow ι H ι' H' → StoR K g ι' H' S' → RL K g ι' H' vs ds → Q vs H'
def lC (K : PySem.W.Frag) (g : Gm) (ι : List Addr) (H : Hp) (Q : St → Hp → Prop) : En → Sto → Prop := fun env S => ∀ σ' H' ι', Grow ι H ι' H' → EnvR K g ι' H' σ' env → StoR K g ι' H' S → Q σ' H'
def lD (K : PySem.W.Frag) (g : Gm) (ι : List Addr) (H : Hp) (Dn : Ends) : DEnds := ⟨lC K g ι H Dn.nx, lK K g ι H Dn.rt, lC K g ι H Dn.bk, lC K g ι H Dn.ct⟩
def lS (K : PySem.W.Frag) (g : Gm) (ι0 : List Addr) (H0 : Hp) (f : DS) : TS := fun Dn σ H => ∃ ι env S, At K g ι0 H0 ι H σ env S ∧ f (lD K g ι H Dn) env S

structure DLe (A B : DEnds) : Prop where
  nx : ∀ e s, A.nx e s → B.nx e s
  rt : ∀ d s, A.rt d s → B.rt d s
  bk : ∀ e s, A.bk e s → B.bk e s
  ct : ∀ e s, A.ct e s → B.ct e s
theorem DLe.refl {A : DEnds} : DLe A A := ⟨fun _ _ h => h, fun _ _ h => h, fun _ _ h => h, fun _ _ h => h⟩
theorem lD.le {K : PySem.W.Frag} {g : Gm} {ι ι1 : List Addr} {H H1 : Hp} {Dn : Ends} (k : Grow ι H ι1 H1) (hs : ∀ x ∈ ι1, H1 x ≠ none) : DLe (lD K g ι H Dn) (lD K g ι1 H1 Dn) :=
  ⟨fun _ _ h σ' H' ι' k' => h σ' H' ι' (k.trans k' hs), fun _ _ h v H' ι' k' => h v H' ι' (k.trans k' hs), fun _ _ h σ' H' ι' k' => h σ' H' ι' (k.trans k' hs), fun _ _ h σ' H' ι' k' => h σ' H' ι' (k.trans k' hs)⟩

/-! ### the judgements -/
structure MoE (f : DE) : Prop where
  go : ∀ {env S} {Q Q' : DK}, (∀ d S, Q d S → Q' d S) → f env S Q → f env S Q'
structure MoT (f : DT) : Prop where
  go : ∀ {env S} {Q Q' : Bool → Sto → Prop}, (∀ d S, Q d S → Q' d S) → f env S Q → f env S Q'
structure MoA (f : DA) : Prop where
  go : ∀ {env S} {Q Q' : List D → Sto → Prop}, (∀ d S, Q d S → Q' d S) → f env S Q → f env S Q'
structure MoS (f : DS) : Prop where
  go : ∀ {env S} {A B : DEnds}, DLe A B → f A env S → f B env S
structure PEd (X : Cx) (g : Gm) (ι0 : List Addr) (H0 : Hp) (e : Expr) (f : DE) : Prop where
  mono : MoE f
  pe : PE X e (lE X.K g ι0 H0 f)
structure PTd (X : Cx) (g : Gm) (ι0 : List Addr) (H0 : Hp) (e : Expr) (f : DT) : Prop where
  mono : MoT f
  pt : PT X e (lT X.K g ι0 H0 f)
structure PWd (X : Cx) (g : Gm) (ι0 : List Addr) (H0 : Hp) (e : Expr) (f : DT) : Prop where
  mono : MoT f
  pw : PW X e (lT X.K g ι0 H0 f)
structure PAd (X : Cx) (g : Gm) (ι0 : List Addr) (H0 : Hp) (es : List Expr) (f : DA) : Prop where
  mono : MoA f
  pa : PA X es (lA X.K g ι0 H0 f)
structure PSd (X : Cx) (g : Gm) (ι0 : List Addr) (H0 : Hp) (st : Stmt) (f : DS) : Prop where
  mono : MoS f
  ps : PS X st (lS X.K g ι0 H0 f)
structure PSsd (X : Cx) (g : Gm) (ι0 : List Addr) (H0 : Hp) (st : List Stmt) (f : DS) : Prop where
  mono : MoS f
  ps : PSs X st (lS X.K g ι0 H0 f)

theorem PE.weak {X : Cx} {e : Expr} {t t' : TE} (h : PE X e t) (hw : ∀ pins s σ H Q, Inv X pins σ H s → t' σ H Q → t σ H Q) : PE X e t' := ⟨fun pins s σ H Q I q => h.run pins s σ H Q I (hw _ _ _ _ _ I q)⟩
theorem PT.weak {X : Cx} {e : Expr} {t t' : TT} (h : PT X e t) (hw : ∀ σ H Q, t' σ H Q → t σ H Q) : PT X e t' := ⟨fun pins s σ H Q I q => h.run pins s σ H Q I (hw _ _ _ q)⟩
theorem PW.weak {X : Cx} {e : Expr} {t t' : TT} (h : PW X e t) (hw : ∀ σ H Q, t' σ H Q → t σ H Q) : PW X e t' := ⟨fun wh pins s σ H Q I q => h.run wh pins s σ H Q I (hw _ _ _ q)⟩
theorem PA.weak {X : Cx} {e : List Expr} {t t' : TA} (h : PA X e t) (hw : ∀ σ H Q, t' σ H Q → t σ H Q) : PA X e t' := ⟨fun p pins s σ H Q I q => h.run p pins s σ H Q I (hw _ _ _ q)⟩
theorem PS.weak {X : Cx} {e : Stmt} {t t' : TS} (h : PS X e t) (hw : ∀ pins s σ H Q, Inv X pins σ H s → t' Q σ H → t Q σ H) : PS X e t' := ⟨fun pins s σ H Q I q => h.run pins s σ H Q I (hw _ _ _ _ _ I q)⟩
theorem PSs.weak {X : Cx} {e : List Stmt} {t t' : TS} (h : PSs X e t) (hw : ∀ σ H Q, t' Q σ H → t Q σ H) : PSs X e t' := ⟨fun pins s σ H Q I q => h.run pins s σ H Q I (hw _ _ _ q)⟩

/-! ### links: a rule on values, read on data -/
/-- a two-place operation on data -/
abbrev D2 := D → D → Sto → DK → Prop
structure Mo2 (f : D2) : Prop where
  go : ∀ {x y S} {Q Q' : DK}, (∀ d S, Q d S → Q' d S) → f x y S Q → f x y S Q'
structure Lk2 (K : PySem.W.Frag) (g : Gm) (f : D2) (r : R2) : Prop where
  mono : Mo2 f
  lk : ∀ {ι : List Addr} {H : Hp} {S : Sto} {x y : V} {dx dy : D} {Q : VK}, StoR K g ι H S → R K g ι H x dx → R K g ι H y dy → f dx dy S (lK K g ι H Q) → r x y H Q
abbrev D1 := D → Sto → DK → Prop
structure Mo1 (f : D1) : Prop where
  go : ∀ {x S} {Q Q' : DK}, (∀ d S, Q d S → Q' d S) → f x S Q → f x S Q'
structure Lk1 (K : PySem.W.Frag) (g : Gm) (f : D1) (r : V → Hp → VK → Prop) : Prop where
  mono : Mo1 f
  lk : ∀ {ι : List Addr} {H : Hp} {S : Sto} {x : V} {dx : D} {Q : VK}, StoR K g ι H S → R K g ι H x dx → f dx S (lK K g ι H Q) → r x H Q
abbrev DL' := List D → Sto → DK → Prop
structure MoL (f : DL') : Prop where
  go : ∀ {x S} {Q Q' : DK}, (∀ d S, Q d S → Q' d S) → f x S Q → f x S Q'
structure LkL (K : PySem.W.Frag) (g : Gm) (f : DL') (r : List V → Hp → VK → Prop) : Prop where
  mono : MoL f
  lk : ∀ {ι : List Addr} {H : Hp} {S : Sto} {x : List V} {dx : List D} {Q : VK}, StoR K g ι H S → RL K g ι H x dx → f dx S (lK K g ι H Q) → r x H Q
abbrev DM := D → List D → Sto → DK → Prop
structure MoM (f : DM) : Prop where
  go : ∀ {o x S} {Q Q' : DK}, (∀ d S, Q d S → Q' d S) → f o x S Q → f o x S Q'
structure LkM (K : PySem.W.Frag) (g : Gm) (f : DM) (T : String) (r : V → List V → Hp → VK → Prop) : Prop where
  mono : MoM f
  ty : ∀ {ι : List Addr} {H : Hp} {S S' : Sto} {o : V} {do_ : D} {x : List D} {Q : DK}, StoR K g ι H S → R K g ι H o do_ → f do_ x S' Q → tyV K T o H
  lk : ∀ {ι : List Addr} {H : Hp} {S : Sto} {o : V} {do_ : D} {x : List V} {dx : List D} {Q : VK}, StoR K g ι H S → R K g ι H o do_ → RL K g ι H x dx → f do_ dx S (lK K g ι H Q) → r o x H Q

def dOp (r : D2) (f h : DE) : DE := fun env S Q => f env S fun x S1 => h env S1 fun y S2 => r x y S2 Q
def dUn (r : D1) (f : DE) : DE := fun env S Q => f env S fun x S1 => r x S1 Q
def dVar (i : Nat) : DE := fun env S Q => ∃ d, env[i]? = some (some d) ∧ Q d S
def dC (d : D) : DE := fun _ S Q => Q d S
def dNil : DA := fun _ S Q => Q [] S
def dCons (f : DE) (h : DA) : DA := fun env S Q => f env S fun x S1 => h env S1 fun xs S2 => Q (x :: xs) S2
section
variable {X : Cx} {g : Gm} {ι0 : List Addr} {H0 : Hp} {a b c e : Expr} {es : List Expr} {f h k : DE} {fa : DA} {pos : Pos}
/-- the workhorse: two expressions, then a rule -/
theorem lE_op {K : PySem.W.Frag} {r : R2} {d : D2} (lk : Lk2 K g d r) {f h : DE} (mf : MoE f) (mh : MoE h) {σ : St} {H : Hp} {Q : VK}
    (q : lE K g ι0 H0 (dOp d f h) σ H Q) : tOp r (lE K g ι0 H0 f) (lE K g ι0 H0 h) σ H Q := by
  obtain ⟨ι, env, S, at0, q⟩ := q
  refine ⟨ι, env, S, at0, mf.go (fun x S1 k1 v H1 ι1 g1 s1 r1 => ?_) q⟩
  refine ⟨ι1, env, S1, at0.on g1 s1, mh.go (fun y S2 k2 u H2 ι2 g2 s2 r2 => ?_) k1⟩
  exact lk.lk s2 (r1.mono g2) r2 (lk.mono.go (fun d S' kk => lK.on (lK.on kk g1 s1.there) g2 s2.there) k2)
theorem mono_op {d : D2} (md : Mo2 d) (mf : MoE f) (mh : MoE h) :
    MoE (dOp d f h) := ⟨fun hq q => mf.go (fun _ _ q1 => mh.go (fun _ _ q2 => md.go hq q2) q1) q⟩
theorem ped_bin {op : Operator} {r : R2} {d : D2} (ho : OpR X (binaryOp op) r) (lk : Lk2 X.K g d r) (ha : PEd X g ι0 H0 a f) (hb : PEd X g ι0 H0 b h) : PEd X g ι0 H0 (.BinOp a op b pos) (dOp d f h) :=
  ⟨mono_op lk.mono ha.mono hb.mono, PE.weak (pe_op ho ha.pe hb.pe) fun _ _ _ _ _ _ q => lE_op (f := f) (h := h) lk ha.mono hb.mono q⟩
theorem ped_cmp {op : CmpOp} {r : R2} {d : D2} (ho : OpR X (compareOp op) r) (lk : Lk2 X.K g d r) (ha : PEd X g ι0 H0 a f) (hb : PEd X g ι0 H0 b h) (hm : behindInMarks op b = false := by rfl) : PEd X g ι0 H0 (.Compare a [op] [b] pos) (dOp d f h) :=
  ⟨mono_op lk.mono ha.mono hb.mono, PE.weak (pe_cmpR ho ha.pe hb.pe hm) fun _ _ _ _ _ _ q => lE_op (f := f) (h := h) lk ha.mono hb.mono q⟩
theorem ped_ix {r : R2} {d : D2} (ho : IxR X r) (lk : Lk2 X.K g d r) (ha : PEd X g ι0 H0 a f) (hb : PEd X g ι0 H0 b h) (hs : PlainIx b := by exact fun _ _ => rfl) : PEd X g ι0 H0 (.Subscript a b pos) (dOp d f h) :=
  ⟨mono_op lk.mono ha.mono hb.mono, PE.weak (pe_ix ho ha.pe hb.pe hs) fun _ _ _ _ _ _ q => lE_op (f := f) (h := h) lk ha.mono hb.mono q⟩
theorem ped_un {op : UnaryOp} {r : V → Hp → VK → Prop} {d : D1} (ho : UnR X (unaryOp op) r) (lk : Lk1 X.K g d r) (ha : PEd X g ι0 H0 a f) : PEd X g ι0 H0 (.UnaryOp op a pos) (dUn d f) :=
  ⟨⟨fun hq q => ha.mono.go (fun _ _ q1 => lk.mono.go hq q1) q⟩, PE.weak (pe_un ho ha.pe) fun _ _ σ H Q _ ⟨ι, env, S, at0, q⟩ =>
    ⟨ι, env, S, at0, ha.mono.go (fun x S1 k1 v H1 ι1 g1 s1 r1 => lk.lk s1 r1 (lk.mono.go (fun d S' kk => lK.on kk g1 s1.there) k1)) q⟩⟩
theorem ped_var {i : Nat} {x : Str} (hN : X.N[i]? = some x := by rfl) (hv : Vis X.env.scope x := by first | exact Or.inl rfl | exact Or.inr (Or.inl rfl) | exact Or.inr (Or.inr rfl)) (hd : (x == ("__debug__" : Str)) = false := by decide) (hcd : (x == ("__classdict__" : Str)) = false := by decide) :
    PEd X g ι0 H0 (.Name x pos) (dVar i) :=
  ⟨⟨fun hq ⟨d, e, q⟩ => ⟨d, e, hq _ _ q⟩⟩, PE.weak (pe_var hN hv hd hcd) fun _ _ σ H Q _ ⟨ι, env, S, at0, d, e, q⟩ => by
    obtain ⟨v, e2, r⟩ := at0.en.at_ i d e
    exact ⟨v, e2, q v H ι Grow.refl at0.st r⟩⟩
theorem ped_const {d : D} {v : V} (hp : PE X e (tC v)) (hr : ∀ ι H, R X.K g ι H v d) : PEd X g ι0 H0 e (dC d) :=
  ⟨⟨fun hq q => hq _ _ q⟩, PE.weak hp fun _ _ σ H Q _ ⟨ι, env, S, at0, q⟩ => q v H ι Grow.refl at0.st (hr ι H)⟩
theorem ped_int {i j pos} : PEd X g ι0 H0 (.Constant (.int i) j pos) (dC (.int i)) := ped_const pe_int fun _ _ => .int i
theorem ped_bl {i j pos} : PEd X g ι0 H0 (.Constant (.bool i) j pos) (dC (.bl i)) := ped_const pe_bl fun _ _ => .bl i
theorem ped_non {j pos} : PEd X g ι0 H0 (.Constant .none j pos) (dC .non) := ped_const pe_non fun _ _ => .non
theorem ped_str {i j pos} : PEd X g ι0 H0 (.Constant (.str i) j pos) (dC (.str i)) := ped_const pe_str fun _ _ => .str i
/-- a module's constant of the plain kinds -/
theorem ped_glob {x : Str} {d : D} {v : V} {u : Value} (hm : X.mg x = some u) (r : RelV v u) (hr : ∀ ι H, R X.K g ι H v d) (hg : Gl X x := by rfl) (hd : (x == ("__debug__" : Str)) = false := by decide) : PEd X g ι0 H0 (.Name x pos) (dC d) := ped_const (pe_glob hg hm r hd) hr

theorem pad_nil : PAd X g ι0 H0 [] dNil := ⟨⟨fun hq q => hq _ _ q⟩, PA.weak pa_nil fun σ H Q ⟨ι, env, S, at0, q⟩ => q [] H ι Grow.refl at0.st .nil⟩
theorem pad_cons (ha : PEd X g ι0 H0 e f) (hb : PAd X g ι0 H0 es fa) (hs : starEach (e :: es) X.env = (false, eval e X.env) :: starEach es X.env := by rfl) : PAd X g ι0 H0 (e :: es) (dCons f fa) :=
  ⟨⟨fun hq q => ha.mono.go (fun _ _ q1 => hb.mono.go (fun _ _ q2 => hq _ _ q2) q1) q⟩, PA.weak (pa_cons ha.pe hb.pa hs) fun σ H Q ⟨ι, env, S, at0, q⟩ =>
    ⟨ι, env, S, at0, ha.mono.go (fun x S1 k1 v H1 ι1 g1 s1 r1 => ⟨ι1, env, S1, at0.on g1 s1, hb.mono.go (fun xs S2 k2 vs H2 ι2 g2 s2 r2 =>
      k2 (v :: vs) H2 ι2 (g1.trans g2 s1.there) s2 (.cons (r1.mono g2) r2)) k1⟩) q⟩⟩
/-- displays -/
def dTup (fa : DA) : DE := fun env S Q => fa env S fun ds S1 => ds.length ≤ sizeLine ∧ Q (.tup ds) S1
def dLst (fa : DA) : DE := fun env S Q => fa env S fun ds S1 => ds.length ≤ sizeLine ∧ (Q (.lst ds) S1 ∨ Q (.ref S1.length) (S1 ++ [.lst ds]))
theorem StoR.newTup {K : PySem.W.Frag} {ι : List Addr} {H : Hp} {S : Sto} {p : Addr} {vs : List V} {ds : List D} {Q : VK} (s : StoR K g ι H S) (hp : H p = none) (r : RL K g ι H vs ds) (q : lK K g ι H Q (.tup ds) S) : Q (.ref p) (upd H p (.tup vs)) :=
  q _ _ ι (grow_new hp) (s.new hp) (.tup ⟨s.free hp, .inl upd_same⟩ (r.mono (grow_new hp)))
/-- a new list: frozen, or in the store -/
theorem StoR.newLst {K : PySem.W.Frag} {ι : List Addr} {H : Hp} {S : Sto} {p : Addr} {vs : List V} {ds : List D} {Q : VK} (s : StoR K g ι H S) (hp : H p = none) (r : RL K g ι H vs ds) (q : lK K g ι H Q (.lst ds) S ∨ lK K g ι H Q (.ref S.length) (S ++ [.lst ds])) :
    Q (.ref p) (upd H p (.lst vs)) := by
  rcases q with q | q
  · exact q _ _ ι (grow_new hp) (s.new hp) (.lst (s.nohid hp) ⟨s.free hp, upd_same⟩ (r.mono (grow_new hp)))
  · refine q _ _ (ι ++ [p]) (grow_add hp) (s.add hp ⟨vs, upd_same, r.mono (grow_add hp)⟩) (.ref ?_)
    rw [List.getElem?_append_right (by rw [s.len]; exact Nat.le_refl _), s.len, Nat.sub_self]; rfl
theorem ped_tup {x1} (ha : PAd X g ι0 H0 es fa) : PEd X g ι0 H0 (.Tuple es x1 pos) (dTup fa) :=
  ⟨⟨fun hq q => ha.mono.go (fun _ _ ⟨l, q⟩ => ⟨l, hq _ _ q⟩) q⟩, PE.weak (pe_tup ha.pa) fun _ _ σ H Q _ ⟨ι, env, S, at0, q⟩ =>
    ⟨ι, env, S, at0, ha.mono.go (fun ds S1 ⟨l, k⟩ vs H1 ι1 g1 s1 r1 => ⟨by rw [r1.length]; exact l, fun p hp => s1.newTup hp r1 (lK.on k g1 s1.there)⟩) q⟩⟩
theorem ped_lst (ha : PAd X g ι0 H0 es fa) : PEd X g ι0 H0 (.List es pos) (dLst fa) :=
  ⟨⟨fun hq q => ha.mono.go (fun _ _ ⟨l, q⟩ => ⟨l, q.imp (hq _ _) (hq _ _)⟩) q⟩, PE.weak (pe_lst ha.pa) fun _ _ σ H Q _ ⟨ι, env, S, at0, q⟩ =>
    ⟨ι, env, S, at0, ha.mono.go (fun ds S1 ⟨l, k⟩ vs H1 ι1 g1 s1 r1 => ⟨by rw [r1.length]; exact l, fun p hp => s1.newLst hp r1 (k.imp (lK.on · g1 s1.there) (lK.on · g1 s1.there))⟩) q⟩⟩

/-! ### tests -/
def dTest (f : DE) : DT := fun env S Q => f env S fun d S' => ∃ b, d = .bl b ∧ Q b S'
theorem R.bl_inv {K : PySem.W.Frag} {ι : List Addr} {H : Hp} {v : V} {b : Bool} (r : R K g ι H v (.bl b)) : v = .bl b := by cases r; rfl
theorem R.int_inv {K : PySem.W.Frag} {ι : List Addr} {H : Hp} {v : V} {b : Int} (r : R K g ι H v (.int b)) : v = .int b := by cases r; rfl
theorem R.str_inv {K : PySem.W.Frag} {ι : List Addr} {H : Hp} {v : V} {b : Str} (r : R K g ι H v (.str b)) : v = .str b := by cases r; rfl
theorem R.non_inv {K : PySem.W.Frag} {ι : List Addr} {H : Hp} {v : V} (r : R K g ι H v .non) : v = .non := by cases r; rfl
theorem mono_test (mf : MoE f) : MoT (dTest f) := ⟨fun hq q => mf.go (fun _ _ ⟨b, e, q⟩ => ⟨b, e, hq _ _ q⟩) q⟩
theorem lT_test {t : DE} (mf : MoE t) {K : PySem.W.Frag} {σ : St} {H : Hp} {Q : Bool → Hp → Prop} (q : lT K g ι0 H0 (dTest t) σ H Q) : lE K g ι0 H0 t σ H fun x H' => ∃ k, x = .bl k ∧ Q k H' := by
  obtain ⟨ι, env, S, at0, q⟩ := q
  refine ⟨ι, env, S, at0, mf.go (fun d S1 ⟨b, e, k⟩ v H1 ι1 g1 s1 r1 => ?_) q⟩
  subst e
  exact ⟨b, R.bl_inv r1, k H1 ι1 g1 s1⟩
theorem ptd_cmp {op : CmpOp} {r : R2} {d : D2} (ho : OpR X (compareOp op) r) (lk : Lk2 X.K g d r) (ha : PEd X g ι0 H0 a f) (hb : PEd X g ι0 H0 b h) (hm : behindInMarks op b = false := by rfl) : PTd X g ι0 H0 (.Compare a [op] [b] pos) (dTest (dOp d f h)) :=
  ⟨mono_test (mono_op lk.mono ha.mono hb.mono), PT.weak (pt_cmpR ho ha.pe hb.pe hm) fun _ _ _ q => lE_op (f := f) (h := h) lk ha.mono hb.mono (lT_test (t := dOp d f h) (mono_op (d := d) (f := f) (h := h) lk.mono ha.mono hb.mono) q)⟩
/-- an expression whose value is a bool -/
theorem ptd_val (ha : PEd X g ι0 H0 a f) (he : ∀ whole, isTrue a X.env whole = (do let v ← whole; standAt a.pos; holding [v] (truthy v)) := by intro _; rfl) : PTd X g ι0 H0 a (dTest f) :=
  ⟨mono_test ha.mono, PT.weak (pt_val ha.pe he) fun _ _ _ q => lT_test (t := f) ha.mono q⟩
def dAnd (t u : DT) : DT := fun env S Q => t env S fun c S1 => if c = true then u env S1 Q else Q false S1
def dOr (t u : DT) : DT := fun env S Q => t env S fun c S1 => if c = true then Q true S1 else u env S1 Q
def dNot (t : DT) : DT := fun env S Q => t env S fun c S1 => Q (!c) S1
variable {t u : DT} {rest : List Expr}
theorem PWd.pt (h : PWd X g ι0 H0 e t) : PTd X g ι0 H0 e t := ⟨h.mono, h.pw.pt⟩
theorem pwd_and1 (ha : PTd X g ι0 H0 a t) : PWd X g ι0 H0 (.BoolOp .And [a] pos) t := ⟨ha.mono, pw_and1 ha.pt⟩
theorem pwd_or1 (ha : PTd X g ι0 H0 a t) : PWd X g ι0 H0 (.BoolOp .Or [a] pos) t := ⟨ha.mono, pw_or1 ha.pt⟩
theorem mono_and (ma : MoT t) (mb : MoT u) :
    MoT (dAnd t u) := ⟨fun hq q => ma.go (fun c _ q1 => by
  cases c with
  | true => rw [if_pos rfl] at q1 ⊢; exact mb.go hq q1
  | false => rw [if_neg (by simp)] at q1 ⊢; exact hq _ _ q1) q⟩
theorem mono_or (ma : MoT t) (mb : MoT u) :
    MoT (dOr t u) := ⟨fun hq q => ma.go (fun c _ q1 => by
  cases c with
  | true => rw [if_pos rfl] at q1 ⊢; exact hq _ _ q1
  | false => rw [if_neg (by simp)] at q1 ⊢; exact mb.go hq q1) q⟩
theorem pwd_and (ha : PTd X g ι0 H0 a t) (hb : PWd X g ι0 H0 (.BoolOp .And (b :: rest) pos) u) : PWd X g ι0 H0 (.BoolOp .And (a :: b :: rest) pos) (dAnd t u) :=
  ⟨mono_and (t := t) (u := u) ha.mono hb.mono, PW.weak (pw_and ha.pt hb.pw) fun σ H Q ⟨ι, env, S, at0, q⟩ => ⟨ι, env, S, at0, ha.mono.go (fun c S1 k H1 ι1 g1 s1 => by
    cases c with
    | true => rw [if_pos rfl] at k ⊢; exact ⟨ι1, env, S1, at0.on g1 s1, hb.mono.go (fun b S2 k2 H2 ι2 g2 s2 => k2 H2 ι2 (g1.trans g2 s1.there) s2) k⟩
    | false => rw [if_neg (by simp)] at k ⊢; exact k H1 ι1 g1 s1) q⟩⟩
theorem pwd_or (ha : PTd X g ι0 H0 a t) (hb : PWd X g ι0 H0 (.BoolOp .Or (b :: rest) pos) u) : PWd X g ι0 H0 (.BoolOp .Or (a :: b :: rest) pos) (dOr t u) :=
  ⟨mono_or (t := t) (u := u) ha.mono hb.mono, PW.weak (pw_or ha.pt hb.pw) fun σ H Q ⟨ι, env, S, at0, q⟩ => ⟨ι, env, S, at0, ha.mono.go (fun c S1 k H1 ι1 g1 s1 => by
    cases c with
    | true => rw [if_pos rfl] at k ⊢; exact k H1 ι1 g1 s1
    | false => rw [if_neg (by simp)] at k ⊢; exact ⟨ι1, env, S1, at0.on g1 s1, hb.mono.go (fun b S2 k2 H2 ι2 g2 s2 => k2 H2 ι2 (g1.trans g2 s1.there) s2) k⟩) q⟩⟩
theorem ptd_not (ha : PTd X g ι0 H0 a t) : PTd X g ι0 H0 (.UnaryOp .Not a pos) (dNot t) :=
  ⟨⟨fun hq q => ha.mono.go (fun _ _ q1 => hq _ _ q1) q⟩, PT.weak (pt_not ha.pt) fun σ H Q ⟨ι, env, S, at0, q⟩ => ⟨ι, env, S, at0, ha.mono.go (fun c S1 k H1 ι1 g1 s1 => k H1 ι1 g1 s1) q⟩⟩
/-- and, or, not as values, of bools -/
def dAndV (f h : DE) : DE := fun env S Q => f env S fun x S1 => ∃ c, x = .bl c ∧ if c = true then h env S1 Q else Q (.bl false) S1
def dOrV (f h : DE) : DE := fun env S Q => f env S fun x S1 => ∃ c, x = .bl c ∧ if c = true then Q (.bl true) S1 else h env S1 Q
def dNotV (f : DE) : DE := fun env S Q => f env S fun x S1 => ∃ c, x = .bl c ∧ Q (.bl (!c)) S1
theorem ped_one {op} (ha : PEd X g ι0 H0 a f) : PEd X g ι0 H0 (.BoolOp op [a] pos) f := ⟨ha.mono, pe_one ha.pe⟩
theorem ped_and (ha : PEd X g ι0 H0 a f) (hb : PEd X g ι0 H0 (.BoolOp .And (b :: rest) pos) h) : PEd X g ι0 H0 (.BoolOp .And (a :: b :: rest) pos) (dAndV f h) :=
  ⟨⟨fun hq q => ha.mono.go (fun _ _ ⟨c, e, q1⟩ => ⟨c, e, by
    cases c with
    | true => rw [if_pos rfl] at q1 ⊢; exact hb.mono.go hq q1
    | false => rw [if_neg (by simp)] at q1 ⊢; exact hq _ _ q1⟩) q⟩, PE.weak (pe_and ha.pe hb.pe) fun _ _ σ H Q _ ⟨ι, env, S, at0, q⟩ => ⟨ι, env, S, at0, ha.mono.go (fun d S1 ⟨c, e, k⟩ v H1 ι1 g1 s1 r1 => by
    subst e
    refine ⟨c, R.bl_inv r1, ?_⟩
    cases c with
    | true => rw [if_pos rfl] at k ⊢; exact ⟨ι1, env, S1, at0.on g1 s1, hb.mono.go (fun _ _ k2 => lK.on k2 g1 s1.there) k⟩
    | false => rw [if_neg (by simp)] at k ⊢; exact k _ H1 ι1 g1 s1 (.bl false)) q⟩⟩
theorem ped_or (ha : PEd X g ι0 H0 a f) (hb : PEd X g ι0 H0 (.BoolOp .Or (b :: rest) pos) h) : PEd X g ι0 H0 (.BoolOp .Or (a :: b :: rest) pos) (dOrV f h) :=
  ⟨⟨fun hq q => ha.mono.go (fun _ _ ⟨c, e, q1⟩ => ⟨c, e, by
    cases c with
    | true => rw [if_pos rfl] at q1 ⊢; exact hq _ _ q1
    | false => rw [if_neg (by simp)] at q1 ⊢; exact hb.mono.go hq q1⟩) q⟩, PE.weak (pe_or ha.pe hb.pe) fun _ _ σ H Q _ ⟨ι, env, S, at0, q⟩ => ⟨ι, env, S, at0, ha.mono.go (fun d S1 ⟨c, e, k⟩ v H1 ι1 g1 s1 r1 => by
    subst e
    refine ⟨c, R.bl_inv r1, ?_⟩
    cases c with
    | true => rw [if_pos rfl] at k ⊢; exact k _ H1 ι1 g1 s1 (.bl true)
    | false => rw [if_neg (by simp)] at k ⊢; exact ⟨ι1, env, S1, at0.on g1 s1, hb.mono.go (fun _ _ k2 => lK.on k2 g1 s1.there) k⟩) q⟩⟩
theorem ped_not (ha : PEd X g ι0 H0 a f) : PEd X g ι0 H0 (.UnaryOp .Not a pos) (dNotV f) :=
  ⟨⟨fun hq q => ha.mono.go (fun _ _ ⟨c, e, q1⟩ => ⟨c, e, hq _ _ q1⟩) q⟩, PE.weak (pe_not ha.pe) fun _ _ σ H Q _ ⟨ι, env, S, at0, q⟩ => ⟨ι, env, S, at0, ha.mono.go (fun d S1 ⟨c, e, k⟩ v H1 ι1 g1 s1 r1 => by
    subst e
    exact ⟨c, R.bl_inv r1, k _ H1 ι1 g1 s1 (.bl _)⟩) q⟩⟩
def dIfE (t : DT) (f h : DE) : DE := fun env S Q => t env S fun c S1 => if c = true then f env S1 Q else h env S1 Q
theorem ped_ifExp (ht : PTd X g ι0 H0 c t) (ha : PEd X g ι0 H0 a f) (hb : PEd X g ι0 H0 b h) : PEd X g ι0 H0 (.IfExp c a b pos) (dIfE t f h) :=
  ⟨⟨fun hq q => ht.mono.go (fun c _ q1 => by
    cases c with
    | true => rw [if_pos rfl] at q1 ⊢; exact ha.mono.go hq q1
    | false => rw [if_neg (by simp)] at q1 ⊢; exact hb.mono.go hq q1) q⟩, PE.weak (pe_ifExp ht.pt ha.pe hb.pe) fun _ _ σ H Q _ ⟨ι, env, S, at0, q⟩ => ⟨ι, env, S, at0, ht.mono.go (fun c S1 k H1 ι1 g1 s1 => by
    cases c with
    | true => rw [if_pos rfl] at k ⊢; exact ⟨ι1, env, S1, at0.on g1 s1, ha.mono.go (fun _ _ k2 => lK.on k2 g1 s1.there) k⟩
    | false => rw [if_neg (by simp)] at k ⊢; exact ⟨ι1, env, S1, at0.on g1 s1, hb.mono.go (fun _ _ k2 => lK.on k2 g1 s1.there) k⟩) q⟩⟩
/-- a op1 b op2 c -/
def dChain (r r' : D2) (f h k : DE) : DE := fun env S Q => f env S fun x S1 => h env S1 fun y S2 => r x y S2 fun z S3 => ∃ c, z = .bl c ∧ if c = true then k env S3 fun w S4 => r' y w S4 Q else Q (.bl false) S3
theorem mono_chain {r r' : D2} (mr : Mo2 r) (mr' : Mo2 r') (mf : MoE f)
    (mh : MoE h) (mk : MoE k) : MoE (dChain r r' f h k) :=
  ⟨fun hq q => mf.go (fun _ _ q1 => mh.go (fun _ _ q2 => mr.go (fun _ _ ⟨c, e, q3⟩ => ⟨c, e, by
    cases c with
    | true => rw [if_pos rfl] at q3 ⊢; exact mk.go (fun _ _ q4 => mr'.go hq q4) q3
    | false => rw [if_neg (by simp)] at q3 ⊢; exact hq _ _ q3⟩) q2) q1) q⟩
theorem lE_chain {K : PySem.W.Frag} {r r' : R2} {d d' : D2} (lk : Lk2 K g d r) (lk' : Lk2 K g d' r') (mf : MoE f)
    (mh : MoE h) (mk : MoE k) {σ : St} {H : Hp} {Q : VK}
    (q : lE K g ι0 H0 (dChain d d' f h k) σ H Q) : tChain r r' (lE K g ι0 H0 f) (lE K g ι0 H0 h) (lE K g ι0 H0 k) σ H Q := by
  obtain ⟨ι, env, S, at0, q⟩ := q
  refine ⟨ι, env, S, at0, mf.go (fun x S1 k1 v H1 ι1 g1 s1 r1 => ?_) q⟩
  refine ⟨ι1, env, S1, at0.on g1 s1, mh.go (fun y S2 k2 u H2 ι2 g2 s2 r2 => ?_) k1⟩
  refine lk.lk s2 (r1.mono g2) r2 (lk.mono.go (fun z S3 ⟨c, e, k3⟩ v3 H3 ι3 g3 s3 r3 => ?_) k2)
  subst e
  refine ⟨c, R.bl_inv r3, ?_⟩
  have g13 := (g1.trans g2 s1.there).trans g3 s2.there
  cases c with
  | true =>
    rw [if_pos rfl] at k3 ⊢
    refine ⟨ι3, env, S3, at0.on g13 s3, mk.go (fun w S4 k4 v4 H4 ι4 g4 s4 r4 => ?_) k3⟩
    exact lk'.lk s4 ((r2.mono g3).mono g4) r4 (lk'.mono.go (fun _ _ kk => lK.on kk (g13.trans g4 s3.there) s4.there) k4)
  | false =>
    rw [if_neg (by simp)] at k3 ⊢
    exact k3 _ H3 ι3 g13 s3 (.bl false)
theorem ped_chain {op op' : CmpOp} {r r' : R2} {d d' : D2} (ho : OpR X (compareOp op) r) (ho' : OpR X (compareOp op') r') (lk : Lk2 X.K g d r) (lk' : Lk2 X.K g d' r') (ha : PEd X g ι0 H0 a f) (hb : PEd X g ι0 H0 b h) (hc : PEd X g ι0 H0 c k)
    (hm : lastMarks [op, op'] [b, c] = false := by with_unfolding_all rfl) : PEd X g ι0 H0 (.Compare a [op, op'] [b, c] pos) (dChain d d' f h k) :=
  ⟨mono_chain lk.mono lk'.mono ha.mono hb.mono hc.mono, PE.weak (pe_chain ho ho' ha.pe hb.pe hc.pe hm) fun _ _ _ _ _ _ q => lE_chain (f := f) (h := h) (k := k) lk lk' ha.mono hb.mono hc.mono q⟩
theorem ptd_chain {op op' : CmpOp} {r r' : R2} {d d' : D2} (ho : OpR X (compareOp op) r) (ho' : OpR X (compareOp op') r') (lk : Lk2 X.K g d r) (lk' : Lk2 X.K g d' r') (ha : PEd X g ι0 H0 a f) (hb : PEd X g ι0 H0 b h) (hc : PEd X g ι0 H0 c k)
    (hm : lastMarks [op, op'] [b, c] = false := by with_unfolding_all rfl) : PTd X g ι0 H0 (.Compare a [op, op'] [b, c] pos) (dTest (dChain d d' f h k)) :=
  ⟨mono_test (mono_chain lk.mono lk'.mono ha.mono hb.mono hc.mono), PT.weak (pt_chain ho ho' ha.pe hb.pe hc.pe hm) fun _ _ _ q => lE_chain (f := f) (h := h) (k := k) lk lk' ha.mono hb.mono hc.mono (lT_test (t := dChain d d' f h k) (mono_chain (r := d) (r' := d') (f := f) (h := h) (k := k) lk.mono lk'.mono ha.mono hb.mono hc.mono) q)⟩
end
end DL
set_option maxHeartbeats 4000000
/-! DL, third part: statements, loops, comprehensions, calls, exceptions, the rule for a def. -/
namespace DL
open PySem PySem.Spec L2

section
variable {X : Cx} {g : Gm} {ι0 : List Addr} {H0 : Hp} {a b c e o tg it : Expr} {es : List Expr} {f h k : DE} {fa : DA} {t u : DT} {st : Stmt} {rest body orelse : List Stmt} {s1 s2 : DS} {pos : Pos}

/-! ### statements -/
def dNext : DS := fun Dn env S => Dn.nx env S
def dSeq (s1 s2 : DS) : DS := fun Dn env S => s1 { Dn with nx := fun e s => s2 Dn e s } env S
def dBreak : DS := fun Dn env S => Dn.bk env S
def dCont : DS := fun Dn env S => Dn.ct env S
def dDrop (f : DE) : DS := fun Dn env S => f env S fun _ S1 => Dn.nx env S1
def dRet (f : DE) : DS := fun Dn env S => f env S Dn.rt
def dRetN : DS := fun Dn _ S => Dn.rt .non S
def dIf (t : DT) (s1 s2 : DS) : DS := fun Dn env S => t env S fun c S1 => if c = true then s1 Dn env S1 else s2 Dn env S1
theorem pssd_nil : PSsd X g ι0 H0 [] dNext := ⟨⟨fun hd q => hd.nx _ _ q⟩, PSs.weak pss_nil fun σ H Q ⟨ι, env, S, at0, q⟩ => q σ H ι Grow.refl at0.en at0.st⟩
theorem DLe.seq {A B : DEnds} {s2 : DS} (hd : DLe A B) (m : MoS s2) : DLe { A with nx := fun e s => s2 A e s } { B with nx := fun e s => s2 B e s } := ⟨fun _ _ q => m.go hd q, hd.rt, hd.bk, hd.ct⟩
theorem mono_seq (m1 : MoS s1) (m2 : MoS s2) : MoS (dSeq s1 s2) := ⟨fun hd q => m1.go (hd.seq m2) q⟩
theorem pssd_cons (h1 : PSd X g ι0 H0 st s1) (h2 : PSsd X g ι0 H0 rest s2) : PSsd X g ι0 H0 (st :: rest) (dSeq s1 s2) :=
  ⟨mono_seq h1.mono h2.mono, PSs.weak (pss_cons h1.ps h2.ps) fun σ H Dn ⟨ι, env, S, at0, q⟩ => ⟨ι, env, S, at0, by
    have q' : s1 { lD X.K g ι H Dn with nx := fun e s => s2 (lD X.K g ι H Dn) e s } env S := q
    refine h1.mono.go ?_ q'
    exact ⟨fun e s hn σ' H' ι' k' e' s' => ⟨ι', e, s, at0.to k' e' s', h2.mono.go (lD.le k' s'.there) hn⟩, fun _ _ q => q, fun _ _ q => q, fun _ _ q => q⟩⟩⟩
theorem pssd_one (h1 : PSd X g ι0 H0 st s1) : PSsd X g ι0 H0 [st] s1 := ⟨h1.mono, PSs.weak (pss_one h1.ps) fun _ _ _ q => q⟩
theorem psd_pass : PSd X g ι0 H0 (.Pass pos) dNext := ⟨⟨fun hd q => hd.nx _ _ q⟩, PS.weak ps_pass fun _ _ σ H Q _ ⟨ι, env, S, at0, q⟩ => q σ H ι Grow.refl at0.en at0.st⟩
theorem psd_break : PSd X g ι0 H0 (.Break pos) dBreak := ⟨⟨fun hd q => hd.bk _ _ q⟩, PS.weak ps_break fun _ _ σ H Q _ ⟨ι, env, S, at0, q⟩ => q σ H ι Grow.refl at0.en at0.st⟩
theorem psd_cont : PSd X g ι0 H0 (.Continue pos) dCont := ⟨⟨fun hd q => hd.ct _ _ q⟩, PS.weak ps_continue fun _ _ σ H Q _ ⟨ι, env, S, at0, q⟩ => q σ H ι Grow.refl at0.en at0.st⟩
theorem psd_doc {x j pos pos'} : PSd X g ι0 H0 (.Expr (.Constant (.str x) j pos) pos') dNext := ⟨⟨fun hd q => hd.nx _ _ q⟩, PS.weak ps_doc fun _ _ σ H Q _ ⟨ι, env, S, at0, q⟩ => q σ H ι Grow.refl at0.en at0.st⟩
theorem psd_expr (he : PEd X g ι0 H0 e f) (hs : swapsWith e none pos.line X.env = pure false := by rfl) : PSd X g ι0 H0 (.Expr e pos) (dDrop f) :=
  ⟨⟨fun hd q => he.mono.go (fun _ _ q1 => hd.nx _ _ q1) q⟩, PS.weak (ps_expr he.pe hs) fun _ _ σ H Dn _ ⟨ι, env, S, at0, q⟩ => ⟨ι, env, S, at0, he.mono.go (fun d S1 q1 v H' ι' k' s' r' => q1 σ H' ι' k' (at0.en.mono k') s') q⟩⟩
theorem psd_ret (he : PEd X g ι0 H0 e f) : PSd X g ι0 H0 (.Return (some e) pos) (dRet f) :=
  ⟨⟨fun hd q => he.mono.go hd.rt q⟩, PS.weak (ps_ret he.pe) fun _ _ σ H Dn _ ⟨ι, env, S, at0, q⟩ => ⟨ι, env, S, at0, q⟩⟩
theorem psd_retN : PSd X g ι0 H0 (.Return none pos) dRetN := ⟨⟨fun hd q => hd.rt _ _ q⟩, PS.weak ps_retN fun _ _ σ H Dn _ ⟨ι, env, S, at0, q⟩ => q .non H ι Grow.refl at0.st .non⟩
theorem mono_if (mt : MoT t) (m1 : MoS s1) (m2 : MoS s2) : MoS (dIf t s1 s2) := ⟨fun hd q => mt.go (fun c _ q1 => by
  cases c with
  | true => rw [if_pos rfl] at q1 ⊢; exact m1.go hd q1
  | false => rw [if_neg (by simp)] at q1 ⊢; exact m2.go hd q1) q⟩
theorem psd_if (ht : PTd X g ι0 H0 c t) (ha : PSsd X g ι0 H0 body s1) (hb : PSsd X g ι0 H0 orelse s2) : PSd X g ι0 H0 (.If c body orelse pos) (dIf t s1 s2) :=
  ⟨mono_if ht.mono ha.mono hb.mono, PS.weak (ps_if ht.pt ha.ps hb.ps) fun _ _ σ H Dn _ ⟨ι, env, S, at0, q⟩ => ⟨ι, env, S, at0, ht.mono.go (fun c S1 q1 H' ι' k' s' => by
    cases c with
    | true => rw [if_pos rfl] at q1 ⊢; exact ⟨ι', env, S1, at0.on k' s', ha.mono.go (lD.le k' s'.there) q1⟩
    | false => rw [if_neg (by simp)] at q1 ⊢; exact ⟨ι', env, S1, at0.on k' s', hb.mono.go (lD.le k' s'.there) q1⟩) q⟩⟩

/-! ### targets -/
abbrev DG := D → En → Sto → (En → Sto → Prop) → Prop
structure MoG (t : DG) : Prop where
  go : ∀ {d env S} {Q Q' : En → Sto → Prop}, (∀ e s, Q e s → Q' e s) → t d env S Q → t d env S Q'
def lG (K : PySem.W.Frag) (g : Gm) (ι0 : List Addr) (H0 : Hp) (t : DG) : TG := fun v σ H Q => ∃ ι env S d, At K g ι0 H0 ι H σ env S ∧ R K g ι H v d ∧ t d env S (lC K g ι H Q)
structure PGd (X : Cx) (g : Gm) (ι0 : List Addr) (H0 : Hp) (e : Expr) (t : DG) : Prop where
  mono : MoG t
  pg : PG X e (lG X.K g ι0 H0 t)
theorem PG.weak {X : Cx} {e : Expr} {t t' : TG} (h : PG X e t) (hw : ∀ v σ H Q, t' v σ H Q → t v σ H Q) : PG X e t' := ⟨fun pins s σ H v u Q I r q => h.run pins s σ H v u Q I r (hw _ _ _ _ q)⟩
def dgName (i : Nat) : DG := fun d env S Q => Q (env.set i (some d)) S
theorem pgd_name {i : Nat} {x : Str} (hN : X.N.Nodup) (hi : X.N[i]? = some x := by rfl) (hx : Loc X.env.scope x := by first | exact .inl rfl | exact .inr rfl) (hf : X.fn x = true ∨ X.env.scope.names.lookup x = some .local := by first | exact .inl rfl | exact .inr rfl) : PGd X g ι0 H0 (.Name x pos) (dgName i) :=
  ⟨⟨fun hq q => hq _ _ q⟩, PG.weak (pg_name hN hi hx hf) fun v σ H Q ⟨ι, env, S, d, at0, r, q⟩ => q _ H ι Grow.refl (at0.en.set r i) at0.st⟩
/-- names, one after another -/
def gNames : List Nat → TGs
  | [] => gNil
  | i :: r => gCons (gName i) (gNames r)
def setAll (env : En) : List Nat → List D → En
  | i :: r, d :: ds => setAll (env.set i (some d)) r ds
  | _, _ => env
def setAllV (σ : L2.St) : List Nat → List V → L2.St
  | i :: r, d :: ds => setAllV (σ.set i (some d)) r ds
  | _, _ => σ
theorem gNames_run {Q : L2.St → Hp → Prop} {H : Hp} : ∀ {is : List Nat} {vs : List V} {σ : L2.St}, vs.length = is.length → Q (setAllV σ is vs) H → gNames is vs σ H Q
  | [], [], _, _, q => ⟨rfl, q⟩
  | i :: r, v :: vs, σ, hl, q => ⟨v, vs, rfl, gNames_run (by simpa using hl) q⟩
theorem EnvR.setAll {K : PySem.W.Frag} {ι : List Addr} {H : Hp} : ∀ {is : List Nat} {vs : List V} {ds : List D} {σ : L2.St} {env : En}, EnvR K g ι H σ env → RL K g ι H vs ds → EnvR K g ι H (setAllV σ is vs) (setAll env is ds)
  | [], _, _, _, _, e, _ => by simp only [DL.setAll, DL.setAllV]; exact e
  | _ :: _, _, _, _, _, e, .nil => e
  | i :: r, _, _, _, _, e, .cons x y => by
    have z := EnvR.setAll (is := r) (e.set x i) y
    exact z
def dgTup (is : List Nat) : DG := fun d env S Q => ∃ xs, d = .tup xs ∧ xs.length = is.length ∧ Q (setAll env is xs) S
theorem R.tup_inv {K : PySem.W.Frag} {ι : List Addr} {H : Hp} {v : V} {ds : List D} (r : R K g ι H v (.tup ds)) : ∃ a vs, v = .ref a ∧ SqT K H a vs ∧ RL K g ι H vs ds := by
  cases r with
  | tup f r => exact ⟨_, _, rfl, .inl f.2, r⟩
  | tupK a b c d e r => exact ⟨_, _, rfl, .inr ⟨_, _, _, a, b, c, d, e⟩, r⟩
theorem pgd_tup {is : List Nat} {kk : Nat} (hc : X.calm = true) (hg : PGs X es (gNames is)) (hn : (assignEach es X.env).length = is.length := by rfl) (hst : (assignEach es X.env).findIdx? (·.1) = none := by rfl) : PGd X g ι0 H0 (.Tuple es kk pos) (dgTup is) :=
  ⟨⟨fun hq ⟨xs, e, l, q⟩ => ⟨xs, e, l, hq _ _ q⟩⟩, PG.weak (pg_tup hc hg hn hst) fun v σ H Q ⟨ι, env, S, d, at0, r, xs, e, l, q⟩ => by
    subst e
    obtain ⟨a, vs, rfl, s, rl⟩ := r.tup_inv
    exact ⟨a, vs, rfl, s, rl.length.trans l, gNames_run (rl.length.trans l) (q _ H ι Grow.refl (at0.en.setAll rl) at0.st)⟩⟩
theorem pgns_nil : PGs X [] (gNames []) := pgs_nil
theorem pgns_cons {i : Nat} {is : List Nat} {x : Str} {p : Pos} (hN : X.N.Nodup) (hr : PGs X es (gNames is)) (hi : X.N[i]? = some x := by rfl) (hx : Loc X.env.scope x := by first | exact .inl rfl | exact .inr rfl) (hf : X.fn x = true ∨ X.env.scope.names.lookup x = some .local := by first | exact .inl rfl | exact .inr rfl)
    (hs : (assignEach (.Name x p :: es) X.env).map (·.2) = assign (.Name x p) X.env :: (assignEach es X.env).map (·.2) := by rfl) : PGs X (.Name x p :: es) (gNames (i :: is)) := pgs_cons (pg_name hN hi hx hf) hr hs
/-- o[i] = .. of a list in the store -/
def dgSub (f h : DE) : DG := fun d env S Q => f env S fun x S1 => h env S1 fun y S2 => ∃ n xs k j, x = .ref n ∧ y = .int k ∧ S2[n]? = some (.lst xs) ∧ ixN xs.length k = some j ∧ Q env (S2.set n (.lst (xs.set j d)))
theorem R.ref_inv {K : PySem.W.Frag} {ι : List Addr} {H : Hp} {v : V} {n : Nat} (r : R K g ι H v (.ref n)) : ∃ a, v = .ref a ∧ ι[n]? = some a := by
  cases r with
  | ref e => exact ⟨_, rfl, e⟩
theorem pgd_sub (ho : PEd X g ι0 H0 o f) (hi : PEd X g ι0 H0 a h)
    (ha : ∀ v, assign (.Subscript o a pos) X.env v = (do
      let ov ← holding [v] (eval o X.env)
      let iv ← holding [v, ov] (eval a X.env)
      standAt pos
      holding [v, ov, iv] (setItem ov iv v)
      release [v, ov, iv] []) := by intro _; rfl) : PGd X g ι0 H0 (.Subscript o a pos) (dgSub f h) :=
  ⟨⟨fun hq q => ho.mono.go (fun _ _ q1 => hi.mono.go (fun _ _ ⟨n, xs, k, j, e1, e2, e3, e4, q2⟩ => ⟨n, xs, k, j, e1, e2, e3, e4, hq _ _ q2⟩) q1) q⟩, PG.weak (pg_sub ho.pe hi.pe set_list ha) fun v σ H Q ⟨ι, env, S, d, at0, r, q⟩ =>
    ⟨ι, env, S, at0, ho.mono.go (fun x S1 q1 vx H1 ι1 g1 s1 r1 => ⟨ι1, env, S1, at0.on g1 s1, hi.mono.go (fun y S2 ⟨n, xs, k, j, e1, e2, e3, e4, q2⟩ vy H2 ι2 g2 s2 r2 => by
      subst e1; subst e2
      obtain ⟨p, rfl, ep⟩ := (r1.mono g2).ref_inv
      obtain ⟨p', ep', vs, hp, rl⟩ := s2.at e3
      rw [ep] at ep'; cases ep'
      have g12 := g1.trans g2 s1.there
      have rd := (r.mono g12).mono (grow_set (u := .lst (vs.set j v)) ep)
      refine ⟨p, vs, k, j, rfl, R.int_inv r2, hp, by rw [rl.length]; exact e4, ?_⟩
      have gs := grow_set (H := H2) (u := .lst (vs.set j v)) ep
      have ss := s2.put (u := .lst (vs.set j v)) (o := .lst (xs.set j d)) ep ⟨_, upd_same, (rl.mono gs).set rd j⟩
      exact q2 σ _ ι2 (g12.trans gs s2.there) ((at0.en.mono g12).mono gs) ss) q1⟩) q⟩⟩
def dAsg (f : DE) (t : DG) : DS := fun Dn env S => f env S fun d S1 => t d env S1 Dn.nx
theorem lG_of {K : PySem.W.Frag} {t : DG} (mt : MoG t) {ι ι1 : List Addr} {H H1 : Hp} {σ : L2.St} {env : En} {S S1 : Sto} {d : D} {v : V} {Q : L2.St → Hp → Prop} (at0 : At K g ι0 H0 ι H σ env S) (g1 : Grow ι H ι1 H1) (s1 : StoR K g ι1 H1 S1) (r1 : R K g ι1 H1 v d) (q : t d env S1 (lC K g ι H Q)) : lG K g ι0 H0 t v σ H1 Q :=
  ⟨ι1, env, S1, d, at0.on g1 s1, r1, mt.go (fun e s hn σ' H' ι' k' e' s' => hn σ' H' ι' (g1.trans k' s1.there) e' s') q⟩
theorem psd_asg {t : DG} (he : PEd X g ι0 H0 e f) (hg : PGd X g ι0 H0 tg t) (hs : swapsWithSole [tg] e pos.line X.env = pure false := by rfl) (hw : swappedStores [tg] e X.env = pure none := by rfl) (h1 : (assignEach [tg] X.env).map (·.2) = [assign tg X.env] := by rfl) : PSd X g ι0 H0 (.Assign [tg] e pos) (dAsg f t) :=
  ⟨⟨fun hd q => he.mono.go (fun _ _ q1 => hg.mono.go hd.nx q1) q⟩, PS.weak (ps_asg he.pe hg.pg hs hw h1) fun _ _ σ H Dn _ ⟨ι, env, S, at0, q⟩ => ⟨ι, env, S, at0, he.mono.go (fun d S1 q1 v H1 ι1 g1 s1 r1 => lG_of hg.mono at0 g1 s1 r1 q1) q⟩⟩
/-- name = e -/
def dSet (i : Nat) (f : DE) : DS := fun Dn env S => f env S fun d S1 => Dn.nx (env.set i (some d)) S1
theorem psd_set {i : Nat} {x : Str} {pos' : Pos} (hN : X.N.Nodup) (he : PEd X g ι0 H0 e f) (hi : X.N[i]? = some x := by rfl) (hx : Loc X.env.scope x := by first | exact .inl rfl | exact .inr rfl) (hs : swapsWith e (some (.Name x pos')) pos.line X.env = pure false := by rfl)
    (hf : X.fn x = true ∨ X.env.scope.names.lookup x = some .local := by first | exact .inl rfl | exact .inr rfl) : PSd X g ι0 H0 (.Assign [.Name x pos'] e pos) (dSet i f) :=
  ⟨⟨fun hd q => he.mono.go (fun _ _ q1 => hd.nx _ _ q1) q⟩, PS.weak (ps_set hN hi hx he.pe hs hf) fun _ _ σ H Dn _ ⟨ι, env, S, at0, q⟩ => ⟨ι, env, S, at0, he.mono.go (fun d S1 q1 v H1 ι1 g1 s1 r1 => q1 _ H1 ι1 g1 ((at0.en.mono g1).set r1 i) s1) q⟩⟩

/-! ### while, for -/
def dWhile (t : DT) (b : DS) : DS := fun Dn env S => ∃ W : Nat → En → Sto → Prop, (∃ m, W m env S) ∧ ∀ m env S, W m env S →
  t env S fun c S1 => if c = true then b { Dn with nx := fun e s => ∃ m', m' < m ∧ W m' e s, ct := fun e s => ∃ m', m' < m ∧ W m' e s, bk := Dn.nx } env S1 else Dn.nx env S1
theorem psd_while (hp : PassesOwn (model X.prog X.w) X.A X.env X.xe) (ht : PTd X g ι0 H0 c t) (hb : PSsd X g ι0 H0 body s1) : PSd X g ι0 H0 (.While c body [] pos) (dWhile t s1) := by
  refine ⟨⟨fun {env S A B} hd ⟨W, w0, step⟩ => ⟨W, w0, fun m env S w => ht.mono.go (fun c S1 q1 => ?_) (step m env S w)⟩⟩, PS.weak (ps_while hp ht.pt hb.ps) fun _ _ σ H Dn _ ⟨ι, env, S, at0, W, ⟨m0, w0⟩, step⟩ => ?_⟩
  · cases c with
    | true => rw [if_pos rfl] at q1 ⊢; refine hb.mono.go ?_ q1; exact ⟨fun _ _ q => q, hd.rt, hd.nx, fun _ _ q => q⟩
    | false => rw [if_neg (by simp)] at q1 ⊢; exact hd.nx _ _ q1
  · refine ⟨fun m σ' H' => ∃ ι' env' S', At X.K g ι0 H0 ι' H' σ' env' S' ∧ Grow ι H ι' H' ∧ W m env' S', ⟨m0, ι, env, S, at0, Grow.refl, w0⟩, ?_⟩
    rintro m σ1 H1 ⟨ι1, env1, S1, at1, g1, w1⟩
    refine ⟨ι1, env1, S1, at1, ht.mono.go (fun c S2 q2 H2 ι2 g2 s2 => ?_) (step m env1 S1 w1)⟩
    cases c with
    | true =>
      rw [if_pos rfl] at q2 ⊢
      have g02 := g1.trans g2 at1.st.there
      have at2 := at1.on g2 s2
      refine ⟨fun σ' H' => ∃ m', m' < m ∧ ∃ ι' env' S', At X.K g ι0 H0 ι' H' σ' env' S' ∧ Grow ι H ι' H' ∧ W m' env' S', fun _ _ q => q, ι2, env1, S2, at2, hb.mono.go ⟨?_, ?_, ?_, ?_⟩ q2⟩
      · rintro e s ⟨m', hm, w'⟩ σ' H' ι' k' e' s'
        exact ⟨m', hm, ι', e, s, at2.to k' e' s', g02.trans k' s2.there, w'⟩
      · exact fun d s hn => lK.on hn g02 s2.there
      · exact fun e s hn σ' H' ι' k' e' s' => hn σ' H' ι' (g02.trans k' s2.there) e' s'
      · rintro e s ⟨m', hm, w'⟩ σ' H' ι' k' e' s'
        exact ⟨m', hm, ι', e, s, at2.to k' e' s', g02.trans k' s2.there, w'⟩
    | false =>
      rw [if_neg (by simp)] at q2 ⊢
      exact q2 σ1 H2 ι2 (g1.trans g2 at1.st.there) (at1.en.mono g2) s2

/-- what a for walks: the sequence stands (ok), its items -/
abbrev DI := En → Sto → ((Sto → Prop) → List D → Sto → Prop) → Prop
structure MoI (t : DI) : Prop where
  go : ∀ {env S} {Q Q' : (Sto → Prop) → List D → Sto → Prop}, (∀ o xs s, Q o xs s → Q' o xs s) → t env S Q → t env S Q'
/-- the walk J gives the items xs, from ι1, H1 on -/
def ItD (K : PySem.W.Frag) (g : Gm) (J : It) (ι1 : List Addr) (H1 : Hp) (ok : Sto → Prop) (xs : List D) : Prop :=
  ∀ hid ι H S, (∀ a ∈ hid, a ∈ g.hid ∨ H1 a = none) → Grow ι1 H1 ι H → StoR K (g.hide hid) ι H S → ok S →
    (∀ (i : Nat) d, xs[i]? = some d → J.go i H ∧ ∀ v H', J.yld i H v H' → Grow ι H ι H' ∧ StoR K (g.hide hid) ι H' S ∧ R K (g.hide hid) ι H' v d) ∧ ∀ i, xs.length ≤ i → J.stop i H
def lI (K : PySem.W.Frag) (g : Gm) (ι0 : List Addr) (H0 : Hp) (t : DI) : TI := fun σ H Rr => ∃ ι env S, At K g ι0 H0 ι H σ env S ∧ t env S fun ok xs S' => ∀ J H' ι', Grow ι H ι' H' → StoR K g ι' H' S' → ItD K g J ι' H' ok xs → Rr J H'
structure PId (X : Cx) (g : Gm) (ι0 : List Addr) (H0 : Hp) (tg it : Expr) (t : DI) : Prop where
  mono : MoI t
  pi : PI X tg it (lI X.K g ι0 H0 t)
def dLoop (ok : Sto → Prop) (tg : DG) (b : DS) (Dn : DEnds) : List D → En → Sto → Prop
  | [], env, S => ok S ∧ Dn.nx env S
  | x :: xs, env, S => ok S ∧ tg x env S fun e1 S1 => b { Dn with nx := fun e s => dLoop ok tg b Dn xs e s, ct := fun e s => dLoop ok tg b Dn xs e s, bk := Dn.nx } e1 S1
def dFor (t : DI) (tg : DG) (b : DS) : DS := fun Dn env S => t env S fun ok xs S1 => dLoop ok tg b Dn xs env S1
theorem dLoop_mono {ok : Sto → Prop} {tg : DG} {b : DS} (mg : MoG tg) (mb : MoS b) {A B : DEnds} (hd : DLe A B) : ∀ {xs : List D} {env : En} {S : Sto}, dLoop ok tg b A xs env S → dLoop ok tg b B xs env S
  | [], _, _, ⟨o, q⟩ => ⟨o, hd.nx _ _ q⟩
  | x :: xs, _, _, ⟨o, q⟩ => ⟨o, mg.go (fun _ _ q1 => by refine mb.go ?_ q1; exact ⟨fun _ _ q => dLoop_mono mg mb hd q, hd.rt, hd.nx, fun _ _ q => dLoop_mono mg mb hd q⟩) q⟩
theorem dLoop_ok {ok : Sto → Prop} {tg : DG} {b : DS} {A : DEnds} : ∀ {xs : List D} {env : En} {S : Sto}, dLoop ok tg b A xs env S → ok S
  | [], _, _, q => q.1
  | _ :: _, _, _, q => q.1
theorem for_run {K : PySem.W.Frag} {tgd : DG} {b : DS} (mg : MoG tgd) (mb : MoS b) {ι1 : List Addr} {H1 : Hp} {J : It} {ok : Sto → Prop} {xs : List D} {σ : L2.St} {env : En} {S1 : Sto} {Dn : Ends} (at1 : At K g ι0 H0 ι1 H1 σ env S1)
    {ι : List Addr} {H : Hp} (g01 : Grow ι H ι1 H1) (hJ : ItD K g J ι1 H1 ok xs) (q1 : dLoop ok tgd b (lD K g ι H Dn) xs env S1) :
    ∃ W : Nat → Nat → L2.St → Hp → Prop, (∃ m, W 0 m σ H1) ∧ ∀ i m σ H, W i m σ H →
      (J.stop i H ∧ Dn.nx σ H) ∨ (J.go i H ∧ ∃ N : L2.St → Hp → Prop, (∀ σ' H', N σ' H' → ∃ m', m' < m ∧ W (i + 1) m' σ' H') ∧ ∀ x H', J.yld i H x H' → lG K g ι0 H0 tgd x σ H' fun σ2 H2 => lS K g ι0 H0 b { Dn with nx := N, ct := N, bk := Dn.nx } σ2 H2) := by
  refine ⟨fun i m σ' H' => ∃ ι' env' S', At K g ι0 H0 ι' H' σ' env' S' ∧ Grow ι1 H1 ι' H' ∧ m = (xs.drop i).length ∧ dLoop ok tgd b (lD K g ι H Dn) (xs.drop i) env' S', ⟨_, ι1, env, S1, at1, Grow.refl, rfl, q1⟩, ?_⟩
  rintro i m σ2 H2 ⟨ι2, env2, S2, at2, g2, hm, q2⟩
  obtain ⟨hgo, hstop⟩ := hJ g.hid ι2 H2 S2 (fun _ z => .inl z) g2 at2.st (dLoop_ok q2)
  cases e : xs.drop i with
  | nil =>
    rw [e] at q2
    exact .inl ⟨hstop i (List.drop_eq_nil_iff.mp e), q2.2 σ2 H2 ι2 (g01.trans g2 at1.st.there) at2.en at2.st⟩
  | cons x r =>
    rw [e] at q2 hm
    have hx : xs[i]? = some x := by
      have := congrArg (·[0]?) e
      simpa [List.getElem?_drop] using this
    have hr : xs.drop (i + 1) = r := by
      have := congrArg List.tail e
      simpa [List.tail_drop] using this
    obtain ⟨hg, hy⟩ := hgo i x hx
    refine .inr ⟨hg, fun σ' H' => ∃ ι' env' S', At K g ι0 H0 ι' H' σ' env' S' ∧ Grow ι1 H1 ι' H' ∧ dLoop ok tgd b (lD K g ι H Dn) r env' S', ?_, ?_⟩
    · rintro σ' H' ⟨ι', env', S', a', g', q'⟩
      refine ⟨r.length, by rw [hm, List.length_cons]; exact Nat.lt_succ_self _, ι', env', S', a', g', by rw [hr], by rw [hr]; exact q'⟩
    · intro v H3 hv
      obtain ⟨g3, s3, r3⟩ := hy v H3 hv
      have at3 := at2.on g3 s3
      have g13 := g2.trans g3 at2.st.there
      refine ⟨ι2, env2, S2, x, at3, r3, mg.go (fun e4 S4 q4 σ4 H4 ι4 k4 en4 st4 => ?_) q2.2⟩
      have g14 := g13.trans k4 s3.there
      have at4 := at3.to k4 en4 st4
      have g04 := g01.trans g14 at1.st.there
      refine ⟨ι4, e4, S4, at4, mb.go ⟨?_, ?_, ?_, ?_⟩ q4⟩
      · exact fun e s q5 σ5 H5 ι5 k5 e5 s5 => ⟨ι5, e, s, at4.to k5 e5 s5, g14.trans k5 st4.there, q5⟩
      · exact fun d s hn => lK.on hn g04 st4.there
      · exact fun e s hn σ' H' ι' k' e' s' => hn σ' H' ι' (g04.trans k' st4.there) e' s'
      · exact fun e s q5 σ5 H5 ι5 k5 e5 s5 => ⟨ι5, e, s, at4.to k5 e5 s5, g14.trans k5 st4.there, q5⟩
theorem mono_for {t : DI} {tgd : DG} {b : DS} (mi : MoI t) (mg : MoG tgd) (mb : MoS b) : MoS (dFor t tgd b) := ⟨fun hd q => mi.go (fun _ _ _ q1 => dLoop_mono mg mb hd q1) q⟩
theorem psd_for {tgd : DG} {t : DI} {b : DS} (hp : PassesOwn (model X.prog X.w) X.A X.env X.xe) (hc : X.calm = true) (hi : PId X g ι0 H0 tg it t) (hg : PGd X g ι0 H0 tg tgd) (hb : PSsd X g ι0 H0 body b)
    (hs : ∀ x, foldedSetIterable it X.env x = pure x := by intro _; rfl) : PSd X g ι0 H0 (.For tg it body [] pos) (dFor t tgd b) :=
  ⟨mono_for hi.mono hg.mono hb.mono, PS.weak (ps_for hp hc hi.pi hg.pg hb.ps hs) fun _ _ σ H Dn _ ⟨ι, env, S, at0, q⟩ => ⟨ι, env, S, at0, hi.mono.go (fun ok xs S1 q1 J H1 ι1 g1 s1 hJ =>
    for_run hg.mono hb.mono (at0.on g1 s1) g1 hJ q1) q⟩⟩
end
end DL
set_option maxHeartbeats 4000000
/-! DL, fourth part: comprehensions, calls, fields, making, raising, try, the rule for a def. -/
namespace DL
open PySem PySem.Spec L2

/-! ### comprehensions -/
/-- the target of a comprehension: a name, or a tuple of names (their slots) -/
inductive LTg where
  | nm (i : Nat) | tp (is : List Nat)
def LTg.vs : LTg → List Nat
  | .nm i => [i]
  | .tp is => is
def LTg.tg (K : PySem.W.Frag) : LTg → TG
  | .nm i => gName i
  | .tp is => gTup K is.length (gNames is)
def LTg.bind (l : LTg) (d : D) (env : En) (Q : En → Prop) : Prop := match l with
  | .nm i => Q (env.set i (some d))
  | .tp is => ∃ xs, d = .tup xs ∧ xs.length = is.length ∧ Q (setAll env is xs)
def wipeE (env : En) : List Nat → En
  | [] => env
  | v :: vs => (wipeE env vs).set v none
theorem EnvR.wipe {K : PySem.W.Frag} {g : Gm} {ι : List Addr} {H : Hp} {σ : L2.St} {env : En} (e : EnvR K g ι H σ env) : ∀ vs : List Nat, EnvR K g ι H (wipe σ vs) (wipeE env vs)
  | [] => e
  | v :: vs => (EnvR.wipe e vs).unset v none
theorem wipe_get (σ : L2.St) (j : Nat) : ∀ vs : List Nat, (wipe σ vs)[j]? = if j ∈ vs then (if j < σ.length then some none else none) else σ[j]?
  | [] => by simp [wipe]
  | v :: vs => by
    unfold wipe
    by_cases h : v = j
    · subst h
      rw [if_pos List.mem_cons_self]
      by_cases hl : v < σ.length
      · rw [if_pos hl, List.getElem?_set_self (by rw [wipe_length]; exact hl)]
      · rw [if_neg hl, List.getElem?_eq_none_iff.mpr (by rw [List.length_set, wipe_length]; omega)]
    · rw [List.getElem?_set_ne h, wipe_get σ j vs]
      have : (j ∈ v :: vs) ↔ j ∈ vs := by rw [List.mem_cons]; exact ⟨fun z => z.resolve_left (Ne.symm h), .inr⟩
      simp only [this]
theorem wipe_set (σ : L2.St) (i : Nat) (o : Option V) (vs : List Nat) (h : i ∈ vs) : wipe (σ.set i o) vs = wipe σ vs := by
  refine List.ext_getElem? fun j => ?_
  rw [wipe_get, wipe_get, List.length_set]
  by_cases hj : j ∈ vs
  · rw [if_pos hj, if_pos hj]
  · rw [if_neg hj, if_neg hj, List.getElem?_set_ne fun z => hj (by rw [← z]; exact h)]
theorem wipe_wipe (σ : L2.St) (vs : List Nat) : wipe (wipe σ vs) vs = wipe σ vs := by
  refine List.ext_getElem? fun j => ?_
  rw [wipe_get, wipe_get, wipe_length]
  by_cases hj : j ∈ vs
  · rw [if_pos hj]; rw [if_pos hj]
  · rw [if_neg hj]
theorem wipe_setAllV (vs : List Nat) : ∀ (is : List Nat) (ws : List V) (σ : L2.St), (∀ i ∈ is, i ∈ vs) → wipe (setAllV σ is ws) vs = wipe σ vs
  | [], _, _, _ => rfl
  | _ :: _, [], _, _ => rfl
  | i :: is, w :: ws, σ, h => by
    have z := wipe_setAllV vs is ws (σ.set i (some w)) fun j hj => h j (List.mem_cons_of_mem _ hj)
    have y : setAllV σ (i :: is) (w :: ws) = setAllV (σ.set i (some w)) is ws := rfl
    rw [y, z, wipe_set _ _ _ _ (h i List.mem_cons_self)]
structure MoC (f : DT) : Prop where
  go : ∀ {env S} {Q Q' : Bool → Sto → Prop}, (∀ d S, Q d S → Q' d S) → f env S Q → f env S Q'
structure PTsd (X : Cx) (g : Gm) (ι0 : List Addr) (H0 : Hp) (es : List Expr) (f : DT) : Prop where
  mono : MoT f
  pt : PTs X es (lT X.K g ι0 H0 f)
def dYes : DT := fun _ S Q => Q true S
section
variable {X : Cx} {g : Gm} {ι0 : List Addr} {H0 : Hp}
theorem ptsd_nil : PTsd X g ι0 H0 [] dYes := ⟨⟨fun hq q => hq _ _ q⟩, ⟨fun pins s σ H Q I ⟨ι, env, S, at0, q⟩ => pts_nil.run pins s σ H Q I (q H ι Grow.refl at0.st)⟩⟩
theorem ptsd_one {c : Expr} {t : DT} (h : PTd X g ι0 H0 c t) : PTsd X g ι0 H0 [c] t := ⟨h.mono, pts_one h.pt⟩
end
/-- the turns: each begins at the wiped slots env -/
def dLcL (ok : Sto → Prop) (l : LTg) (tt : DT) (te : DE) (env : En) (Kk : List D → Sto → Prop) : List D → Sto → List D → Prop
  | [], S, acc => ok S ∧ Kk acc S
  | x :: xs, S, acc => ok S ∧ l.bind x env fun e1 => tt e1 S fun b S2 => if b = true then te e1 S2 fun y S3 => acc.length < sizeLine ∧ dLcL ok l tt te env Kk xs S3 (acc ++ [y]) else dLcL ok l tt te env Kk xs S2 acc
def dLc (t : DI) (l : LTg) (vs : List Nat) (tt : DT) (te : DE) : DE := fun env S Q => t env S fun ok xs S1 => dLcL ok l tt te (wipeE env vs) (fun acc S2 => Q (.lst acc) S2 ∨ Q (.ref S2.length) (S2 ++ [.lst acc])) xs S1 []
theorem LTg.bind_mono {l : LTg} {d : D} {env : En} {Q Q' : En → Prop} (h : ∀ e, Q e → Q' e) (q : l.bind d env Q) : l.bind d env Q' := by
  cases l with
  | nm i => exact h _ q
  | tp is => obtain ⟨xs, a, b, c⟩ := q; exact ⟨xs, a, b, h _ c⟩
theorem dLcL_mono {ok : Sto → Prop} {l : LTg} {tt : DT} {te : DE} {env : En} (mt : MoT tt) (me : MoE te) {A B : List D → Sto → Prop} (hd : ∀ a s, A a s → B a s) : ∀ {xs : List D} {S : Sto} {acc : List D}, dLcL ok l tt te env A xs S acc → dLcL ok l tt te env B xs S acc
  | [], _, _, ⟨o, q⟩ => ⟨o, hd _ _ q⟩
  | x :: xs, _, _, ⟨o, q⟩ => ⟨o, LTg.bind_mono (fun e q1 => mt.go (fun b S2 q2 => by
      cases b with
      | true => rw [if_pos rfl] at q2 ⊢; exact me.go (fun _ _ q3 => ⟨q3.1, dLcL_mono mt me hd q3.2⟩) q2
      | false => rw [if_neg (by simp)] at q2 ⊢; exact dLcL_mono mt me hd q2) q1) q⟩
theorem dLcL_ok {ok : Sto → Prop} {l : LTg} {tt : DT} {te : DE} {env : En} {A : List D → Sto → Prop} : ∀ {xs : List D} {S : Sto} {acc : List D}, dLcL ok l tt te env A xs S acc → ok S
  | [], _, _, q => q.1
  | _ :: _, _, _, q => q.1
theorem LTg.run {K : PySem.W.Frag} {g : Gm} {ι : List Addr} {H : Hp} {l : LTg} {vs : List Nat} (hv : ∀ i ∈ l.vs, i ∈ vs) {d : D} {v : V} {env : En} {σ : L2.St} {Q : En → Prop} (e : EnvR K g ι H σ env) (r : R K g ι H v d) (q : l.bind d env Q) {P : L2.St → Hp → Prop}
    (h : ∀ σ2 e2, wipe σ2 vs = wipe σ vs → EnvR K g ι H σ2 e2 → Q e2 → P σ2 H) : l.tg K v σ H P := by
  cases l with
  | nm i => exact h _ _ (wipe_set _ _ _ _ (hv i (by simp [LTg.vs]))) (e.set r i) q
  | tp is =>
    obtain ⟨xs, rfl, hl, q⟩ := q
    obtain ⟨a, ws, rfl, s, rl⟩ := r.tup_inv
    exact ⟨a, ws, rfl, s, rl.length.trans hl, gNames_run (rl.length.trans hl) (h _ _ (wipe_setAllV _ _ _ _ hv) (e.setAll rl) q)⟩
theorem Grow.hid {ι0 ι : List Addr} {H0 H : Hp} {p : Addr} {u : HO} (g : Grow ι0 H0 ι H) (h : H0 p = none) : Grow ι0 H0 ι (upd H p u) := ⟨g.1, fun a o n e => by rw [upd_ne (ne_of_none e h)]; exact g.2 a o n e⟩
def lEx (K : PySem.W.Frag) (g : Gm) (ι0 : List Addr) (H0 : Hp) (f : DE) : TE := fun σ H Q => ∃ hid, lE K (g.hide hid) ι0 H0 f σ H Q
def lTx (K : PySem.W.Frag) (g : Gm) (ι0 : List Addr) (H0 : Hp) (f : DT) : TT := fun σ H Q => ∃ hid, lT K (g.hide hid) ι0 H0 f σ H Q
theorem lc_run {K : PySem.W.Frag} {g : Gm} {ι0 : List Addr} {H0 : Hp} {l : LTg} {vs : List Nat} (hv : ∀ i ∈ l.vs, i ∈ vs) {tt : DT} {te : DE} (mt : MoT tt) (me : MoE te) {ι1 : List Addr} {H1 : Hp} {J : It} {ok : Sto → Prop} {xs : List D} {σ : L2.St} {env : En} {S1 : Sto} {Q : VK} (at1 : At K g ι0 H0 ι1 H1 σ env S1)
    {ι : List Addr} {H : Hp} (g01 : Grow ι H ι1 H1) (hJ : ItD K g J ι1 H1 ok xs) {p : Addr} (hp : H1 p = none)
    (q1 : dLcL ok l tt te (wipeE env vs) (fun acc S2 => lK K g ι H Q (.lst acc) S2 ∨ lK K g ι H Q (.ref S2.length) (S2 ++ [.lst acc])) xs S1 []) :
    ∃ W : Nat → Nat → Hp → Prop, (∃ m, W 0 m (upd H1 p (.lst []))) ∧ ∀ i m H, W i m H →
      (J.stop i H ∧ Q (.ref p) H) ∨ (J.go i H ∧ ∃ Nx : Hp → Prop, (∀ H', Nx H' → ∃ m', m' < m ∧ W (i + 1) m' H') ∧ ∀ x H', J.yld i H x H' → l.tg K x (wipe σ vs) H' fun σ2 H2 => wipe σ2 vs = wipe σ vs ∧ lTx K g ι0 H0 tt σ2 H2 fun b H3 =>
        if b = true then lEx K g ι0 H0 te σ2 H3 fun y H4 => ∃ acc, H4 p = some (.lst acc) ∧ acc.length < sizeLine ∧ Nx (upd H4 p (.lst (acc ++ [y]))) else Nx H3) := by
  have hp0 : H0 p = none := by
    cases e : H0 p with
    | none => rfl
    | some u =>
      by_cases hi : p ∈ ι0
      · obtain ⟨⟨more, em, _⟩, _⟩ := at1.gr
        exact absurd hp (at1.st.there p (by rw [em]; exact List.mem_append_left _ hi))
      · rw [at1.gr.2 p u hi e] at hp; cases hp
  have np : p ∉ ι1 := at1.st.free hp
  have nh : p ∉ g.hid := at1.st.nohid hp
  refine ⟨fun i m H' => ∃ ι' S' acc av, Grow ι1 H1 ι' H' ∧ StoR K (g.hide (p :: g.hid)) ι' H' S' ∧ H' p = some (.lst av) ∧ RL K (g.hide (p :: g.hid)) ι' H' av acc ∧ EnvR K (g.hide (p :: g.hid)) ι' H' σ env ∧
    m = (xs.drop i).length ∧ dLcL ok l tt te (wipeE env vs) (fun acc S2 => lK K g ι H Q (.lst acc) S2 ∨ lK K g ι H Q (.ref S2.length) (S2 ++ [.lst acc])) (xs.drop i) S' acc,
    ⟨_, ι1, S1, [], [], Grow.refl.hid hp, at1.st.lay hp, upd_same, .nil, ⟨at1.en.len, fun i d e => let ⟨v, a, b⟩ := at1.en.at_ i d e; ⟨v, a, b.lay hp⟩⟩, rfl, q1⟩, ?_⟩
  rintro i m H2 ⟨ι2, S2, acc, av, g2, s2, hav, rav, en2, hm, q2⟩
  obtain ⟨hgo, hstop⟩ := hJ (p :: g.hid) ι2 H2 S2 (fun a z => (List.mem_cons.mp z).elim (fun y => .inr (by rw [y]; exact hp)) .inl) g2 s2 (dLcL_ok q2)
  cases e : xs.drop i with
  | nil =>
    rw [e] at q2
    have g02 := g01.trans g2 at1.st.there
    refine .inl ⟨hstop i (List.drop_eq_nil_iff.mp e), ?_⟩
    rcases q2.2 with q3 | q3
    · exact q3 _ H2 ι2 g02 s2.show (.lst nh ⟨(s2.hd p List.mem_cons_self).1, hav⟩ rav.show)
    · refine q3 _ H2 (ι2 ++ [p]) ⟨?_, fun a o n z => g02.2 a o n z⟩ (s2.take_ nh hav rav) (.ref ?_)
      · obtain ⟨⟨more, em, fm⟩, _⟩ := g02
        refine ⟨more ++ [p], by rw [em, List.append_assoc], fun a ha => ?_⟩
        rcases List.mem_append.mp ha with z | z
        · exact fm a z
        · rw [List.mem_singleton.mp z]
          cases eH : H p with
          | none => rfl
          | some u =>
            by_cases hi : p ∈ ι
            · obtain ⟨⟨m1, e1, _⟩, _⟩ := g01
              exact absurd (List.mem_append_left _ hi) (by rw [← e1]; exact np)
            · rw [g01.2 p u hi eH] at hp; cases hp
      · rw [List.getElem?_append_right (by rw [s2.len]; exact Nat.le_refl _), s2.len, Nat.sub_self]; rfl
  | cons x r =>
    rw [e] at q2 hm
    have hx : xs[i]? = some x := by
      have := congrArg (·[0]?) e
      simpa [List.getElem?_drop] using this
    have hr : xs.drop (i + 1) = r := by
      have := congrArg List.tail e
      simpa [List.tail_drop] using this
    obtain ⟨hg, hy⟩ := hgo i x hx
    refine .inr ⟨hg, fun H' => ∃ ι' S' acc av, Grow ι1 H1 ι' H' ∧ StoR K (g.hide (p :: g.hid)) ι' H' S' ∧ H' p = some (.lst av) ∧ RL K (g.hide (p :: g.hid)) ι' H' av acc ∧ EnvR K (g.hide (p :: g.hid)) ι' H' σ env ∧
      dLcL ok l tt te (wipeE env vs) (fun acc S2 => lK K g ι H Q (.lst acc) S2 ∨ lK K g ι H Q (.ref S2.length) (S2 ++ [.lst acc])) r S' acc, ?_, ?_⟩
    · rintro H' ⟨ι', S', acc', av', g', s', h', r', en', q'⟩
      exact ⟨r.length, by rw [hm, List.length_cons]; exact Nat.lt_succ_self _, ι', S', acc', av', g', s', h', r', en', by rw [hr], by rw [hr]; exact q'⟩
    · intro v H3 hv'
      obtain ⟨g3, s3, r3⟩ := hy v H3 hv'
      have at3 : At K (g.hide (p :: g.hid)) ι0 H0 ι2 H3 σ env S2 := ⟨at1.gr.trans (g2.trans g3 s2.there) at1.st.there, en2.mono g3, s3⟩
      have np2 : p ∉ ι2 := (s2.hd p List.mem_cons_self).1
      have hav3 : H3 p = some (.lst av) := g3.2 p _ np2 hav
      refine LTg.run hv (at3.en.wipe vs) r3 q2.2 fun σ2 e2 hw en4 q4 => ⟨hw.trans (wipe_wipe _ _), p :: g.hid, ι2, e2, S2, ⟨at3.gr, en4, s3⟩, mt.go (fun b S4 q5 H4 ι4 g4 s4 => ?_) q4⟩
      have g14 := (g2.trans g3 s2.there).trans g4 s3.there
      have hav4 : H4 p = some (.lst av) := g4.2 p _ np2 hav3
      have rav4 := (rav.mono g3).mono g4
      have en4' := (en2.mono g3).mono g4
      cases b with
      | false =>
        rw [if_neg (by simp)] at q5
        refine iteF ?_
        exact ⟨ι4, S4, acc, av, g14, s4, hav4, rav4, en4', q5⟩
      | true =>
        rw [if_pos rfl] at q5
        refine iteT ?_
        have at4 : At K (g.hide (p :: g.hid)) ι0 H0 ι4 H4 σ2 e2 S4 := ⟨at1.gr.trans g14 at1.st.there, en4.mono g4, s4⟩
        refine ⟨p :: g.hid, ι4, e2, S4, at4, me.go (fun y S5 q6 w H5 ι5 g5 s5 r5 => ?_) q5⟩
        have np4 : p ∉ ι4 := (s4.hd p List.mem_cons_self).1
        have hav5 : H5 p = some (.lst av) := g5.2 p _ np4 hav4
        have rav5 := rav4.mono g5
        refine ⟨av, hav5, by rw [rav5.length]; exact q6.1, ι5, S5, acc ++ [y], av ++ [w], (g14.trans g5 s4.there).hid hp, s5.hid List.mem_cons_self, upd_same, RL.hid List.mem_cons_self hav5 (rav5.append (.cons r5 .nil)), ?_, q6.2⟩
        have e5 := en4'.mono g5
        exact ⟨e5.len, fun i d e => let ⟨v, a, b⟩ := e5.at_ i d e; ⟨v, a, b.hid List.mem_cons_self hav5⟩⟩
theorem mono_lc {t : DI} {l : LTg} {vs : List Nat} {tt : DT} {te : DE} (mi : MoI t) (mt : MoT tt) (me : MoE te) : MoE (dLc t l vs tt te) := ⟨fun hq q => mi.go (fun _ _ _ q1 => dLcL_mono mt me (fun _ _ q2 => q2.imp (hq _ _) (hq _ _)) q1) q⟩
section
variable {X : Cx} {g : Gm} {ι0 : List Addr} {H0 : Hp}
theorem ped_lc {elt tg iter : Expr} {ifs : List Expr} {scope : Scope} {pos : Pos} {t : DI} {l : LTg} {tt : DT} {te : DE} (own : List (Str × Nat)) (hc : X.calm = true) (hN : X.N.Nodup) (hi : PId X g ι0 H0 tg iter t) (ok : BlkOk X.N X.env.scope scope own)
    (hv : ∀ i ∈ l.vs, i ∈ own.map (·.2))
    (hg : ∀ (s : Shared) (H : Hp) (C : Addr) (cl : List (Str × Addr)) (fp : List Addr), PG (X.blk s H scope (compEnvC scope cl C X.env) fp) tg (l.tg X.K))
    (ht : ∀ (s : Shared) (H : Hp) (C : Addr) (cl : List (Str × Addr)) (fp hid : List Addr), PTsd (X.blk s H scope (compEnvC scope cl C X.env) fp) (g.hide hid) ι0 H0 ifs tt)
    (he : ∀ (s : Shared) (H : Hp) (C : Addr) (cl : List (Str × Addr)) (fp hid : List Addr), PEd (X.blk s H scope (compEnvC scope cl C X.env) fp) (g.hide hid) ι0 H0 elt te) (hs : ∀ x, foldedSetIterable iter X.env x = pure x := by intro _; rfl) :
    PEd X g ι0 H0 (.ListComp elt [⟨tg, iter, ifs, 0⟩] scope pos) (dLc t l (own.map (·.2)) tt te) := by
  refine ⟨mono_lc hi.mono (ht {} (fun _ => none) 0 [] [] []).mono (he {} (fun _ => none) 0 [] [] []).mono, PE.weak (pe_lc (own := own) (tt := lTx X.K g ι0 H0 tt) (te := lEx X.K g ι0 H0 te) hc hN hi.pi ok hg
    (fun s H C cl fp => ⟨fun pins s' σ H' Q I q => Exists.elim q fun hid q => (ht s H C cl fp hid).pt.run pins s' σ H' Q I q⟩)
    (fun s H C cl fp => ⟨fun pins s' σ H' Q I q => Exists.elim q fun hid q => (he s H C cl fp hid).pe.run pins s' σ H' Q I q⟩) hs) fun _ _ σ H Q _ ⟨ι, env, S, at0, q⟩ => ?_⟩
  refine ⟨ι, env, S, at0, hi.mono.go (fun o xs S1 q1 J H1 ι1 g1 s1 hJ p hp => ?_) q⟩
  exact lc_run hv (ht {} (fun _ => none) 0 [] [] []).mono (he {} (fun _ => none) 0 [] [] []).mono (at0.on g1 s1) g1 hJ hp q1
end
end DL
set_option maxHeartbeats 4000000
/-! DL, fifth part: calls, the rule for a def, making, raising, try. -/
namespace DL
open PySem PySem.Spec L2
/-- a promise over data: arguments, store, what is wanted of the answer, of an exception -/
abbrev DP := List D → Sto → DK → (String → List D → Sto → Prop) → Prop
structure MoP (Φ : DP) : Prop where
  go : ∀ {ds S} {Q Q' : DK} {E E' : String → List D → Sto → Prop}, (∀ d S, Q d S → Q' d S) → (∀ c fs S, E c fs S → E' c fs S) → Φ ds S Q E → Φ ds S Q' E'
def lSp (K : PySem.W.Frag) (g : Gm) (Φ : DP) : Sp := fun vs H Q E => ∃ ι S ds, StoR K g ι H S ∧ RL K g ι H vs ds ∧
  Φ ds S (lK K g ι H Q) fun c fs S' => ∀ cls d H' ι', Grow ι H ι' H' → StoR K g ι' H' S' → ExR K g ι' H' cls d c fs → E cls d H'
/-- the def n of the module keeps the promise Φ, at the level k -/
structure FD (P : Program) (w : World) (K : PySem.W.Frag) (mg : Str → Option Value) (base : Heap) (g : Gm) (n : Str) (k : Nat) (ps : List Str) (Φ : DP) : Prop where
  mo : MoP Φ
  ex : ∃ f fd, mg n = some (.ref f) ∧ PySem.W.keepIn K (.ref f) = true ∧ Binds K fd ps [] ∧ ∀ hid, FnOk P w K mg base (L2N.CX P w) k f fd ps (lSp K (g.hide hid) Φ)
theorem FD.hide {P : Program} {w : World} {K : PySem.W.Frag} {mg : Str → Option Value} {base : Heap} {g : Gm} {n : Str} {k : Nat} {ps : List Str} {Φ : DP} (F : FD P w K mg base g n k ps Φ) (hid : List Addr) : FD P w K mg base (g.hide hid) n k ps Φ := by
  obtain ⟨mo, f, fd, a, b, c, d⟩ := F
  exact ⟨mo, f, fd, a, b, c, fun hid' => d hid'⟩
theorem FD.up {P : Program} {w : World} {K : PySem.W.Frag} {mg : Str → Option Value} {base : Heap} {g : Gm} {n : Str} {k j : Nat} {ps : List Str} {Φ : DP} (F : FD P w K mg base g n k ps Φ) (h : k ≤ j) : FD P w K mg base g n j ps Φ := by
  obtain ⟨mo, f, fd, a, b, c, d⟩ := F
  exact ⟨mo, f, fd, a, b, c, fun hid' => (d hid').mono h⟩
def dCall (Φ : DP) (W : XD) (fa : DA) : DE := fun env S Q => fa env S fun ds S1 => Φ ds S1 Q fun c fs S2 => W c fs env S2
section
variable {X : Cx} {g : Gm} {ι0 : List Addr} {H0 : Hp} {W : XD} {n : Str} {k : Nat} {ps : List Str} {Φ : DP} {e : Expr} {es : List Expr} {fa : DA} {p pos : Pos}
theorem lSp_call {K : PySem.W.Frag} (mo : MoP Φ) {ι ι1 : List Addr} {H H1 : Hp} {σ : L2.St} {env : En} {S S1 : Sto} {ds : List D} {vs : List V} {Q : VK} (at0 : At K g ι0 H0 ι H σ env S) (g1 : Grow ι H ι1 H1) (s1 : StoR K g ι1 H1 S1) (r1 : RL K g ι1 H1 vs ds)
    (q : Φ ds S1 (lK K g ι H Q) fun c fs S2 => W c fs env S2) : lSp K g Φ vs H1 Q (WE (lW K g ι0 H0 W) σ) :=
  ⟨ι1, S1, ds, s1, r1, mo.go (fun d S2 kk => lK.on kk g1 s1.there) (fun c fs S2 kk cls d H2 ι2 g2 s2 x2 => ⟨ι2, env, S2, c, fs, (at0.on g1 s1).on g2 s2, x2, kk⟩) q⟩
theorem ped_call (F : FD X.prog X.w X.K X.mg X.base g n k ps Φ) (hr : Room k X.A) (tk : Tk X g ι0 H0 W) (ha : PAd X g ι0 H0 (e :: es) fa) (hg : Gl X n := by rfl) (hdb : (n == ("__debug__" : Str)) = false := by decide)
    (he : starEach (e :: es) X.env = (false, eval e X.env) :: starEach es X.env := by rfl) (hpl : (backTo pos (starEach es X.env)).any (·.1) = false := by rfl) : PEd X g ι0 H0 (.Call (.Name n p) (e :: es) [] pos) (dCall Φ W fa) := by
  obtain ⟨mo, f, fd, hm, hk, hb, ok⟩ := F
  refine ⟨⟨fun hq q => ha.mono.go (fun _ _ q1 => mo.go hq (fun _ _ _ z => z) q1) q⟩, PE.weak (pe_callSD (E := WE (lW X.K g ι0 H0 W)) (ok g.hid) hr hg hm hk hb .nil (fun σ => L2N.passAt tk σ) ha.pa hdb he hpl) fun _ _ σ H Q _ ⟨ι, env, S, at0, q⟩ => ⟨ι, env, S, at0, ha.mono.go (fun ds S1 q1 vs H1 ι1 g1 s1 r1 => ?_) q⟩⟩
  show lSp X.K g Φ (vs ++ []) H1 Q (WE (lW X.K g ι0 H0 W) σ)
  rw [List.append_nil]
  exact lSp_call mo at0 g1 s1 r1 q1
/-- nothing is let out -/
abbrev W0 : XD := fun _ _ _ _ => False
theorem takes0N {X : Cx} : L2N.Takes X (fun _ _ _ _ => False) := fun _ _ ⟨_, _, _, _, _, _, _, _, _, _, _, _, _, _, _, _, z⟩ => z.elim
theorem tk0 : Tk X g ι0 H0 W0 := takes0N.imp fun c d σ H ⟨_, _, _, _, _, _, _, z⟩ => z
end

/-! ### what a call leaves in the store -/
mutual
/-- all refs are below n -/
def D.clo (n : Nat) : D → Bool
  | .ref m => decide (m < n)
  | .tup xs => D.cloL n xs
  | .lst xs => D.cloL n xs
  | .ins _ xs => D.cloL n xs
  | .dic _ xs => D.cloL n xs
  | _ => true
def D.cloL (n : Nat) : List D → Bool
  | [] => true
  | x :: xs => D.clo n x && D.cloL n xs
end
def Ob.clo (n : Nat) : Ob → Bool
  | .lst xs => D.cloL n xs
  | .inst _ _ xs => D.cloL n xs
  | .dic _ xs => D.cloL n xs
  | _ => true
mutual
/-- d with the lists that are new since n made frozen -/
inductive Frz (fo : String → List Str) (n : Nat) (S : Sto) : D → D → Prop
  | clo {d : D} : D.clo n d = true → Frz fo n S d d
  | tup {xs ys : List D} : FrzL fo n S xs ys → Frz fo n S (.tup xs) (.tup ys)
  | lst {xs ys : List D} : FrzL fo n S xs ys → Frz fo n S (.lst xs) (.lst ys)
  | ref {m : Nat} {xs ys : List D} : n ≤ m → S[m]? = some (.lst xs) → FrzL fo n S xs ys → Frz fo n S (.ref m) (.lst ys)
  | ins {m : Nat} {c : String} {xs ys : List D} : n ≤ m → S[m]? = some (.inst c (fo c) xs) → FrzL fo n S xs ys → Frz fo n S (.ref m) (.ins c ys)
  | dic {m : Nat} {ks : List Str} {xs ys : List D} : n ≤ m → S[m]? = some (.dic (ks.map Sum.inr) xs) → FrzL fo n S xs ys → Frz fo n S (.ref m) (.dic ks ys)
inductive FrzL (fo : String → List Str) (n : Nat) (S : Sto) : List D → List D → Prop
  | nil : FrzL fo n S [] []
  | cons {x y : D} {xs ys : List D} : Frz fo n S x y → FrzL fo n S xs ys → FrzL fo n S (x :: xs) (y :: ys)
end
/-- the first n of S' stand as in S, or name nothing new -/
def Kept (n : Nat) (S S' : Sto) : Prop := n ≤ S'.length ∧ ∀ i o, i < n → S'[i]? = some o → S[i]? = some o ∨ o.clo n = true
inductive Cut (fo : String → List Str) (S S' : Sto) : D → D → Sto → Prop
  /-- all that is new goes; what is handed back is frozen -/
  | fz {d d' : D} : Kept S.length S S' → Frz fo S.length S' d d' → Cut fo S S' d d' (S'.take S.length)
  /-- a new list is handed back and stays -/
  | kp {m : Nat} {xs ys : List D} : Kept S.length S S' → S.length ≤ m → S'[m]? = some (.lst xs) → FrzL fo S.length (S'.set m .dead) xs ys → Cut fo S S' (.ref m) (.ref S.length) (S'.take S.length ++ [.lst ys])
  /-- four ints, as a well -/
  | wl {m : Nat} {i j k l : Int} : Kept S.length S S' → S.length ≤ m → S'[m]? = some (.lst [.int i, .int j, .int k, .int l]) → Cut fo S S' (.ref m) (.ref S.length) (S'.take S.length ++ [.well])
  | all {d : D} : Cut fo S S' d d S'
section
variable {K : PySem.W.Frag} {g : Gm} {ι ι' : List Addr} {H H' : Hp} {S S' : Sto}
mutual
theorem R.clo : ∀ {v : V} {d : D}, R K g ι H v d → D.clo ι.length d = true
  | _, _, .non => rfl
  | _, _, .bl _ => rfl
  | _, _, .int _ => rfl
  | _, _, .str _ => rfl
  | _, _, .adr _ => rfl
  | _, _, .ty _ => rfl
  | _, _, .scr _ => rfl
  | _, _, .tup _ r => by unfold D.clo; exact RL.clo r
  | _, _, .tupK _ _ _ _ _ r => by unfold D.clo; exact RL.clo r
  | _, _, .lst _ _ r => by unfold D.clo; exact RL.clo r
  | _, _, .ref e => by unfold D.clo; exact decide_eq_true (List.getElem?_eq_some_iff.mp e).1
  | _, _, .ins _ _ _ r => by unfold D.clo; exact RL.clo r
  | _, _, .dic _ _ r => by unfold D.clo; exact RL.clo r
theorem RL.clo : ∀ {vs : List V} {ds : List D}, RL K g ι H vs ds → D.cloL ι.length ds = true
  | _, _, .nil => rfl
  | _, _, .cons a r => by unfold D.cloL; rw [R.clo a, RL.clo r]; rfl
end
/-- a part of the addresses, the first n as they are -/
structure Sub2 (n : Nat) (ι ι2 : List Addr) : Prop where
  sub : ∀ x ∈ ι2, x ∈ ι
  ix : ∀ i, i < n → ι2[i]? = ι[i]?
theorem Fz.cut {ι2 : List Addr} {n : Nat} {a : Addr} {u : HO} (b : Sub2 n ι ι2) (f : Fz ι H a u) : Fz ι2 H a u := ⟨fun z => f.1 (b.sub _ z), f.2⟩
mutual
theorem R.cut {ι2 : List Addr} {n : Nat} (b : Sub2 n ι ι2) : ∀ {v : V} {d : D}, D.clo n d = true → R K g ι H v d → R K g ι2 H v d
  | _, _, _, .non => .non
  | _, _, _, .bl b => .bl b
  | _, _, _, .int i => .int i
  | _, _, _, .str x => .str x
  | _, _, _, .adr a => .adr a
  | _, _, _, .ty a => .ty a
  | _, _, _, .scr q => .scr (q.imp (fun q => ⟨q.1.cut b, q.2⟩) id)
  | _, _, c, .tup f r => .tup (f.cut b) (RL.cut b (by unfold D.clo at c; exact c) r)
  | _, _, c, .tupK a d e h j r => .tupK a d e h j (RL.cut b (by unfold D.clo at c; exact c) r)
  | _, _, c, .lst m f r => .lst m ⟨fun z => f.1 (b.sub _ z), f.2⟩ (RL.cut b (by unfold D.clo at c; exact c) r)
  | _, _, c, .ref e => .ref (by unfold D.clo at c; rw [b.ix _ (of_decide_eq_true c)]; exact e)
  | _, _, c, .ins m e q r => .ins (fun z => m (b.sub _ z)) e q (RL.cut b (by unfold D.clo at c; exact c) r)
  | _, _, c, .dic f e r => .dic (f.cut b) e (RL.cut b (by unfold D.clo at c; exact c) r)
theorem RL.cut {ι2 : List Addr} {n : Nat} (b : Sub2 n ι ι2) : ∀ {vs : List V} {ds : List D}, D.cloL n ds = true → RL K g ι H vs ds → RL K g ι2 H vs ds
  | _, _, _, .nil => .nil
  | _, _, c, .cons a r => by
    unfold D.cloL at c
    rw [Bool.and_eq_true] at c
    exact .cons (R.cut b c.1 a) (RL.cut b c.2 r)
end
theorem ObR.cut {ι2 : List Addr} {n : Nat} (b : Sub2 n ι ι2) {a : Addr} {o : Ob} (c : o.clo n = true) (h : ObR K g ι H a o) : ObR K g ι2 H a o := by
  cases o with
  | lst ds => obtain ⟨vs, q, r⟩ := h; exact ⟨vs, q, r.cut b c⟩
  | well => exact h
  | inst c' ks ds => obtain ⟨dx, fs, q, z, r⟩ := h; exact ⟨dx, fs, q, z, r.cut b c⟩
  | dic ks ds => obtain ⟨kvs, q, z, r⟩ := h; exact ⟨kvs, q, z, r.cut b c⟩
  | dead => exact h
theorem ObR.clo {a : Addr} {o : Ob} (h : ObR K g ι H a o) : o.clo ι.length = true := by
  cases o with
  | lst ds => obtain ⟨vs, q, r⟩ := h; exact r.clo
  | well => rfl
  | inst c' ks ds => obtain ⟨dx, fs, q, z, r⟩ := h; exact r.clo
  | dic ks ds => obtain ⟨kvs, q, z, r⟩ := h; exact r.clo
  | dead => rfl
theorem StoR.entry (s : StoR K g ι H S) {i : Nat} {o : Ob} (h : S[i]? = some o) : o.clo S.length = true := by
  obtain ⟨a, _, ob⟩ := s.at h
  rw [← s.len]; exact ob.clo
theorem Sub2.take {n : Nat} : Sub2 n ι (ι.take n) := ⟨fun _ z => List.mem_of_mem_take z, fun i hi => by rw [List.getElem?_take_of_lt hi]⟩
theorem Grow.take {n : Nat} (hn : n = ι.length) (k : Grow ι H ι' H') : ι'.take n = ι := by
  obtain ⟨⟨more, e, f⟩, q⟩ := k
  rw [e, hn, List.take_left]
theorem Grow.cut {n : Nat} (hn : n = ι.length) (k : Grow ι H ι' H') : Grow ι H (ι'.take n) H' := by
  rw [k.take hn]
  exact ⟨⟨[], by simp, by simp⟩, k.2⟩
/-- what is left of the store -/
theorem StoR.cutOb (s : StoR K g ι H S) (k : Kept S.length S S') (s' : StoR K g ι' H' S') {ι2 : List Addr} (b : Sub2 S.length ι' ι2) (i : Nat) (a : Addr) (o : Ob) (hi : i < S.length) (e : ι'[i]? = some a) (q : S'[i]? = some o) : ObR K g ι2 H' a o := by
  refine (s'.ob i a o e q).cut b ?_
  rcases k.2 i o hi q with z | z
  · exact s.entry z
  · exact z
theorem StoR.cut (s : StoR K g ι H S) (k : Kept S.length S S') (s' : StoR K g ι' H' S') : StoR K g (ι'.take S.length) H' (S'.take S.length) := by
  refine ⟨by rw [List.length_take, List.length_take, s'.len], s'.nd.sublist (List.take_sublist _ _), fun i a o e q => ?_, fun a ha => ⟨fun z => (s'.hd a ha).1 (List.mem_of_mem_take z), (s'.hd a ha).2⟩⟩
  have hi : i < S.length := by
    have := (List.getElem?_eq_some_iff.mp q).1
    rw [List.length_take] at this
    omega
  rw [List.getElem?_take_of_lt hi] at e q
  exact s.cutOb k s' Sub2.take i a o hi e q
theorem notin_take {n m : Nat} {a : Addr} (nd : ι.Nodup) (hm : n ≤ m) (e : ι[m]? = some a) : a ∉ ι.take n := fun z => by
  obtain ⟨i, hi, q⟩ := List.getElem_of_mem z
  rw [List.length_take] at hi
  have hi' : i < ι.length := by omega
  have e2 : ι[i]? = some a := by
    rw [List.getElem_take] at q
    rw [List.getElem?_eq_getElem hi', q]
  obtain ⟨h1, e1⟩ := List.getElem?_eq_some_iff.mp e
  obtain ⟨h2, e2⟩ := List.getElem?_eq_some_iff.mp e2
  have := (List.getElem_inj nd).mp (e1.trans e2.symm)
  omega
/-- .. and what is frozen is not among them -/
structure SubF (n : Nat) (S : Sto) (ι ι2 : List Addr) : Prop extends Sub2 n ι ι2 where
  fr : ∀ m a o, n ≤ m → ι[m]? = some a → S[m]? = some o → o ≠ .dead → a ∉ ι2
mutual
theorem R.frz {n : Nat} (s : StoR K g ι H S) {ι2 : List Addr} (b : SubF n S ι ι2) : ∀ {v : V} {d d' : D}, Frz g.fo n S d d' → R K g ι H v d → R K g ι2 H v d'
  | _, _, _, .clo c, r => r.cut b.toSub2 c
  | _, _, _, .tup f, r => by
    cases r with
    | tup z r => exact .tup (z.cut b.toSub2) (RL.frz s b f r)
    | tupK a c d e h r => exact .tupK a c d e h (RL.frz s b f r)
  | _, _, _, .lst f, r => by
    cases r with
    | lst m z r => exact .lst m ⟨fun y => z.1 (b.sub _ y), z.2⟩ (RL.frz s b f r)
  | _, _, _, .ref hm e f, r => by
    cases r with
    | ref ea =>
      obtain ⟨c, eb, vs, hb, rl⟩ := s.at e
      rw [ea] at eb; cases eb
      refine .lst (fun z => ?_) ⟨b.fr _ _ _ hm ea e (fun z => nomatch z), hb⟩ (RL.frz s b f rl)
      exact (s.hd _ z).1 (List.mem_of_getElem? ea)
  | _, _, _, .ins hm e f, r => by
    cases r with
    | ref ea =>
      obtain ⟨c, eb, dx, fs, hb, ek, rl⟩ := s.at e
      rw [ea] at eb; cases eb
      exact .ins (b.fr _ _ _ hm ea e (fun z => nomatch z)) hb ek (RL.frz s b f rl)
  | _, _, _, .dic hm e f, r => by
    cases r with
    | ref ea =>
      obtain ⟨c, eb, kvs, hb, ek, rl⟩ := s.at e
      rw [ea] at eb; cases eb
      exact .dic ⟨b.fr _ _ _ hm ea e (fun z => nomatch z), .inl hb⟩ ek (RL.frz s b f rl)
theorem RL.frz {n : Nat} (s : StoR K g ι H S) {ι2 : List Addr} (b : SubF n S ι ι2) : ∀ {vs : List V} {ds ds' : List D}, FrzL g.fo n S ds ds' → RL K g ι H vs ds → RL K g ι2 H vs ds'
  | _, _, _, .nil, r => by cases r; exact .nil
  | _, _, _, .cons f fs, r => by
    cases r with
    | cons a r => exact .cons (R.frz s b f a) (RL.frz s b fs r)
end
theorem StoR.kill (s : StoR K g ι H S) (m : Nat) : StoR K g ι H (S.set m .dead) := by
  refine ⟨by rw [List.length_set]; exact s.len, s.nd, fun i a o e q => ?_, s.hd⟩
  by_cases hm : i = m
  · subst hm
    have hi := (List.getElem?_eq_some_iff.mp q).1
    rw [List.length_set] at hi
    rw [List.getElem?_set_self hi] at q
    cases q
    exact (s.ob i a S[i] e (List.getElem?_eq_getElem hi)).there
  · rw [List.getElem?_set_ne (Ne.symm hm)] at q
    exact s.ob i a o e q
/-- one new thing is kept -/
theorem StoR.keep1 (s : StoR K g ι H S) (kp : Kept S.length S S') (gr : Grow ι H ι' H') (s' : StoR K g ι' H' S') {m : Nat} {a : Addr} {o : Ob} (hm : S.length ≤ m) (ea : ι'[m]? = some a) (ho : ObR K g (ι'.take S.length ++ [a]) H' a o) :
    Grow ι H (ι'.take S.length ++ [a]) H' ∧ StoR K g (ι'.take S.length ++ [a]) H' (S'.take S.length ++ [o]) ∧ Sub2 S.length ι' (ι'.take S.length ++ [a]) := by
  have hsl : S.length ≤ S'.length := kp.1
  have hlt : (ι'.take S.length).length = S.length := by rw [List.length_take, s'.len]; omega
  have b : Sub2 S.length ι' (ι'.take S.length ++ [a]) := by
    refine ⟨fun x hx => ?_, fun i hi => ?_⟩
    · rcases List.mem_append.mp hx with z | z
      · exact List.mem_of_mem_take z
      · rw [List.mem_singleton.mp z]; exact List.mem_of_getElem? ea
    · rw [List.getElem?_append_left (by rw [hlt]; exact hi), List.getElem?_take_of_lt hi]
  refine ⟨?_, ⟨?_, ?_, fun i c o' e q => ?_, fun c hc => ⟨fun z => (s'.hd c hc).1 (b.sub _ z), (s'.hd c hc).2⟩⟩, b⟩
  · have ht := gr.take (n := S.length) s.len.symm
    obtain ⟨⟨more, e, f⟩, q⟩ := gr
    refine ⟨⟨[a], by rw [ht], fun x hx => ?_⟩, q⟩
    rw [List.mem_singleton.mp hx]
    refine f a ?_
    rw [e, List.getElem?_append_right (by rw [s.len]; exact hm)] at ea
    exact List.mem_of_getElem? ea
  · rw [List.length_append, List.length_append, hlt, List.length_take]
    simp only [List.length_singleton]; omega
  · rw [List.nodup_append]
    refine ⟨s'.nd.sublist (List.take_sublist _ _), by simp, fun x hx y hy => ?_⟩
    rw [List.mem_singleton.mp hy]
    rintro rfl
    exact notin_take s'.nd hm ea hx
  · by_cases hi : i < S.length
    · rw [List.getElem?_append_left (by rw [hlt]; exact hi), List.getElem?_take_of_lt hi] at e
      rw [List.getElem?_append_left (by rw [List.length_take]; omega), List.getElem?_take_of_lt hi] at q
      exact s.cutOb kp s' b i c o' hi e q
    · have h1 := (List.getElem?_eq_some_iff.mp e).1
      rw [List.length_append, hlt, List.length_singleton] at h1
      have h2 : i = S.length := by omega
      subst h2
      rw [List.getElem?_append_right (by rw [hlt]; exact Nat.le_refl _), hlt, Nat.sub_self] at e
      have hl2 : (S'.take S.length).length = S.length := by rw [List.length_take]; omega
      rw [List.getElem?_append_right (by rw [hl2]; exact Nat.le_refl _), hl2, Nat.sub_self] at q
      simp at e q
      subst e; subst q; exact ho
theorem Cut.sound {S'' : Sto} {v : V} {d d' : D} (c : Cut g.fo S S' d d' S'') (s : StoR K g ι H S) (gr : Grow ι H ι' H') (s' : StoR K g ι' H' S') (r : R K g ι' H' v d) : ∃ ι2, Grow ι H ι2 H' ∧ StoR K g ι2 H' S'' ∧ R K g ι2 H' v d' := by
  cases c with
  | fz kp f =>
    refine ⟨ι'.take S.length, gr.cut s.len.symm, s.cut kp s', r.frz s' ⟨Sub2.take, fun m a o hm e _ _ => notin_take s'.nd hm e⟩ f⟩
  | kp kp hm e f =>
    rename_i m xs ys
    obtain ⟨a, rfl, ea⟩ := r.ref_inv
    obtain ⟨b, eb, vs, hb, rl⟩ := s'.at e
    rw [ea] at eb; cases eb
    have hml := (List.getElem?_eq_some_iff.mp e).1
    have hlt : (ι'.take S.length).length = S.length := by rw [List.length_take, s'.len]; have := kp.1; omega
    have fr : SubF S.length (S'.set m .dead) ι' (ι'.take S.length ++ [a]) := by
      refine ⟨⟨fun x hx => ?_, fun i hi => ?_⟩, fun i c o hi e' q' nd z => ?_⟩
      · rcases List.mem_append.mp hx with z | z
        · exact List.mem_of_mem_take z
        · rw [List.mem_singleton.mp z]; exact List.mem_of_getElem? ea
      · rw [List.getElem?_append_left (by rw [hlt]; exact hi), List.getElem?_take_of_lt hi]
      · rcases List.mem_append.mp z with z | z
        · exact notin_take s'.nd hi e' z
        · rw [List.mem_singleton.mp z] at e'
          have him : i = m := by
            obtain ⟨h1, e1⟩ := List.getElem?_eq_some_iff.mp e'
            obtain ⟨h2, e2⟩ := List.getElem?_eq_some_iff.mp ea
            exact (List.getElem_inj s'.nd).mp (e1.trans e2.symm)
          subst him
          rw [List.getElem?_set_self hml] at q'
          cases q'; exact nd rfl
    have rl2 := rl.frz (s'.kill m) fr f
    obtain ⟨k1, k2, k3⟩ := s.keep1 kp gr s' hm ea (o := .lst ys) ⟨vs, hb, rl2⟩
    exact ⟨_, k1, k2, .ref (by rw [List.getElem?_append_right (by rw [hlt]; exact Nat.le_refl _), hlt, Nat.sub_self]; rfl)⟩
  | wl kp hm e =>
    rename_i m i j k l
    obtain ⟨a, rfl, ea⟩ := r.ref_inv
    obtain ⟨b, eb, vs, hb, rl⟩ := s'.at e
    rw [ea] at eb; cases eb
    have hlt : (ι'.take S.length).length = S.length := by rw [List.length_take, s'.len]; have := kp.1; omega
    cases rl with | cons r1 rl => cases rl with | cons r2 rl => cases rl with | cons r3 rl => cases rl with | cons r4 rl => cases rl with | nil =>
    cases r1; cases r2; cases r3; cases r4
    obtain ⟨k1, k2, k3⟩ := s.keep1 kp gr s' hm ea (o := .well) ⟨i, j, k, l, hb⟩
    exact ⟨_, k1, k2, .ref (by rw [List.getElem?_append_right (by rw [hlt]; exact Nat.le_refl _), hlt, Nat.sub_self]; rfl)⟩
  | all => exact ⟨ι', gr, s', r⟩
end
end DL
set_option maxHeartbeats 4000000
/-! DL, sixth part: the rule for a def; making; raising; try; fields. -/
namespace DL
open PySem PySem.Spec L2
open PyProof.Rows (envOfC)
section
variable {K : PySem.W.Frag} {g : Gm} {ι ι' : List Addr} {H H' : Hp} {S S' : Sto}
theorem FrzL.get {n : Nat} : ∀ {xs ys : List D} {i : Nat} {x : D}, FrzL g.fo n S xs ys → xs[i]? = some x → ∃ y, ys[i]? = some y ∧ Frz g.fo n S x y
  | _, _, _, _, .nil, e => by simp at e
  | _, _, 0, _, .cons a _, e => by simp at e; subst e; exact ⟨_, rfl, a⟩
  | _, _, i + 1, x, .cons _ r, e => by
    obtain ⟨y, h1, h2⟩ := FrzL.get (i := i) (x := x) r (by simpa using e)
    exact ⟨y, by simpa using h1, h2⟩
theorem FrzL.length {n : Nat} : ∀ {xs ys : List D}, FrzL g.fo n S xs ys → xs.length = ys.length
  | _, _, .nil => rfl
  | _, _, .cons _ r => by rw [List.length_cons, List.length_cons, FrzL.length r]
/-- what an exception leaves in the store: all that is new goes -/
def CutX (fo : String → List Str) (S S' : Sto) (fs fs' : List D) (S'' : Sto) : Prop := Kept S.length S S' ∧ FrzL fo S.length S' fs fs' ∧ S'' = S'.take S.length
theorem CutX.sound {S'' : Sto} {cls : Value} {d : Option Addr} {c : String} {fs fs' : List D} (x : CutX g.fo S S' fs fs' S'') (s : StoR K g ι H S) (gr : Grow ι H ι' H') (s' : StoR K g ι' H' S') (r : ExR K g ι' H' cls d c fs) : ∃ ι2, Grow ι H ι2 H' ∧ StoR K g ι2 H' S'' ∧ ExR K g ι2 H' cls d c fs' := by
  obtain ⟨kp, f, rfl⟩ := x
  refine ⟨ι'.take S.length, gr.cut s.len.symm, s.cut kp s', ?_⟩
  obtain ⟨e, dd, vs, e2, n, h, l, q⟩ := r
  refine ⟨e, dd, vs, e2, fun z => n (List.mem_of_mem_take z), h, by rw [← f.length]; exact l, fun i nm hn => ?_⟩
  obtain ⟨v, w, a, b, rr⟩ := q i nm hn
  obtain ⟨y, hy, fy⟩ := f.get b
  exact ⟨v, y, a, hy, rr.frz s' ⟨Sub2.take, fun m a o hm e _ _ => notin_take s'.nd hm e⟩ fy⟩
end
/-- the slots at a def's entry -/
def startD (n : Nat) (ds : List D) : En := ds.map some ++ List.replicate (n - ds.length) none
theorem envR_start {K : PySem.W.Frag} {g : Gm} {ι : List Addr} {H : Hp} {N : List Str} {vs : List V} {ds : List D} (r : RL K g ι H vs ds) : EnvR K g ι H (L2.start N vs) (startD N.length ds) := by
  refine ⟨by simp [L2.start, startD, r.length], fun i d e => ?_⟩
  unfold startD at e
  by_cases hi : i < ds.length
  · rw [List.getElem?_append_left (by rw [List.length_map]; exact hi), List.getElem?_map] at e
    cases q : ds[i]? with
    | none => rw [q] at e; simp at e
    | some x =>
      rw [q] at e
      simp at e
      subst e
      obtain ⟨v, hv, rv⟩ := r.get q
      refine ⟨v, ?_, rv⟩
      unfold L2.start
      rw [List.getElem?_append_left (by rw [List.length_map, r.length]; exact hi), List.getElem?_map, hv]
      rfl
  · rw [List.getElem?_append_right (by rw [List.length_map]; omega), List.getElem?_replicate] at e
    split at e <;> cases e
/-- a def whose exceptions have no context -/
theorem _root_.L2.Fun.okN {P : Program} {w : World} {K : PySem.W.Frag} {mg : Str → Option Value} {base : Heap} {x qual : Str} {st : Stmt} {f : Addr} {fd : FuncData} {N ps : List Str} {k : Nat} {sp : Sp} (F : Fun K x qual st f fd) (S : FnScope N ps (defScope st)) (len : ∀ vs H Q E, sp vs H Q E → vs.length = ps.length)
    (hb : ∀ (cdv : Value) (A : Around) (outer : List Env) (s : Shared) (H : Hp) (vs : List V) (Q : VK) (E : XK), Room k (A.deeper (envOfC qual (defScope st) s.heap.objs.size f cdv)) → sp vs H Q E →
      ∃ t, PSs (cxOf (L2N.CX P w) P w K mg base N qual (defScope st) f cdv A outer s H E) (defBody st) t ∧ t { nx := fun _ H' => Q .non H', rt := Q } (L2.start N vs) H) : FnOk P w K mg base (L2N.CX P w) (k + 1) f fd ps sp :=
  let ⟨_, _, _, _, _, _, cdv, _, _, e, lk, hcd⟩ := F.ex
  e ▸ fn_of (e ▸ lk) hcd S len fun A outer s H vs Q E hr hsp => hb cdv A outer s H vs Q E hr hsp
/-- what the body is to reach -/
def endsOf (fo : String → List Str) (S : Sto) (Q : DK) : DEnds := ⟨fun _ S' => ∃ d' S'', Cut fo S S' .non d' S'' ∧ Q d' S'', fun d S' => ∃ d' S'', Cut fo S S' d d' S'' ∧ Q d' S'', fun _ _ => False, fun _ _ => False⟩
def wishOf (fo : String → List Str) (S : Sto) (E : String → List D → Sto → Prop) : XD := fun c fs _ S' => ∃ fs' S'', CutX fo S S' fs fs' S'' ∧ E c fs' S''
section
variable {P : Program} {w : World} {K : PySem.W.Frag} {mg : Str → Option Value} {base : Heap} {g : Gm}
/-- a body's end, from its promise -/
theorem body_run {X : Cx} {ι0 : List Addr} {t : XD → DS} {N : List Str} {st : List Stmt} {vs : List V} {Q : VK} {E : XK} {H : Hp} {S : Sto} {ds : List D} (hN : X.N = N) (s0 : StoR X.K g ι0 H S) (r0 : RL X.K g ι0 H vs ds)
    (hb : PSsd X g ι0 H st (t (wishOf g.fo S fun c fs S' => ∀ cls d H' ι', Grow ι0 H ι' H' → StoR X.K g ι' H' S' → ExR X.K g ι' H' cls d c fs → E cls d H')))
    (sem : t (wishOf g.fo S fun c fs S' => ∀ cls d H' ι', Grow ι0 H ι' H' → StoR X.K g ι' H' S' → ExR X.K g ι' H' cls d c fs → E cls d H') (endsOf g.fo S (lK X.K g ι0 H Q)) (startD N.length ds) S) :
    lS X.K g ι0 H (t (wishOf g.fo S fun c fs S' => ∀ cls d H' ι', Grow ι0 H ι' H' → StoR X.K g ι' H' S' → ExR X.K g ι' H' cls d c fs → E cls d H')) { nx := fun _ H' => Q .non H', rt := Q } (L2.start N vs) H := by
  refine ⟨ι0, _, S, ⟨Grow.refl, envR_start r0, s0⟩, hb.mono.go ⟨?_, ?_, fun _ _ z => False.elim z, fun _ _ z => False.elim z⟩ sem⟩
  · rintro e s ⟨d', S'', c, q⟩ σ' H' ι' gr e' s'
    obtain ⟨ι2, g2, s2, r2⟩ := c.sound s0 gr s' (.non (K := X.K) (g := g) (ι := ι') (H := H'))
    exact q .non H' ι2 g2 s2 r2
  · rintro d s ⟨d', S'', c, q⟩ v H' ι' gr s' r'
    obtain ⟨ι2, g2, s2, r2⟩ := c.sound s0 gr s' r'
    exact q v H' ι2 g2 s2 r2
theorem tk_start {X : Cx} {ι0 : List Addr} {E : XK} {H : Hp} {S : Sto} (s0 : StoR X.K g ι0 H S) (tk : L2N.Takes X fun cls d _ H => E cls d H) :
    Tk X g ι0 H (wishOf g.fo S fun c fs S' => ∀ cls d H' ι', Grow ι0 H ι' H' → StoR X.K g ι' H' S' → ExR X.K g ι' H' cls d c fs → E cls d H') :=
  tk.imp fun cls d σ H' ⟨ι', env, S', c, fs, at0, x, fs', S'', cx, q⟩ => by
    obtain ⟨ι2, g2, s2, x2⟩ := cx.sound s0 at0.gr at0.st x
    exact q cls d H' ι2 g2 s2 x2
/-- THE RULE for a def: the derivation of its body (for every context that the def runs in), and what the body's reading gives -/
theorem fd_of {n qual : Str} {st : Stmt} {f : Addr} {fd : FuncData} {N ps : List Str} {k : Nat} {Φ : DP} {t : XD → DS} (F : Fun K n qual st f fd) (hm : mg n = some (.ref f)) (Sc : FnScope N ps (defScope st)) (mo : MoP Φ) (hbind : Binds K fd ps [])
    (hlen : ∀ ds S Q E, Φ ds S Q E → ds.length = ps.length)
    (hb : ∀ (cdv : Value) (A : Around) (outer : List Env) (s : Shared) (H : Hp) (E : XK) (hid ι0 : List Addr) (H0 : Hp) (W : XD), Room k (A.deeper (envOfC qual (defScope st) s.heap.objs.size f cdv)) →
      Tk (cxOf (L2N.CX P w) P w K mg base N qual (defScope st) f cdv A outer s H E) (g.hide hid) ι0 H0 W →
      PSsd (cxOf (L2N.CX P w) P w K mg base N qual (defScope st) f cdv A outer s H E) (g.hide hid) ι0 H0 (defBody st) (t W))
    (sem : ∀ ds S Q E, Φ ds S Q E → t (wishOf g.fo S E) (endsOf g.fo S Q) (startD N.length ds) S) : FD P w K mg base g n (k + 1) ps Φ := by
  refine ⟨mo, f, fd, hm, F.kp, hbind, fun hid => F.okN Sc (fun vs H Q E h => ?_) fun cdv A outer s H vs Q E hr h => ?_⟩
  · obtain ⟨ι, S, ds, s, r, h⟩ := h
    rw [r.length]; exact hlen _ _ _ _ h
  · obtain ⟨ι, S, ds, s0, r, h⟩ := h
    have tk := tk_start (X := cxOf (L2N.CX P w) P w K mg base N qual (defScope st) f cdv A outer s H E) (E := E) s0 (L2N.takes_of rfl rfl rfl rfl)
    have d := hb cdv A outer s H E hid ι H _ hr tk
    refine ⟨_, d.ps, body_run rfl s0 r d ?_⟩
    have q := sem _ _ _ _ h
    exact q
end

/-! ### making an instance -/
section
variable {X : Cx} {CX : CXT} {k : Nat} {f C : Addr} {fd : FuncData} {ps : List Str} {sp : Sp} {E : L2.St → XK} {x : Str} {p pos : Pos} {e : Expr} {es : List Expr} {t : TA}
def tMakeS (C : Addr) (sp : Sp) (E : L2.St → XK) (t : TA) : TE := fun σ H Q => t σ H fun vs H1 => ∀ x dx, H1 x = none → H1 dx = none → dx ≠ x →
  sp (.ref x :: vs) (upd (upd H1 dx (.own x)) x (.ins C dx [])) (fun v H2 => v = .non ∧ Q (.ref x) H2) (E σ)
theorem run_makeS {pins : List (Addr × Obj)} {σ : L2.St} {H : Hp} {s : Shared} {Q : VK} {us : List Value} {vs : List V} (M : Mk X.K C f) (F : FnOk X.prog X.w X.K X.mg X.base CX k f fd ps sp) (hr : Room (k + 1) X.A) (hb : Binds X.K fd ps [])
    (hx : PassesAt CX X σ (E σ)) (I : Inv X pins σ H s) (r : Vals vs us)
    (h : ∀ x dx, H x = none → H dx = none → dx ≠ x → sp (.ref x :: vs) (upd (upd H dx (.own x)) x (.ins C dx [])) (fun v H2 => v = .non ∧ Q (.ref x) H2) (E σ)) :
    wpAny (model X.prog X.w) X.A (call (.ref C) us) (EP X pins σ Q) X.xe s := by
  have hq := h (s.heap.objs.size + 1) s.heap.objs.size (I.hok.fresh (Nat.le_succ _)) (I.hok.fresh (Nat.le_refl _)) (Nat.ne_of_lt (Nat.lt_succ_self _))
  have I2 := Inv.made (C := C) I
  have r2 : Vals (V.ref (s.heap.objs.size + 1) :: vs) (Value.ref (s.heap.objs.size + 1) :: us) := .cons rfl r
  have hl : ((Value.ref (s.heap.objs.size + 1) :: us) ++ []).length = ps.length := by
    have e := r2.length
    rw [F.len _ _ _ _ hq] at e
    rw [List.append_nil]; exact e.symm
  have hbb := hb ({ s with heap := (s.heap.push PySem.W.emptyDict).push (PySem.W.instObj C s.heap.objs.size) }) (Value.ref (s.heap.objs.size + 1) :: us) I2.kIn hl
  rw [List.append_nil] at hbb
  refine wpAny_call (make_map (f := f) I.kIn M.makes M.init (beq_iff_eq.mp M.fn) (codeAny_mono (F.run _ X.stack _ _ ⟨Value.ref (s.heap.objs.size + 1) :: us, []⟩ (Value.ref (s.heap.objs.size + 1) :: us) _ _ (E σ) (hr.make C us [])
    (I2.env0.make C us []) hbb r2 hq) fun r s' hq' => ?_))
  cases r with
  | error e => exact hx pins _ _ e s' I2 hq'
  | ok fl =>
    cases fl with
    | ret u =>
      obtain ⟨v, H', I3, rv, ev, q3⟩ := I2.after hq'
      subst ev
      exact ⟨rv, ⟨V.ref (s.heap.objs.size + 1), H', I3, rfl, q3⟩⟩
    | next => exact False.elim hq'
    | brk => exact False.elim hq'
    | cont => exact False.elim hq'
theorem pe_makeS (M : Mk X.K C f) (F : FnOk X.prog X.w X.K X.mg X.base CX k f fd ps sp) (hr : Room (k + 1) X.A) (hg : Gl X x) (hm : X.mg x = some (.ref C)) (hb : Binds X.K fd ps []) (hx : ∀ σ, PassesAt CX X σ (E σ))
    (ha : PA X (e :: es) t) (hdb : (x == ("__debug__" : Str)) = false := by decide) (he : starEach (e :: es) X.env = (false, eval e X.env) :: starEach es X.env := by rfl) (hpl : (backTo pos (starEach es X.env)).any (·.1) = false := by rfl) :
    PE X (.Call (.Name x p) (e :: es) [] pos) (tMakeS C sp E t) := by
  refine ⟨fun pins s σ H Q I h => ?_⟩
  refine wpAny_Call_Name_kw (ld_glob I hg hm ?_ hdb)
  refine PySem.W.callWith_K (h₀ := X.base) I.ok.mod.kin M.kp (thn (ha.run pos pins s σ H _ I h) fun us s1 ⟨vs, H1, I1, r, q⟩ => ⟨I1.kIn, ?_⟩) he hpl
  exact run_makeS M F hr hb (hx σ) I1 r q
end
/-- the class c of the module, known as n, whose __init__ keeps Φ -/
structure CD (P : Program) (w : World) (K : PySem.W.Frag) (mg : Str → Option Value) (base : Heap) (g : Gm) (c : String) (n : Str) (k : Nat) (ps : List Str) (Φ : DP) : Prop where
  mo : MoP Φ
  nm : mg n = some (.ref (g.ca c))
  ex : ∃ f fd, Mk K (g.ca c) f ∧ Binds K fd ps [] ∧ ∀ hid, FnOk P w K mg base (L2N.CX P w) k f fd ps (lSp K (g.hide hid) Φ)
theorem CD.hide {P : Program} {w : World} {K : PySem.W.Frag} {mg : Str → Option Value} {base : Heap} {g : Gm} {c : String} {n : Str} {k : Nat} {ps : List Str} {Φ : DP} (F : CD P w K mg base g c n k ps Φ) (hid : List Addr) : CD P w K mg base (g.hide hid) c n k ps Φ := by
  obtain ⟨mo, nm, f, fd, a, b, c⟩ := F
  exact ⟨mo, nm, f, fd, a, b, fun hid' => c hid'⟩
theorem CD.up {P : Program} {w : World} {K : PySem.W.Frag} {mg : Str → Option Value} {base : Heap} {g : Gm} {c : String} {n : Str} {k j : Nat} {ps : List Str} {Φ : DP} (F : CD P w K mg base g c n k ps Φ) (h : k ≤ j) : CD P w K mg base g c n j ps Φ := by
  obtain ⟨mo, nm, f, fd, a, b, c⟩ := F
  exact ⟨mo, nm, f, fd, a, b, fun hid' => (c hid').mono h⟩
def dMake (fo : String → List Str) (c : String) (Φ : DP) (W : XD) (fa : DA) : DE := fun env S Q => fa env S fun ds S1 =>
  Φ (.ref S1.length :: ds) (S1 ++ [.inst c [] []]) (fun d S2 => d = .non ∧ ∃ d' S3, Cut fo S1 S2 (.ref S1.length) d' S3 ∧ Q d' S3) fun c' fs S2 => ∃ fs' S3, CutX fo S1 S2 fs fs' S3 ∧ W c' fs' env S3
section
variable {X : Cx} {g : Gm} {ι0 : List Addr} {H0 : Hp} {W : XD} {n : Str} {c : String} {k : Nat} {ps : List Str} {Φ : DP} {e : Expr} {es : List Expr} {fa : DA} {p pos : Pos}
theorem lSp_make {K : PySem.W.Frag} (mo : MoP Φ) {ι ι1 : List Addr} {H H1 : Hp} {σ : L2.St} {env : En} {S S1 : Sto} {ds : List D} {vs : List V} {Q : VK} (at0 : At K g ι0 H0 ι H σ env S) (g1 : Grow ι H ι1 H1) (s1 : StoR K g ι1 H1 S1) (r1 : RL K g ι1 H1 vs ds)
    (q : Φ (.ref S1.length :: ds) (S1 ++ [.inst c [] []]) (fun d S2 => d = .non ∧ ∃ d' S3, Cut g.fo S1 S2 (.ref S1.length) d' S3 ∧ lK K g ι H Q d' S3) fun c' fs S2 => ∃ fs' S3, CutX g.fo S1 S2 fs fs' S3 ∧ W c' fs' env S3)
    {x dx : Addr} (hx : H1 x = none) (hdx : H1 dx = none) (hne : dx ≠ x) :
    lSp K g Φ (.ref x :: vs) (upd (upd H1 dx (.own x)) x (.ins (g.ca c) dx [])) (fun v H2 => v = .non ∧ Q (.ref x) H2) (WE (lW K g ι0 H0 W) σ) := by
  have hx2 : (upd H1 dx (.own x)) x = none := by rw [upd_ne (Ne.symm hne)]; exact hx
  have ga := grow_new (ι := ι1) (u := .own x) hdx
  have gb := grow_add (ι := ι1) (u := .ins (g.ca c) dx []) hx2
  have sa := s1.new (u := .own x) hdx
  have g12 := ga.trans gb sa.there
  have sb := sa.add (u := .ins (g.ca c) dx []) (o := .inst c [] []) hx2 ⟨dx, [], upd_same, rfl, .nil⟩
  have ex : (ι1 ++ [x])[S1.length]? = some x := by rw [List.getElem?_append_right (by rw [s1.len]; exact Nat.le_refl _), s1.len, Nat.sub_self]; rfl
  refine ⟨_, _, _, sb, .cons (.ref ex) (r1.mono g12), mo.go ?_ ?_ q⟩
  · rintro d S2 ⟨rfl, d', S3, cu, kk⟩ v H2 ι2 g2 s2 r2
    have g02 := g12.trans g2 sb.there
    refine ⟨r2.non_inv, ?_⟩
    have rx : R K g ι2 H2 (.ref x) (.ref S1.length) := by
      refine .ref ?_
      obtain ⟨⟨more, em, _⟩, _⟩ := g2
      rw [em, List.getElem?_append_left (List.getElem?_eq_some_iff.mp ex).1]; exact ex
    obtain ⟨ι3, g3, s3, r3⟩ := cu.sound s1 g02 s2 rx
    exact kk _ H2 ι3 (g1.trans g3 s1.there) s3 r3
  · rintro c' fs S2 ⟨fs', S3, cu, kk⟩ cls d H2 ι2 g2 s2 x2
    have g02 := g12.trans g2 sb.there
    obtain ⟨ι3, g3, s3, x3⟩ := cu.sound s1 g02 s2 x2
    exact ⟨ι3, env, S3, c', fs', (at0.on g1 s1).on g3 s3, x3, kk⟩
theorem mono_make {fo : String → List Str} (mo : MoP Φ) (ma : MoA fa) : MoE (dMake fo c Φ W fa) := ⟨fun hq q => ma.go (fun _ _ q1 => mo.go (fun _ _ ⟨e, d', S3, cu, z⟩ => ⟨e, d', S3, cu, hq _ _ z⟩) (fun _ _ _ z => z) q1) q⟩
theorem ped_make (F : CD X.prog X.w X.K X.mg X.base g c n k ps Φ) (hr : Room (k + 1) X.A) (tk : Tk X g ι0 H0 W) (ha : PAd X g ι0 H0 (e :: es) fa) (hg : Gl X n := by rfl) (hdb : (n == ("__debug__" : Str)) = false := by decide)
    (he : starEach (e :: es) X.env = (false, eval e X.env) :: starEach es X.env := by rfl) (hpl : (backTo pos (starEach es X.env)).any (·.1) = false := by rfl) : PEd X g ι0 H0 (.Call (.Name n p) (e :: es) [] pos) (dMake g.fo c Φ W fa) := by
  obtain ⟨mo, nm, f, fd, M, hb, ok⟩ := F
  refine ⟨mono_make mo ha.mono, PE.weak (pe_makeS (E := WE (lW X.K g ι0 H0 W)) M (ok g.hid) hr hg nm hb (fun σ => L2N.passAt tk σ) ha.pa hdb he hpl) fun _ _ σ H Q _ ⟨ι, env, S, at0, q⟩ => ⟨ι, env, S, at0, ha.mono.go (fun ds S1 q1 vs H1 ι1 g1 s1 r1 => ?_) q⟩⟩
  intro x dx hx hdx hne
  exact lSp_make mo at0 g1 s1 r1 q1 hx hdx hne
end

/-! ### fields -/
def fldD (fo : String → List Str) (cs : List String) (f : Str) : D → Sto → Option D
  | .ins c vs, _ => if c ∈ cs then ((fo c).zip vs).lookup f else none
  | .ref n, S => match S[n]? with
    | some (.inst c ks vs) => if c ∈ cs then (ks.zip vs).lookup f else none
    | _ => none
  | _, _ => none
def dFld (fo : String → List Str) (cs : List String) (f : Str) (h : DE) : DE := fun env S Q => h env S fun x S1 => ∃ v, fldD fo cs f x S1 = some v ∧ Q v S1
theorem RL.lookup {K : PySem.W.Frag} {g : Gm} {ι : List Addr} {H : Hp} {f : Str} : ∀ {fs : List (Str × V)} {ds : List D} {d : D}, RL K g ι H (fs.map (·.2)) ds → ((fs.map (·.1)).zip ds).lookup f = some d → ∃ v, fs.lookup f = some v ∧ R K g ι H v d
  | [], _, _, _, e => by simp at e
  | (a, v) :: fs, [], _, r, e => by simp at e
  | (a, v) :: fs, d0 :: ds, d, .cons r rl, e => by
    simp only [List.map_cons, List.zip_cons_cons, List.lookup_cons] at e ⊢
    split at e
    · rename_i hb
      cases e
      exact ⟨v, rfl, r⟩
    · rename_i hb
      exact RL.lookup rl e
/-- the class as the walk asks it -/
def ClsF (K : PySem.W.Frag) (g : Gm) (cs : List String) (f : Str) : Prop := ∀ c ∈ cs, Cls K (g.ca c) ∧ NoAttr K (g.ca c) f
section
variable {X : Cx} {g : Gm} {ι0 : List Addr} {H0 : Hp} {e o : Expr} {h : DE} {pos : Pos} {f : Str} {cs : List String}
theorem ped_fld (hc : ClsF X.K g cs f) (he : PEd X g ι0 H0 e h) (hb : attributeBase e f X.env (eval e X.env) = eval e X.env := by rfl) : PEd X g ι0 H0 (.Attribute e f pos) (dFld g.fo cs f h) := by
  refine ⟨⟨fun hq q => he.mono.go (fun _ _ ⟨v, a, b⟩ => ⟨v, a, hq _ _ b⟩) q⟩, PE.weak (pe_fld he.pe hb) fun _ _ σ H Q _ ⟨ι, env, S, at0, q⟩ => ⟨ι, env, S, at0, he.mono.go (fun d S1 ⟨v, a, b⟩ x H1 ι1 g1 s1 r1 => ?_) q⟩⟩
  cases d with
  | ins c vs =>
    simp only [fldD] at a
    split at a
    · rename_i hm
      cases r1 with
      | ins n hh ek rl =>
        rw [← ek] at a
        obtain ⟨u, hu, ru⟩ := rl.lookup a
        exact ⟨_, _, _, _, u, rfl, hh, (hc c hm).1, (hc c hm).2, hu, b _ H1 ι1 g1 s1 ru⟩
    · cases a
  | ref n =>
    simp only [fldD] at a
    split at a
    · rename_i c ks vs hs
      split at a
      · rename_i hm
        obtain ⟨p, rfl, ep⟩ := r1.ref_inv
        obtain ⟨p', ep', dx, fs, hh, ek, rl⟩ := s1.at hs
        rw [ep] at ep'; cases ep'
        rw [← ek] at a
        obtain ⟨u, hu, ru⟩ := rl.lookup a
        exact ⟨_, _, _, _, u, rfl, hh, (hc c hm).1, (hc c hm).2, hu, b _ H1 ι1 g1 s1 ru⟩
      · cases a
    · cases a
  | _ => cases a
/-- ks, vs with f stored -/
def putD (f : Str) (v : D) : List Str → List D → List Str × List D
  | k :: ks, d :: ds => if k = f then (k :: ks, v :: ds) else let r := putD f v ks ds; (k :: r.1, d :: r.2)
  | _, _ => ([f], [v])
theorem putF_rel {K : PySem.W.Frag} {ι : List Addr} {H : Hp} {v : V} {d : D} (r : R K g ι H v d) : ∀ {fs : List (Str × V)} {ds : List D}, RL K g ι H (fs.map (·.2)) ds → (putF f v fs).map (·.1) = (putD f d (fs.map (·.1)) ds).1 ∧ RL K g ι H ((putF f v fs).map (·.2)) (putD f d (fs.map (·.1)) ds).2
  | [], _, .nil => ⟨rfl, .cons r .nil⟩
  | (a, w) :: fs, d0 :: ds, .cons r0 rl => by
    simp only [putF, List.map_cons, putD]
    by_cases hk : a = f
    · rw [if_pos hk, if_pos hk]
      exact ⟨by simp, .cons r rl⟩
    · rw [if_neg hk, if_neg hk]
      obtain ⟨x, y⟩ := putF_rel r rl
      exact ⟨by simp [x], .cons r0 y⟩
/-- o.f = e of an instance in the store -/
def dFldS (c : String) (f : Str) (fo fe : DE) : DS := fun Dn env S => fe env S fun y S1 => fo env S1 fun x S2 => ∃ n ks vs, x = .ref n ∧ S2[n]? = some (.inst c ks vs) ∧ ks.length < 1000 ∧ Dn.nx env (S2.set n (.inst c (putD f y ks vs).1 (putD f y ks vs).2))
theorem psd_fld {c : String} {fo fe : DE} {pos' : Pos} (hc : ClsF X.K g [c] f) (ho : PEd X g ι0 H0 o fo) (he : PEd X g ι0 H0 e fe) (hs : swapsWith e (some (.Attribute o f pos')) pos.line X.env = pure false := by rfl) :
    PSd X g ι0 H0 (.Assign [.Attribute o f pos'] e pos) (dFldS c f fo fe) := by
  refine ⟨⟨fun hd q => he.mono.go (fun _ _ q1 => ho.mono.go (fun _ _ ⟨n, ks, vs, a, b, l, z⟩ => ⟨n, ks, vs, a, b, l, hd.nx _ _ z⟩) q1) q⟩, PS.weak (ps_fld ho.pe he.pe hs) fun _ _ σ H Dn _ ⟨ι, env, S, at0, q⟩ =>
    ⟨ι, env, S, at0, he.mono.go (fun y S1 q1 vy H1 ι1 g1 s1 r1 => ⟨ι1, env, S1, at0.on g1 s1, ho.mono.go (fun x S2 ⟨n, ks, vs, a, b, l, z⟩ vx H2 ι2 g2 s2 r2 => ?_) q1⟩) q⟩⟩
  subst a
  obtain ⟨p, rfl, ep⟩ := r2.ref_inv
  obtain ⟨p', ep', dx, fs, hh, ek, rl⟩ := s2.at b
  rw [ep] at ep'; cases ep'
  have g12 := g1.trans g2 s1.there
  have gs := grow_set (H := H2) (u := .ins (g.ca c) dx (putF f vy fs)) ep
  obtain ⟨h1, h2⟩ := putF_rel (f := f) ((r1.mono g2).mono gs) (rl.mono gs)
  rw [ek] at h1 h2
  have ss := s2.put (u := .ins (g.ca c) dx (putF f vy fs)) (o := .inst c (putD f y ks vs).1 (putD f y ks vs).2) ep ⟨dx, _, upd_same, h1, h2⟩
  refine ⟨p, _, dx, fs, rfl, hh, (hc c (by simp)).1, (hc c (by simp)).2, ?_, z σ _ ι2 (g12.trans gs s2.there) ((at0.en.mono g12).mono gs) ss⟩
  have := congrArg List.length ek
  rw [List.length_map] at this
  omega
end
end DL
set_option maxHeartbeats 4000000
/-! DL, seventh part: own exceptions: their __init__, raise, try .. except, the caught one's fields. -/
namespace DL
open PySem PySem.Spec L2
open PyProof.Rows (envOfC)
/-! ### __init__ of an exception: self.f = f for each field -/
def exFin (H : Hp) (a C dx : Addr) (fs : List (Str × V)) : Hp := upd (upd H dx (exd dx fs)) a (exo a C (some dx))
theorem exFin_put {H : Hp} {a C dx : Addr} {fs gs : List (Str × V)} (hne : dx ≠ a) : upd (exFin H a C dx fs) dx (exd dx gs) = exFin H a C dx gs := by
  funext b
  unfold exFin
  by_cases h1 : b = dx
  · rw [h1, upd_same, upd_ne hne, upd_same]
  · rw [upd_ne h1]
    by_cases h2 : b = a
    · rw [h2, upd_same, upd_same]
    · rw [upd_ne h2, upd_ne h1, upd_ne h2, upd_ne h1]
def spEx (K : PySem.W.Frag) (fs : List Str) : Sp := fun vs H Q _ => ∃ (a C : Addr) (ys : List V), vs = .ref a :: ys ∧ ys.length = fs.length ∧ H a = some (exo a C none) ∧ OexC K C ∧ (∀ f ∈ fs, PySem.W.findIn K (.ref C) f = some none) ∧
  ∀ dx, H dx = none → dx ≠ a → Q .non (exFin H a C dx (fs.zip ys).reverse)
theorem ex1_read {K : PySem.W.Frag} {f1 : Str} {vs : List V} {H : Hp} {Q : VK} {E : XK} {N : List Str} (hn : N.length = 2) (h : spEx K [f1] vs H Q E) : tOst K f1 (tVar 0) (tVar 1) { nx := fun _ H' => Q .non H', rt := Q } (L2.start N vs) H := by
  obtain ⟨a, C, ys, rfl, hl, ha, T, nf, k⟩ := h
  match ys, hl with
  | [y], _ =>
    refine ⟨y, by rfl, .ref a, by rfl, a, C, rfl, T, nf f1 (by simp), .inl ⟨ha, fun dx hdx hne => ?_⟩⟩
    exact k dx hdx hne
theorem ex2_read {K : PySem.W.Frag} {f1 f2 : Str} {vs : List V} {H : Hp} {Q : VK} {E : XK} {N : List Str} (hn : N.length = 3) (h : spEx K [f1, f2] vs H Q E) :
    tSeq (tOst K f1 (tVar 0) (tVar 1)) (tOst K f2 (tVar 0) (tVar 2)) { nx := fun _ H' => Q .non H', rt := Q } (L2.start N vs) H := by
  obtain ⟨a, C, ys, rfl, hl, ha, T, nf, k⟩ := h
  match ys, hl with
  | [y, z], _ =>
    refine ⟨y, by rfl, .ref a, by rfl, a, C, rfl, T, nf f1 (by simp), .inl ⟨ha, fun dx hdx hne => ?_⟩⟩
    refine ⟨z, by rfl, .ref a, by rfl, a, C, rfl, T, nf f2 (by simp), .inr ⟨dx, [(f1, y)], upd_same, ?_, by show 1 ≤ 900; decide, ?_⟩⟩
    · rw [upd_ne hne, upd_same]
    · have e := k dx hdx hne
      rw [← exFin_put (fs := [(f1, y)]) hne] at e
      exact e
theorem spEx_len {K : PySem.W.Frag} {fs : List Str} {vs : List V} {H : Hp} {Q : VK} {E : XK} (h : spEx K fs vs H Q E) : vs.length = fs.length + 1 := by
  obtain ⟨a, C, ys, rfl, hl, _⟩ := h
  rw [List.length_cons, hl]
/-- the exception class c of the module, known as n -/
structure XC (P : Program) (w : World) (K : PySem.W.Frag) (mg : Str → Option Value) (base : Heap) (g : Gm) (c : String) (n : Str) : Prop where
  nm : mg n = some (.ref (g.ca c))
  T : OexC K (g.ca c)
  nd : (g.fo c).Nodup
  nf : ∀ f ∈ g.fo c, PySem.W.findIn K (.ref (g.ca c)) f = some none
  ex : ∃ f fd ps, PySem.W.findIn K (.ref (g.ca c)) "__init__" = some (some (.ref f)) ∧ PySem.W.typeIn K (.ref f) = some (.type "function") ∧ Binds K fd ps [] ∧ FnOk P w K mg base CX0 1 f fd ps (spEx K (g.fo c))
theorem XC.hide {P : Program} {w : World} {K : PySem.W.Frag} {mg : Str → Option Value} {base : Heap} {g : Gm} {c : String} {n : Str} (x : XC P w K mg base g c n) (hid : List Addr) : XC P w K mg base (g.hide hid) c n := ⟨x.nm, x.T, x.nd, x.nf, x.ex⟩
def dRaise (fo : String → List Str) (c : String) (W : XD) (fa : DA) : DS := fun _ env S => fa env S fun ds S1 => ds.length = (fo c).length ∧ W c ds env S1
theorem lookup_rev : ∀ {ns : List Str} {ys : List V} {i : Nat} {n : Str} {y : V}, ns.Nodup → ns[i]? = some n → ys[i]? = some y → (ns.zip ys).reverse.lookup n = some y
  | [], _, _, _, _, _, e, _ => by simp at e
  | m :: ns, [], _, _, _, _, _, e => by simp at e
  | m :: ns, x :: ys, 0, n, y, nd, e1, e2 => by
    simp at e1 e2
    subst e1; subst e2
    rw [List.zip_cons_cons, List.reverse_cons, List.lookup_append]
    have hn : (ns.zip ys).reverse.lookup m = none := by
      rw [List.lookup_eq_none_iff]
      rintro ⟨a, b⟩ hp
      rw [List.mem_reverse] at hp
      have ha := (List.of_mem_zip hp).1
      rw [List.nodup_cons] at nd
      simp only [bne_iff_ne, ne_eq]
      rintro rfl
      exact nd.1 ha
    rw [hn]
    simp [List.lookup]
  | m :: ns, x :: ys, i + 1, n, y, nd, e1, e2 => by
    rw [List.nodup_cons] at nd
    rw [List.zip_cons_cons, List.reverse_cons, List.lookup_append, lookup_rev nd.2 (by simpa using e1) (by simpa using e2)]
    rfl
/-- C(e, ..) makes an exception without a context; C's own __init__ keeps sp -/
theorem pmk_oexN {X : Cx} {CT : CXT} {x : Str} {e : Expr} {es : List Expr} {ta : TA} {p pos : Pos} {C fI : Addr} {k : Nat} {fd : FuncData} {ps : List Str} {sp : Sp} (T : OexC X.K C) (iC : PySem.W.findIn X.K (.ref C) "__init__" = some (some (.ref fI))) (tI : PySem.W.typeIn X.K (.ref fI) = some (.type "function"))
    (ok : FnOk X.prog X.w X.K X.mg X.base CT k fI fd ps sp) (room : Room (k + 1) X.A) (bi : Binds X.K fd ps []) (px : Passes CT X (fun _ _ _ => False)) (hg : Gl X x) (hm : X.mg x = some (.ref C)) (ha : PA X (e :: es) ta)
    (hdb : (x == ("__debug__" : Str)) = false := by decide) (he : starEach (e :: es) X.env = (false, eval e X.env) :: starEach es X.env := by rfl) (hpl : (backTo pos (starEach es X.env)).any (·.1) = false := by rfl) :
    L2N.PMk X (.Call (.Name x p) (e :: es) [] pos) (tMkO C sp [] ta) := by
  intro pins s σ H Q I h
  obtain ⟨nm, q, N, bs, bm, sn, sub, ab, col, dd, k0, k1, k2, k3, k5, cls, refs⟩ := T.cls
  refine wpAny_Call_Name_kw (ld_glob I hg hm ?_ hdb)
  refine PySem.W.callWith_K (h₀ := X.base) I.ok.mod.kin T.kC (thn (ha.run pos pins s σ H _ I h) fun us sA ⟨vs, HA, IA, rA, len, want⟩ => ⟨IA.kIn, ?_⟩) he hpl
  show wpAny (model X.prog X.w) X.A (call (.ref C) us) (L2N.MkP X pins σ Q) X.xe sA
  obtain ⟨hp, gg, dr, tk, os⟩ := sA
  have le : hp.objs.size ≤ hp.objs.size + 1 := Nat.le_add_right _ 1
  have free : HA (hp.objs.size + 1) = none := IA.hok.fresh le
  have W1 := want (hp.objs.size + 1) free
  rw [List.append_nil] at W1
  have stay : ∀ b o, hp.get? b = some o → ((hp.push (PySem.W.kdv_tup us)).push (PySem.HandSPX.excO C hp.objs.size)).get? b = some o := fun _ _ z => Heap.get?_push_of_some _ (Heap.get?_push_of_some _ z)
  have I2 : Inv X pins σ (upd HA (hp.objs.size + 1) (exo (hp.objs.size + 1) C none)) ⟨(hp.push (PySem.W.kdv_tup us)).push (PySem.HandSPX.excO C hp.objs.size), gg, dr, tk, os⟩ :=
    IA.laid (h' := (hp.push (PySem.W.kdv_tup us)).push (PySem.HandSPX.excO C hp.objs.size)) (t' := tk) (o := exo (hp.objs.size + 1) C none) (a := hp.objs.size + 1) stay le (exo_ok (by heap_get))
  have rr : Vals (V.ref (hp.objs.size + 1) :: vs) (Value.ref (hp.objs.size + 1) :: us) := .cons rfl rA
  have hl : (Value.ref (hp.objs.size + 1) :: us).length = ps.length := by rw [← rr.length]; exact ok.len _ _ _ _ W1
  have hus : us.length ≤ sizeLine := Nat.le_trans (Nat.le_of_eq rA.length.symm) (Nat.le_trans len (by rw [sizeLine_eq]; decide))
  have b2 := bi _ (Value.ref (hp.objs.size + 1) :: us) I2.kIn (by rw [List.append_nil]; exact hl)
  rw [List.append_nil] at b2
  have run := ok.run _ X.stack _ _ ⟨Value.ref (hp.objs.size + 1) :: us, []⟩ _ _ _ (fun _ _ _ => False) (room.make C us []) (I2.env0.make C us []) b2 rr W1
  refine wpAny_call (PySem.HandSPX.call_own F.excBase_ValueError (fun Y => PySem.HandSPX.refsVE_contains Y bm refs) (IA.kIn _ _ cls) (PySem.W.looks_findIn IA.kIn iC) (fun self => PySem.W.bind_fn IA.kIn self tI) hus (codeAny_mono run fun r s' hq => ?_))
  match r, hq with
  | .error er, hq => exact px pins σ _ _ er s' I2 hq
  | .ok (.ret u), ⟨v, H2, os2, bare2, un2, hok2, rv, ev, d, fs, ea, ed, hd1, q2⟩ =>
    subst ev
    obtain ⟨h2, g2, d2, t2, os'⟩ := s'
    obtain ⟨t0, G, J, kG, ge, hoe, na⟩ := mk_end0 (d2 := d2) (t2 := t2) IA le stay un2 hok2 os2 bare2 ea ed hd1
    exact ⟨rv, hp.objs.size + 1, _, _, ⟨G, g2, d2, t2, os'⟩, _, .ref C, some d, rfl, J, kG, ge, hoe, ⟨rfl, rfl, fun vs hv => by cases hv; rfl⟩, rfl, rfl, na, rfl, bare2, raises_own T.exC T.tyC, q2⟩
section
variable {X : Cx} {g : Gm} {ι0 : List Addr} {H0 : Hp} {W : XD} {n : Str} {c : String} {e : Expr} {es : List Expr} {fa : DA} {p pos pos' : Pos}
theorem psd_raise {k : Nat} (x : XC X.prog X.w X.K X.mg X.base g c n) (hr : Room k X.A) (hk : 2 ≤ k) (hc : X.calm = true) (tk : Tk X g ι0 H0 W) (ha : PAd X g ι0 H0 (e :: es) fa) (hlen : (g.fo c).length ≤ 1000) (hg : Gl X n := by rfl) (hdb : (n == ("__debug__" : Str)) = false := by decide)
    (he : starEach (e :: es) X.env = (false, eval e X.env) :: starEach es X.env := by rfl) (hpl : (backTo pos (starEach es X.env)).any (·.1) = false := by rfl) : PSd X g ι0 H0 (.Raise (some (.Call (.Name n p) (e :: es) [] pos)) none pos') (dRaise g.fo c W fa) := by
  obtain ⟨fI, fd, ps, iC, tI, hb, ok⟩ := x.ex
  refine ⟨⟨fun hd q => ha.mono.go (fun _ _ z => z) q⟩, PS.weak (L2N.ps_raise hc tk (pmk_oexN x.T iC tI ok (hr.mono hk) hb pass0 hg x.nm ha.pa hdb he hpl)) fun _ _ σ H Dn _ ⟨ι, env, S, at0, q⟩ => ⟨ι, env, S, at0, ha.mono.go (fun ds S1 ⟨hl, q1⟩ vs H1 ι1 g1 s1 r1 => ?_) q⟩⟩
  have hvl : vs.length = (g.fo c).length := r1.length.trans hl
  refine ⟨by rw [hvl]; exact hlen, fun a hna => ⟨a, g.ca c, vs, by rw [List.append_nil], hvl, upd_same, x.T, x.nf, fun dx hdx hne => ⟨rfl, dx, ((g.fo c).zip vs).reverse, ?_, ?_, ?_, ?_⟩⟩⟩
  · unfold exFin; rw [upd_same]
  · unfold exFin; rw [upd_ne hne, upd_same]
  · rw [upd_ne hne] at hdx; exact hdx
  · have hd1 : H1 dx = none := by rw [upd_ne hne] at hdx; exact hdx
    have e : upd (del (exFin (upd H1 a (exo a (g.ca c) none)) a (g.ca c) dx ((g.fo c).zip vs).reverse) a) dx (.xd ((g.fo c).zip vs).reverse) = upd H1 dx (.xd ((g.fo c).zip vs).reverse) := by
      funext b
      by_cases h1 : b = dx
      · rw [h1, upd_same, upd_same]
      · rw [upd_ne h1, upd_ne h1]
        by_cases h2 : b = a
        · rw [h2, del_same, hna]
        · rw [del_ne h2]; unfold exFin; rw [upd_ne h2, upd_ne h1, upd_ne h2]
    rw [e]
    have gn := grow_new (ι := ι1) (u := .xd ((g.fo c).zip vs).reverse) hd1
    refine ⟨ι1, env, S1, c, ds, (at0.on g1 s1).on gn (s1.new hd1), ⟨rfl, dx, _, rfl, s1.free hd1, upd_same, hl, fun i m hm => ?_⟩, q1⟩
    have hi : i < ds.length := by rw [hl]; exact (List.getElem?_eq_some_iff.mp hm).1
    obtain ⟨v, hv, rv⟩ := r1.get (List.getElem?_eq_getElem hi)
    exact ⟨v, ds[i], lookup_rev x.nd hm hv, List.getElem?_eq_getElem hi, rv.mono gn⟩
end

/-! ### try: body except C as n: suite -/
/-- behind an except suite its name is gone -/
def tryEnds (i : Nat) (A : DEnds) : DEnds := ⟨fun e s => A.nx (e.set i none) s, A.rt, fun e s => A.bk (e.set i none) s, fun e s => A.ct (e.set i none) s⟩
/-- what the clause wishes -/
def tryW (i : Nat) (ms : String → Option Bool) (fs : Addr → String → List D → DS) (Wout : XD) (Dn : DEnds) : XD := fun c vs env' S' =>
  ∃ b, ms c = some b ∧ (b = true → ∀ a, ∃ B, DLe B Dn ∧ fs a c vs (tryEnds i B) (env'.set i (some (.adr a))) S') ∧ (b = false → Wout c vs env' S')
def dTry (i : Nat) (ms : String → Option Bool) (fb : XD → DS) (fs : Addr → String → List D → DS) (Wout : XD) : DS := fun Dn env S =>
  ∃ (W : XD) (A : DEnds), DLe A Dn ∧ (∀ c vs env' S', W c vs env' S' → tryW i ms fs Wout Dn c vs env' S') ∧ fb W A env S
/-- which class an except clause of the class cv catches -/
def Exm (K : PySem.W.Frag) (g : Gm) (cv : Value) (ms : String → Option Bool) : Prop := ∀ c b, ms c = some b → PySem.W.exmOne K (.ref (g.ca c)) cv = some b
theorem tryW_mono {i : Nat} {ms : String → Option Bool} {fs : Addr → String → List D → DS} {Wout : XD} {A B : DEnds} (h : DLe A B) {c : String} {vs : List D} {e : En} {s : Sto} (q : tryW i ms fs Wout A c vs e s) : tryW i ms fs Wout B c vs e s := by
  obtain ⟨b, m, x, y⟩ := q
  exact ⟨b, m, fun hb a => let ⟨B', l, z⟩ := x hb a; ⟨B', ⟨fun _ _ q => h.nx _ _ (l.nx _ _ q), fun _ _ q => h.rt _ _ (l.rt _ _ q), fun _ _ q => h.bk _ _ (l.bk _ _ q), fun _ _ q => h.ct _ _ (l.ct _ _ q)⟩, z⟩, y⟩
theorem DLe.trans {A B C : DEnds} (l : DLe A B) (h : DLe B C) : DLe A C := ⟨fun _ _ q => h.nx _ _ (l.nx _ _ q), fun _ _ q => h.rt _ _ (l.rt _ _ q), fun _ _ q => h.bk _ _ (l.bk _ _ q), fun _ _ q => h.ct _ _ (l.ct _ _ q)⟩
theorem psd_try_as {X : Cx} {g : Gm} {ι0 : List Addr} {H0 : Hp} {Wout : XD} {x n : Str} {cv : Value} {i : Nat} {body suite : List Stmt} {b₀ : Stmt} {np pos pos' : Pos} {fb : XD → DS} {fs : Addr → String → List D → DS} {ms : String → Option Bool}
    (hs : X.stack = X.env :: X.outer) (hf : X.env.frame = some X.env.locals) (hN : X.N.Nodup) (hc : L2.Names X x cv) (hm : Exm X.K g cv ms) (tk : Tk X g ι0 H0 Wout)
    (hb : ∀ (W : XD) (pn : List (Addr × Obj)) (xe : Value → Shared → Prop) (ι1 : List Addr) (H1 : Hp), Tk (X.tr pn xe) g ι1 H1 W → PassesOwn (model X.prog X.w) X.A X.env xe → PSsd (X.tr pn xe) g ι1 H1 body (fb W))
    (hsu : ∀ (a : Addr) (oe : Obj) (c : String) (vs : List D) (dd : Addr) (pn : List (Addr × Obj)) (ι1 : List Addr) (H1 : Hp), ms c = some true → L2N.Zn (.ref (g.ca c)) (some dd) oe → (∃ vs, oe.data = .fields vs) → ExR X.K g ι1 H1 (.ref (g.ca c)) (some dd) c vs → PSsd (X.suite a ((a, oe) :: pn)) g ι1 H1 (b₀ :: suite) (fs a c vs))
    (hi : X.N[i]? = some n := by rfl) (hln : X.env.kindOf n = some .local := by rfl) :
    PSd X g ι0 H0 (.Try body [.ExceptHandler (some (.Name x np)) (some n) (b₀ :: suite) pos'] [] [] pos) (dTry i ms fb fs Wout) := by
  let tb : WX → TS := fun W Dn σ H => ∃ (WD : XD) (ι1 : List Addr), (∀ cls d σ' H', lW X.K g ι1 H WD cls d σ' H' → W cls d σ' H') ∧ ∃ env S A, At X.K g ι1 H ι1 H σ env S ∧ DLe A (lD X.K g ι1 H Dn) ∧ fb WD A env S
  let ts : Addr → Value → Option Addr → TS := fun a cls d Dn σ H => ∃ (c : String) (vs : List D) (dd : Addr) (ι1 : List Addr), ms c = some true ∧ cls = .ref (g.ca c) ∧ d = some dd ∧ ExR X.K g ι1 H cls d c vs ∧ ∃ env S A, At X.K g ι1 H ι1 H σ env S ∧ DLe A (lD X.K g ι1 H Dn) ∧ fs a c vs A env S
  have hbody : ∀ (W : WX) (pn : List (Addr × Obj)) (xe : Value → Shared → Prop), L2N.Takes (X.tr pn xe) W → PassesOwn (model X.prog X.w) X.A X.env xe → PSs (X.tr pn xe) body (tb W) := fun W pn xe t po => ⟨fun pins s σ H Dn I q => by
    obtain ⟨WD, ι1, hW, env, S, A, at1, le, q⟩ := q
    have d := hb WD pn xe ι1 H (t.imp hW) po
    exact d.ps.run pins s σ H Dn I ⟨ι1, env, S, at1, d.mono.go le q⟩⟩
  have hsuite : ∀ (a : Addr) (oe : Obj) (cls : Value) (d : Option Addr) (pn : List (Addr × Obj)), L2N.Zn cls d oe → (∃ vs, oe.data = .fields vs) → PSs (X.suite a ((a, oe) :: pn)) (b₀ :: suite) (ts a cls d) := fun a oe cls d pn hz hf => ⟨fun pins s σ H Dn I q => by
    obtain ⟨c, vs, dd, ι1, em, e1, e2, x, env, S, A, at1, le, q⟩ := q
    subst e1; subst e2
    have d := hsu a oe c vs dd pn ι1 H em hz hf x
    exact d.ps.run pins s σ H Dn I ⟨ι1, env, S, at1, d.mono.go le q⟩⟩
  refine ⟨⟨fun {env S A B} hd ⟨W, A', l, h, q⟩ => ⟨W, A', l.trans hd, fun c vs e s w => tryW_mono hd (h c vs e s w), q⟩⟩,
    PS.weak (L2N.ps_try_as (tb := tb) (ts := ts) hs hf hN hi hln hc tk hbody hsuite) fun _ _ σ H Dn _ ⟨ι, env, S, at0, W, A, le, hW, q⟩ => ?_⟩
  refine ⟨W, ι, fun cls d σ' H' ⟨ι', env', S', c, vs, at1, x, w⟩ => ?_, env, S, A, ⟨Grow.refl, at0.en, at0.st⟩, le, q⟩
  obtain ⟨b, hb', x1, x2⟩ := hW c vs env' S' w
  have ecls := x.1
  refine ⟨b, by rw [ecls]; exact hm c b hb', fun hbt a ha => ?_, fun hbf => ?_⟩
  · obtain ⟨B, lB, qs⟩ := x1 hbt a
    have x0 := x
    obtain ⟨_, dd, fs', ed, _⟩ := x
    refine ⟨c, vs, dd, ι', by rw [hb', hbt], ecls, ed, x0, env'.set i (some (.adr a)), S', _, ⟨Grow.refl, at1.en.set (.adr a) i, at1.st⟩, ?_, qs⟩
    refine ⟨fun e s hn σ2 H2 ι2 g2 e2 s2 => ?_, fun d s hn => lK.on (lB.rt _ _ hn) at1.gr at1.st.there, fun e s hn σ2 H2 ι2 g2 e2 s2 => ?_, fun e s hn σ2 H2 ι2 g2 e2 s2 => ?_⟩
    · exact lB.nx _ _ hn _ H2 ι2 (at1.gr.trans g2 at1.st.there) (e2.unset i none) s2
    · exact lB.bk _ _ hn _ H2 ι2 (at1.gr.trans g2 at1.st.there) (e2.unset i none) s2
    · exact lB.ct _ _ hn _ H2 ι2 (at1.gr.trans g2 at1.st.there) (e2.unset i none) s2
  · exact ⟨ι', env', S', c, vs, ⟨at0.gr.trans at1.gr at0.st.there, at1.en, at1.st⟩, x, x2 hbf⟩
/-- try: body except ..: .., where nothing is let out of the body -/
theorem psd_try_thru {X : Cx} {g : Gm} {ι0 : List Addr} {H0 : Hp} {body : List Stmt} {h₀ : ExceptHandler} {hds : List ExceptHandler} {pos : Pos} {fb : XD → DS} (hb : ∀ (W : XD), Tk X.nox g ι0 H0 W → PSsd X.nox g ι0 H0 body (fb W)) : PSd X g ι0 H0 (.Try body (h₀ :: hds) [] [] pos) (fb W0) :=
  ⟨(hb W0 tk0).mono, ps_try_thru0 (hb W0 tk0).ps⟩
/-- the caught exception's field -/
def dXf (fo : String → List Str) (a : Addr) (c : String) (vs : List D) (f : Str) (h : DE) : DE := fun env S Q => h env S fun x S1 => x = .adr a ∧ ∃ v, ((fo c).zip vs).lookup f = some v ∧ Q v S1
theorem R.adr_inv {K : PySem.W.Frag} {g : Gm} {ι : List Addr} {H : Hp} {v : V} {a : Addr} (r : R K g ι H v (.adr a)) : v = .ref a := by cases r; rfl
theorem lookup_at {α : Type} : ∀ {ns : List Str} {vs : List α} {f : Str} {v : α}, (ns.zip vs).lookup f = some v → ∃ i : Nat, ns[i]? = some f ∧ vs[i]? = some v
  | [], _, _, _, e => by simp at e
  | n :: ns, [], _, _, e => by simp at e
  | n :: ns, x :: vs, f, v, e => by
    rw [List.zip_cons_cons, List.lookup_cons] at e
    split at e
    · rename_i hb
      rw [beq_iff_eq] at hb
      cases e
      exact ⟨0, by simp [hb], rfl⟩
    · obtain ⟨i, a, b⟩ := lookup_at e
      exact ⟨i + 1, by simpa using a, by simpa using b⟩
section
variable {X : Cx} {g : Gm} {ι0 : List Addr} {H0 : Hp} {a dd : Addr} {oe : Obj} {pn : List (Addr × Obj)} {e : Expr} {h : DE} {pos : Pos} {f : Str} {c : String} {vs : List D}
theorem ped_xf (t1 : XfC X.K (g.ca c)) (t2 : PySem.W.findIn X.K (.ref (g.ca c)) f = some none) (hz : L2N.Zn (.ref (g.ca c)) (some dd) oe) (hf : ∃ vs, oe.data = .fields vs) (hx : ExR X.K g ι0 H0 (.ref (g.ca c)) (some dd) c vs) (he : PEd (X.suite a ((a, oe) :: pn)) g ι0 H0 e h)
    (hb : attributeBase e f X.env (eval e X.env) = eval e X.env := by rfl) : PEd (X.suite a ((a, oe) :: pn)) g ι0 H0 (.Attribute e f pos) (dXf g.fo a c vs f h) := by
  refine ⟨⟨fun hq q => he.mono.go (fun _ _ ⟨e, v, b, z⟩ => ⟨e, v, b, hq _ _ z⟩) q⟩, PE.weak (pe_xf t1 t2 hz.zc hf he.pe hb) fun pins s σ H Q I ⟨ι, env, S, at0, q⟩ => ⟨ι, env, S, at0, he.mono.go (fun d S1 ⟨e1, v, ev, z⟩ x H1 ι1 g1 s1 r1 => ?_) q⟩⟩
  subst e1
  refine ⟨r1.adr_inv, rfl, ?_⟩
  obtain ⟨_, dd', fs, e2, n, hh, l, fl⟩ := hx.mono (at0.gr.trans g1 at0.st.there)
  cases e2
  obtain ⟨i, i1, i2⟩ := lookup_at ev
  obtain ⟨w, e3, w1, w2, w3⟩ := fl i f i1
  rw [i2] at w2; cases w2
  exact ⟨dd, fs, w, rfl, hh, w1, z w H1 ι1 g1 s1 w3⟩
end
end DL
set_option maxHeartbeats 4000000
/-! DL, eighth part: the built-in operations on data. -/
namespace DL
open PySem PySem.Spec L2

/-! ### sequences -/
def sqL (S : Sto) : D → Option (List D)
  | .lst xs => some xs
  | .ref n => match S[n]? with
    | some (.lst xs) => some xs
    | _ => none
  | _ => none
/-- a list or a tuple -/
def sq (S : Sto) : D → Option (List D)
  | .tup xs => some xs
  | .scr ns => some (ns.map .int)
  | d => sqL S d
section
variable {K : PySem.W.Frag} {g : Gm} {ι : List Addr} {H : Hp} {S : Sto} {v : V} {d : D} {ds : List D}
theorem R.seqL (s : StoR K g ι H S) (r : R K g ι H v d) (h : sqL S d = some ds) : ∃ a vs, v = .ref a ∧ H a = some (.lst vs) ∧ RL K g ι H vs ds := by
  cases d with
  | lst xs =>
    simp only [sqL] at h
    cases h
    cases r with
    | lst n f r => exact ⟨_, _, rfl, f.2, r⟩
  | ref n =>
    simp only [sqL] at h
    split at h
    · rename_i xs hs
      cases h
      obtain ⟨a, rfl, ea⟩ := r.ref_inv
      obtain ⟨b, eb, vs, hb, rl⟩ := s.at hs
      rw [ea] at eb; cases eb
      exact ⟨a, vs, rfl, hb, rl⟩
    · cases h
  | _ => simp only [sqL] at h; cases h
theorem rl_ints : ∀ ns : List Int, RL K g ι H (ns.map V.int) (ns.map D.int)
  | [] => .nil
  | n :: ns => .cons (.int n) (rl_ints ns)
theorem R.seq (s : StoR K g ι H S) (r : R K g ι H v d) (h : sq S d = some ds) : ∃ a vs, v = .ref a ∧ (SqL K H a vs ∨ SqT K H a vs) ∧ RL K g ι H vs ds := by
  cases d with
  | tup xs =>
    simp only [sq] at h
    cases h
    obtain ⟨a, vs, e, t, rl⟩ := r.tup_inv
    exact ⟨a, vs, e, .inr t, rl⟩
  | scr ns =>
    simp only [sq] at h
    cases h
    cases r with
    | scr q =>
      refine ⟨_, _, rfl, .inl ?_, rl_ints ns⟩
      rcases q with q | q
      · exact .inl q.1.2
      · exact .inr q
  | lst xs =>
    obtain ⟨a, vs, e, t, rl⟩ := r.seqL s (show sqL S (.lst xs) = some ds from h)
    exact ⟨a, vs, e, .inl (.of t), rl⟩
  | ref n =>
    obtain ⟨a, vs, e, t, rl⟩ := r.seqL s (show sqL S (.ref n) = some ds from h)
    exact ⟨a, vs, e, .inl (.of t), rl⟩
  | _ => simp only [sq, sqL] at h; cases h
theorem RL.len2 {vs : List V} (r : RL K g ι H vs ds) : ds.length = vs.length := r.length.symm
end

/-! ### arithmetic -/
theorem lk_int {K : PySem.W.Frag} {g : Gm} {C : Int → Int → Prop} {f : Int → Int → Int} : Lk2 K g (fun x y S Q => ∃ i j, x = .int i ∧ y = .int j ∧ C i j ∧ Q (.int (f i j)) S) (rI C fun i j => .int (f i j)) :=
  ⟨⟨fun hq ⟨i, j, a, b, c, q⟩ => ⟨i, j, a, b, c, hq _ _ q⟩⟩, fun {ι H S x y dx dy Q} s rx ry ⟨i, j, a, b, c, q⟩ => by
    subst a; subst b
    exact ⟨i, j, rx.int_inv, ry.int_inv, c, q _ H ι Grow.refl s (.int _)⟩⟩
theorem lk_int0 {K : PySem.W.Frag} {g : Gm} {f : Int → Int → Int} : Lk2 K g (fun x y S Q => ∃ i j, x = .int i ∧ y = .int j ∧ Q (.int (f i j)) S) (rI0 fun i j => .int (f i j)) :=
  ⟨⟨fun hq ⟨i, j, a, b, q⟩ => ⟨i, j, a, b, hq _ _ q⟩⟩, fun {ι H S x y dx dy Q} s rx ry ⟨i, j, a, b, q⟩ => by
    subst a; subst b
    exact ⟨i, j, rx.int_inv, ry.int_inv, q _ H ι Grow.refl s (.int _)⟩⟩
theorem lk_intb {K : PySem.W.Frag} {g : Gm} {f : Int → Int → Bool} : Lk2 K g (fun x y S Q => ∃ i j, x = .int i ∧ y = .int j ∧ Q (.bl (f i j)) S) (rI0 fun i j => .bl (f i j)) :=
  ⟨⟨fun hq ⟨i, j, a, b, q⟩ => ⟨i, j, a, b, hq _ _ q⟩⟩, fun {ι H S x y dx dy Q} s rx ry ⟨i, j, a, b, q⟩ => by
    subst a; subst b
    exact ⟨i, j, rx.int_inv, ry.int_inv, q _ H ι Grow.refl s (.bl _)⟩⟩
theorem Lk2.or {K : PySem.W.Frag} {g : Gm} {f f' : D2} {r r' : R2} (a : Lk2 K g f r) (b : Lk2 K g f' r') : Lk2 K g (fun x y S Q => f x y S Q ∨ f' x y S Q) (fun x y H Q => r x y H Q ∨ r' x y H Q) :=
  ⟨⟨fun hq q => q.imp (a.mono.go hq) (b.mono.go hq)⟩, fun s rx ry q => q.imp (a.lk s rx ry) (b.lk s rx ry)⟩
/-- a rule by cases, with the disjunction chosen by the shape of the data -/
theorem Lk2.weak {K : PySem.W.Frag} {g : Gm} {f f' : D2} {r : R2} (a : Lk2 K g f r) (m : Mo2 f') (h : ∀ {x y S Q}, f' x y S Q → f x y S Q) : Lk2 K g f' r := ⟨m, fun s rx ry q => a.lk s rx ry (h q)⟩
def dAdd : D2 := fun x y S Q => match x, y with
  | .int i, .int j => Q (.int (i + j)) S
  | .str a, .str b => a.length + b.length ≤ sizeLine ∧ Q (.str (a ++ b)) S
  | .tup xs, .tup ys => xs.length + ys.length ≤ sizeLine ∧ Q (.tup (xs ++ ys)) S
  | x, y => ∃ xs ys, sqL S x = some xs ∧ sqL S y = some ys ∧ xs.length + ys.length ≤ sizeLine ∧ (Q (.lst (xs ++ ys)) S ∨ Q (.ref S.length) (S ++ [.lst (xs ++ ys)]))
def rAddA (K : PySem.W.Frag) : R2 := fun x y H Q => (rI0 (fun i j => .int (i + j)) x y H Q ∨ (∃ i j, x = .str i ∧ y = .str j ∧ i.length + j.length ≤ sizeLine ∧ Q (.str (i ++ j)) H)) ∨ rCatA K x y H Q ∨ rCat x y H Q
theorem op_addA {X : Cx} : OpR X (binaryOp .Add) (rAddA X.K) := (op_add.or op_add_str).or (op_catA.or op_cat)
theorem lk_add {K : PySem.W.Frag} {g : Gm} : Lk2 K g dAdd (rAddA K) := by
  refine ⟨⟨fun {x y S Q Q'} hq q => ?_⟩, fun {ι H S x y dx dy Q} s rx ry q => ?_⟩
  · unfold dAdd at q ⊢
    split at q
    · exact hq _ _ q
    · exact ⟨q.1, hq _ _ q.2⟩
    · exact ⟨q.1, hq _ _ q.2⟩
    · obtain ⟨xs, ys, a, b, l, z⟩ := q
      exact ⟨xs, ys, a, b, l, z.imp (hq _ _) (hq _ _)⟩
  · unfold dAdd at q
    split at q
    · exact .inl (.inl ⟨_, _, rx.int_inv, ry.int_inv, q _ H ι Grow.refl s (.int _)⟩)
    · exact .inl (.inr ⟨_, _, rx.str_inv, ry.str_inv, q.1, q.2 _ H ι Grow.refl s (.str _)⟩)
    · obtain ⟨a, vs, rfl, t, rl⟩ := rx.tup_inv
      obtain ⟨b, ws, rfl, t2, rl2⟩ := ry.tup_inv
      refine .inr (.inl ⟨a, b, vs, ws, rfl, rfl, t, t2, by rw [rl.length, rl2.length]; exact q.1, fun e => ?_, fun _ e => ?_, fun _ _ p hp => s.newTup hp (rl.append rl2) q.2⟩)
      · subst e; cases rl
        exact q.2 _ H ι Grow.refl s ry
      · subst e; cases rl2
        exact q.2 _ H ι Grow.refl s (by rw [List.append_nil]; exact rx)
    · obtain ⟨xs, ys, a, b, l, z⟩ := q
      obtain ⟨p, vs, rfl, t, rl⟩ := rx.seqL s a
      obtain ⟨p2, ws, rfl, t2, rl2⟩ := ry.seqL s b
      exact .inr (.inr ⟨p, p2, vs, ws, rfl, rfl, t, t2, by rw [rl.length, rl2.length]; exact l, fun p hp => s.newLst hp (rl.append rl2) z⟩)
/-! ### comparisons -/
def eqS : D → D → Option Bool
  | .int i, .int j => some (decide (i = j))
  | .str i, .str j => some (decide (i = j))
  | .bl i, .bl j => some (decide (i = j))
  | .non, .non => some true
  | .non, .int _ | .int _, .non | .non, .bl _ | .bl _, .non | .non, .str _ | .str _, .non => some false
  | .int _, .str _ | .str _, .int _ | .bl _, .str _ | .str _, .bl _ => some false
  | _, _ => none
mutual
/-- as plain data -/
def D.py : D → Option PyData
  | .non => some .none
  | .bl b => some (.bool b)
  | .int i => some (.int i)
  | .str x => some (.str x)
  | .tup xs => (D.pyL xs).map .tuple
  | .lst xs => (D.pyL xs).map .list
  | _ => none
def D.pyL : List D → Option (List PyData)
  | [] => some []
  | x :: xs => match D.py x, D.pyL xs with
    | some p, some ps => some (p :: ps)
    | _, _ => none
end
def pyS (S : Sto) (d : D) : Option PyData := match sqL S d with
  | some xs => (D.pyL xs).map .list
  | none => D.py d
section
variable {K : PySem.W.Frag} {g : Gm} {ι : List Addr} {H : Hp} {S : Sto}
mutual
theorem R.dp : ∀ {v : V} {d : D} {p : PyData}, R K g ι H v d → D.py d = some p → Dp K H v p
  | _, _, _, .non, e => by simp only [D.py] at e; cases e; exact .non
  | _, _, _, .bl b, e => by simp only [D.py] at e; cases e; exact .bl b
  | _, _, _, .int b, e => by simp only [D.py] at e; cases e; exact .int b
  | _, _, _, .str b, e => by simp only [D.py] at e; cases e; exact .str b
  | _, _, _, .tup f r, e => by
    simp only [D.py, Option.map_eq_some_iff] at e
    obtain ⟨ps, e, rfl⟩ := e
    exact .tup (.inl f.2) (RL.dp r e)
  | _, _, _, .tupK a b c d h r, e => by
    simp only [D.py, Option.map_eq_some_iff] at e
    obtain ⟨ps, e, rfl⟩ := e
    exact .tup (.inr ⟨_, _, _, a, b, c, d, h⟩) (RL.dp r e)
  | _, _, _, .lst n f r, e => by
    simp only [D.py, Option.map_eq_some_iff] at e
    obtain ⟨ps, e, rfl⟩ := e
    exact .lst (.of f.2) (RL.dp r e)
  | _, _, _, .ref _, e => by simp only [D.py] at e; cases e
  | _, _, _, .ins _ _ _ _, e => by simp only [D.py] at e; cases e
  | _, _, _, .dic _ _ _, e => by simp only [D.py] at e; cases e
  | _, _, _, .adr _, e => by simp only [D.py] at e; cases e
  | _, _, _, .ty _, e => by simp only [D.py] at e; cases e
  | _, _, _, .scr _, e => by simp only [D.py] at e; cases e
theorem RL.dp : ∀ {vs : List V} {ds : List D} {ps : List PyData}, RL K g ι H vs ds → D.pyL ds = some ps → DpAll K H vs ps
  | _, _, _, .nil, e => by simp only [D.pyL] at e; cases e; exact .nil
  | _, _, _, .cons a r, e => by
    simp only [D.pyL] at e
    split at e
    · rename_i p ps h1 h2
      cases e
      exact .cons (R.dp a h1) (RL.dp r h2)
    · cases e
end
theorem R.dpS {v : V} {d : D} {p : PyData} (s : StoR K g ι H S) (e : pyS S d = some p) (r : R K g ι H v d) : Dp K H v p := by
  unfold pyS at e
  split at e
  · rename_i xs h
    rw [Option.map_eq_some_iff] at e
    obtain ⟨ps, e, rfl⟩ := e
    obtain ⟨a, vs, rfl, t, rl⟩ := r.seqL s h
    exact .lst (.of t) (rl.dp e)
  · exact r.dp e
theorem scal_of {x y : V} {dx dy : D} {b : Bool} (rx : R K g ι H x dx) (ry : R K g ι H y dy) (e : eqS dx dy = some b) : scal x y = true ∧ decide (x = y) = b := by
  unfold eqS at e
  split at e
  all_goals first
    | cases e
    | skip
  all_goals (cases rx; cases ry; exact ⟨rfl, by simp⟩)
end
def dEqD (neg : Bool) : D2 := fun x y S Q => match eqS x y with
  | some b => Q (.bl (if neg then !b else b)) S
  | none => ∃ p q, pyS S x = some p ∧ pyS S y = some q ∧ SeqAt.shaped p = true ∧ SeqAt.shaped q = true ∧ Q (.bl (if neg then !PyData.eqv p q else PyData.eqv p q)) S
theorem lk_eq {K : PySem.W.Frag} {g : Gm} : Lk2 K g (dEqD false) (fun x y H Q => rEq x y H Q ∨ rEqD K x y H Q) := by
  refine ⟨⟨fun {x y S Q Q'} hq q => ?_⟩, fun {ι H S x y dx dy Q} s rx ry q => ?_⟩
  · unfold dEqD at q ⊢
    split at q
    · exact hq _ _ q
    · obtain ⟨p, r, a, b, c, d, z⟩ := q
      exact ⟨p, r, a, b, c, d, hq _ _ z⟩
  · unfold dEqD at q
    split at q
    · rename_i b e
      obtain ⟨h1, h2⟩ := scal_of rx ry e
      refine .inl ⟨h1, ?_⟩
      rw [h2]
      exact q _ H ι Grow.refl s (.bl _)
    · obtain ⟨p, r, a, b, c, d, z⟩ := q
      exact .inr ⟨p, r, rx.dpS s a, ry.dpS s b, c, d, z _ H ι Grow.refl s (.bl _)⟩
theorem lk_ne {K : PySem.W.Frag} {g : Gm} : Lk2 K g (dEqD true) (fun x y H Q => rNe x y H Q ∨ rNeD K x y H Q) := by
  refine ⟨⟨fun {x y S Q Q'} hq q => ?_⟩, fun {ι H S x y dx dy Q} s rx ry q => ?_⟩
  · unfold dEqD at q ⊢
    split at q
    · exact hq _ _ q
    · obtain ⟨p, r, a, b, c, d, z⟩ := q
      exact ⟨p, r, a, b, c, d, hq _ _ z⟩
  · unfold dEqD at q
    split at q
    · rename_i b e
      obtain ⟨h1, h2⟩ := scal_of rx ry e
      refine .inl ⟨h1, ?_⟩
      rw [h2]
      exact q _ H ι Grow.refl s (.bl _)
    · obtain ⟨p, r, a, b, c, d, z⟩ := q
      exact .inr ⟨p, r, rx.dpS s a, ry.dpS s b, c, d, z _ H ι Grow.refl s (.bl _)⟩
theorem op_eqA {X : Cx} (hu : X.A.units + 64 < cLine) : OpR X (compareOp .Eq) (fun x y H Q => rEq x y H Q ∨ rEqD X.K x y H Q) := op_eq.or (op_eqD hu)
theorem op_neA {X : Cx} (hu : X.A.units + 64 < cLine) : OpR X (compareOp .NotEq) (fun x y H Q => rNe x y H Q ∨ rNeD X.K x y H Q) := op_ne.or (op_neD hu)
/-- is None, is True, is False -/
def isNon : D → Bool
  | .non => true
  | _ => false
def isBl (b : Bool) : D → Bool
  | .bl a => decide (a = b)
  | _ => false
def dIs (neg : Bool) : D2 := fun x y S Q => match y with
  | .non => Q (.bl (if neg then !DL.isNon x else DL.isNon x)) S
  | .bl b => Q (.bl (if neg then !DL.isBl b x else DL.isBl b x)) S
  | _ => False
def rIsA (neg : Bool) : R2 := fun x y H Q => (y = .non ∨ ∃ b, y = .bl b) ∧ Q (.bl (if neg then !decide (x = y) else decide (x = y))) H
theorem isSame_const {M : Model} {A : Around} {E : Value → Shared → Prop} {s : Shared} {x y : V} {v u : Value} {R : Bool → Shared → Prop} (rx : RelV x v) (ry : RelV y u) (hy : y = .non ∨ ∃ b, y = .bl b) (h : R (decide (x = y)) s) : wpAny M A (isSame v u) R E s := by
  have e : isSame v u = pure (decide (x = y)) := by
    rcases hy with rfl | ⟨b, rfl⟩
    · cases ry
      cases x <;> simp only [RelV] at rx <;> first | (obtain ⟨t, rfl⟩ := rx; rfl) | (subst rx; rfl)
    · cases ry
      cases x <;> simp only [RelV] at rx <;> first | (obtain ⟨t, rfl⟩ := rx; rfl) | (subst rx; rename_i c; cases b <;> cases c <;> rfl) | (subst rx; rfl)
  rw [e]
  exact wpAny_pure h
theorem op_isA {X : Cx} : OpR X (compareOp .Is) (rIsA false) := by
  intro pins s σ H x y v u Q I rx ry ⟨hy, q⟩
  show wpAny _ _ (isSame v u >>= fun b => pure (Value.bool b)) _ _ _
  refine wpAny_bind (isSame_const rx ry hy (wpAny_pure ⟨.bl _, H, I, rfl, q⟩))
theorem op_isnotA {X : Cx} : OpR X (compareOp .IsNot) (rIsA true) := by
  intro pins s σ H x y v u Q I rx ry ⟨hy, q⟩
  show wpAny _ _ (isSame v u >>= fun b => pure (Value.bool (!b))) _ _ _
  refine wpAny_bind (isSame_const rx ry hy (wpAny_pure ⟨.bl _, H, I, rfl, q⟩))
theorem mono_is {neg : Bool} : Mo2 (dIs neg) := ⟨fun {x y S Q Q'} hq q => by
  unfold dIs at q ⊢
  split at q
  · exact hq _ _ q
  · exact hq _ _ q
  · exact q.elim⟩
theorem is_dec {K : PySem.W.Frag} {g : Gm} {ι : List Addr} {H : Hp} {x : V} {dx : D} (rx : R K g ι H x dx) : decide (x = .non) = DL.isNon dx := by
  cases rx <;> first | rfl | exact decide_eq_false (fun z => nomatch z)
theorem is_decb {K : PySem.W.Frag} {g : Gm} {ι : List Addr} {H : Hp} {x : V} {dx : D} (b : Bool) (rx : R K g ι H x dx) : decide (x = .bl b) = DL.isBl b dx := by
  cases rx <;> first | exact decide_eq_false (fun z => nomatch z) | simp [DL.isBl]
theorem lk_is {K : PySem.W.Frag} {g : Gm} {neg : Bool} : Lk2 K g (dIs neg) (rIsA neg) := by
  refine ⟨mono_is, fun {ι H S x y dx dy Q} s rx ry q => ?_⟩
  unfold dIs at q
  split at q
  · have e := ry.non_inv
    refine ⟨.inl e, ?_⟩
    rw [e, is_dec rx]
    exact q _ H ι Grow.refl s (.bl _)
  · rename_i b
    have e := ry.bl_inv
    refine ⟨.inr ⟨b, e⟩, ?_⟩
    rw [e, is_decb b rx]
    exact q _ H ι Grow.refl s (.bl _)
  · exact q.elim

/-! ### in, not in -/
def flatD : D → Bool
  | .non => true | .bl _ => true | .int _ => true | .str _ => true | _ => false
def eqF : D → D → Bool
  | .non, .non => true
  | .bl a, .bl b => a == b
  | .bl a, .int b => (if a then 1 else 0) == b
  | .int a, .bl b => a == (if b then 1 else 0)
  | .int a, .int b => a == b
  | .str a, .str b => a == b
  | _, _ => false
theorem flat_of {K : PySem.W.Frag} {g : Gm} {ι : List Addr} {H : Hp} {x : V} {d : D} (r : R K g ι H x d) (h : flatD d = true) : flatV x = true := by
  cases r <;> first | rfl | (simp [flatD] at h)
theorem flatL_of {K : PySem.W.Frag} {g : Gm} {ι : List Addr} {H : Hp} : ∀ {xs : List V} {ds : List D}, RL K g ι H xs ds → ds.all flatD = true → xs.all flatV = true
  | _, _, .nil, _ => rfl
  | _, _, .cons r rl, h => by
    rw [List.all_cons, Bool.and_eq_true] at h ⊢
    exact ⟨flat_of r h.1, flatL_of rl h.2⟩
theorem eqF_of {K : PySem.W.Frag} {g : Gm} {ι : List Addr} {H : Hp} {x y : V} {d e : D} (r : R K g ι H x d) (q : R K g ι H y e) (h : flatD d = true) (h2 : flatD e = true) : eqV x y = eqF d e := by
  cases r <;> cases q <;> first | rfl | (simp [flatD] at h h2)
theorem anyF_of {K : PySem.W.Frag} {g : Gm} {ι : List Addr} {H : Hp} {x : V} {d : D} (q : R K g ι H x d) (h : flatD d = true) : ∀ {xs : List V} {ds : List D}, RL K g ι H xs ds → ds.all flatD = true → inV x xs = ds.any fun y => eqF y d
  | _, _, .nil, _ => rfl
  | _, _, .cons r rl, hh => by
    rw [List.all_cons, Bool.and_eq_true] at hh
    rw [List.any_cons]
    show (eqV _ x || inV x _) = _
    rw [eqF_of r q hh.1 h, anyF_of q h rl hh.2]
/-- x in a list or tuple of flat things; one text in another; nested data in a list -/
def dIn (neg : Bool) : D2 := fun x y S Q => match x, y with
  | .str a, .str b => Q (.bl (if neg then !(!(Builtin.Str.occurrences b a 0 b.length 1).isEmpty) else !(Builtin.Str.occurrences b a 0 b.length 1).isEmpty)) S
  | x, y => ∃ ds, sq S y = some ds ∧ flatD x = true ∧ ds.all flatD = true ∧ Q (.bl (if neg then !(ds.any fun z => eqF z x) else ds.any fun z => eqF z x)) S
theorem mono_in {neg : Bool} : Mo2 (dIn neg) := ⟨fun {x y S Q Q'} hq q => by
  unfold dIn at q ⊢
  split at q
  · exact hq _ _ q
  · obtain ⟨ds, a, b, c, z⟩ := q
    exact ⟨ds, a, b, c, hq _ _ z⟩⟩
theorem op_inA {X : Cx} : OpR X (compareOp .In) (fun x y H Q => (∃ i j, x = .str i ∧ y = .str j ∧ Q (.bl (!(Builtin.Str.occurrences j i 0 j.length 1).isEmpty)) H) ∨ rIn X.K false x y H Q) := op_in_str.or op_in_seq
theorem op_notInA {X : Cx} : OpR X (compareOp .NotIn) (fun x y H Q => (∃ i j, x = .str i ∧ y = .str j ∧ Q (.bl (!(!(Builtin.Str.occurrences j i 0 j.length 1).isEmpty))) H) ∨ rIn X.K true x y H Q) := op_notIn_str.or op_notIn_seq
theorem lk_in_ {K : PySem.W.Frag} {g : Gm} {neg : Bool} {ι : List Addr} {H : Hp} {S : Sto} {x y : V} {dx dy : D} {Q : VK} (s : StoR K g ι H S) (rx : R K g ι H x dx) (ry : R K g ι H y dy) (q : dIn neg dx dy S (lK K g ι H Q)) :
    (∃ i j, x = .str i ∧ y = .str j ∧ Q (.bl (if neg then !(!(Builtin.Str.occurrences j i 0 j.length 1).isEmpty) else !(Builtin.Str.occurrences j i 0 j.length 1).isEmpty)) H) ∨ rIn K neg x y H Q := by
  unfold dIn at q
  split at q
  · exact .inl ⟨_, _, rx.str_inv, ry.str_inv, q _ H ι Grow.refl s (.bl _)⟩
  · obtain ⟨ds, a, b, c, z⟩ := q
    obtain ⟨p, vs, rfl, t, rl⟩ := ry.seq s a
    refine .inr ⟨p, vs, rfl, t, flat_of rx b, flatL_of rl c, ?_⟩
    rw [anyF_of rx b rl c]
    exact z _ H ι Grow.refl s (.bl _)
theorem lk_in {K : PySem.W.Frag} {g : Gm} : Lk2 K g (dIn false) (fun x y H Q => (∃ i j, x = .str i ∧ y = .str j ∧ Q (.bl (!(Builtin.Str.occurrences j i 0 j.length 1).isEmpty)) H) ∨ rIn K false x y H Q) := ⟨mono_in, fun s rx ry q => lk_in_ s rx ry q⟩
theorem lk_notin {K : PySem.W.Frag} {g : Gm} : Lk2 K g (dIn true) (fun x y H Q => (∃ i j, x = .str i ∧ y = .str j ∧ Q (.bl (!(!(Builtin.Str.occurrences j i 0 j.length 1).isEmpty))) H) ∨ rIn K true x y H Q) := ⟨mono_in, fun s rx ry q => lk_in_ s rx ry q⟩

/-! ### subscripts -/
def dIx : D2 := fun x y S Q => match x, y with
  | .str z, .int i => z.length ≤ sizeLine ∧ ∃ c, atI z.cps.toList i = some c ∧ Q (.str ⟨#[c]⟩) S
  | x, y => ∃ xs i v, sq S x = some xs ∧ y = .int i ∧ atI xs i = some v ∧ Q v S
theorem RL.atI {K : PySem.W.Frag} {g : Gm} {ι : List Addr} {H : Hp} {vs : List V} {ds : List D} {i : Int} {d : D} (rl : RL K g ι H vs ds) (h : atI ds i = some d) : ∃ v, L2.atI vs i = some v ∧ R K g ι H v d := by
  unfold L2.atI at h ⊢
  rw [rl.length]
  cases e : ixN ds.length i with
  | none => rw [e] at h; cases h
  | some j =>
    rw [e] at h
    exact rl.get h
theorem lk_ix {K : PySem.W.Frag} {g : Gm} : Lk2 K g dIx (rIx K) := by
  refine ⟨⟨fun {x y S Q Q'} hq q => ?_⟩, fun {ι H S x y dx dy Q} s rx ry q => ?_⟩
  · unfold dIx at q ⊢
    split at q
    · obtain ⟨a, c, b, z⟩ := q
      exact ⟨a, c, b, hq _ _ z⟩
    · obtain ⟨xs, i, v, a, b, c, z⟩ := q
      exact ⟨xs, i, v, a, b, c, hq _ _ z⟩
  · unfold dIx at q
    split at q
    · obtain ⟨a, c, b, z⟩ := q
      exact .inr (.inr ⟨_, _, c, rx.str_inv, ry.int_inv, a, b, z _ H ι Grow.refl s (.str _)⟩)
    · obtain ⟨xs, i, v, a, b, c, z⟩ := q
      subst b
      obtain ⟨p, vs, rfl, t, rl⟩ := rx.seq s a
      obtain ⟨w, hw, rw_⟩ := rl.atI c
      rcases t with t | t
      · exact .inl ⟨p, vs, i, w, rfl, ry.int_inv, t, hw, z w H ι Grow.refl s rw_⟩
      · exact .inr (.inl ⟨p, vs, i, w, rfl, ry.int_inv, t, hw, z w H ι Grow.refl s rw_⟩)
/-! ### slices -/
abbrev DO := En → Sto → (Option Int → Sto → Prop) → Prop
structure MoO (t : DO) : Prop where
  go : ∀ {env S} {Q Q' : Option Int → Sto → Prop}, (∀ o s, Q o s → Q' o s) → t env S Q → t env S Q'
def lO (K : PySem.W.Frag) (g : Gm) (ι0 : List Addr) (H0 : Hp) (t : DO) : TO := fun σ H Q => ∃ ι env S, At K g ι0 H0 ι H σ env S ∧ t env S fun o S' => ∀ H' ι', Grow ι H ι' H' → StoR K g ι' H' S' → Q o H'
structure POd (X : Cx) (g : Gm) (ι0 : List Addr) (H0 : Hp) (e : Option Expr) (t : DO) : Prop where
  mono : MoO t
  po : PO X e (lO X.K g ι0 H0 t)
def dNoPart : DO := fun _ S Q => Q none S
def dPart (f : DE) : DO := fun env S Q => f env S fun d S' => ∃ i, d = .int i ∧ Q (some i) S'
theorem PO.weak {X : Cx} {e : Option Expr} {t t' : TO} (h : PO X e t) (hw : ∀ σ H Q, t' σ H Q → t σ H Q) : PO X e t' := ⟨fun pins s σ H Q I q => h.run pins s σ H Q I (hw _ _ _ q)⟩
def cutD (xs : List D) (lo hi : Option Int) : List D := (xs.drop (HT.sIx xs.length 0 lo)).take (HT.sIx xs.length xs.length hi - HT.sIx xs.length 0 lo)
theorem RL.cutV {K : PySem.W.Frag} {g : Gm} {ι : List Addr} {H : Hp} {vs : List V} {ds : List D} (rl : RL K g ι H vs ds) (lo hi : Option Int) : RL K g ι H (L2.cutV vs lo hi) (cutD ds lo hi) := by
  unfold L2.cutV cutD
  rw [rl.length]
  exact (rl.drop _).take _
/-- a slice of a text, a tuple, a list -/
def dSl : D → Option Int → Option Int → Sto → DK → Prop := fun x lo hi S Q => match x with
  | .str z => z.length ≤ sizeLine ∧ Q (.str (cutS z lo hi)) S
  | .tup xs => Q (.tup (cutD xs lo hi)) S
  | x => ∃ xs, sqL S x = some xs ∧ (Q (.lst (cutD xs lo hi)) S ∨ Q (.ref S.length) (S ++ [.lst (cutD xs lo hi)]))
theorem R.sqT_ {K : PySem.W.Frag} {g : Gm} {ι : List Addr} {H : Hp} {v : V} {xs : List D} (r : R K g ι H v (.tup xs)) : ∃ a vs, v = .ref a ∧ SqT K H a vs ∧ RL K g ι H vs xs := r.tup_inv
def rSlAll (K : PySem.W.Frag) : V → Option Int → Option Int → Hp → VK → Prop := fun x lo hi H Q => rSlS x lo hi H Q ∨ rSlA K x lo hi H Q ∨ rSlL K x lo hi H Q
theorem sl_all {X : Cx} : SlR X (rSlAll X.K) := sl_str.or (sl_tupA.or sl_list)
theorem cut_whole (xs : List D) (lo hi : Option Int) (h : HT.sIx xs.length 0 lo = 0 ∧ HT.sIx xs.length xs.length hi = xs.length) : cutD xs lo hi = xs := by
  unfold cutD
  rw [h.1, h.2]; simp
theorem dSl_mono {x : D} {lo hi : Option Int} {S : Sto} {Q Q' : DK} (hq : ∀ d S, Q d S → Q' d S) (q : dSl x lo hi S Q) : dSl x lo hi S Q' := by
  unfold dSl at q ⊢
  split at q
  · exact ⟨q.1, hq _ _ q.2⟩
  · exact hq _ _ q
  · obtain ⟨xs, a, z⟩ := q
    exact ⟨xs, a, z.imp (hq _ _) (hq _ _)⟩
theorem lk_sl {K : PySem.W.Frag} {g : Gm} {ι : List Addr} {H : Hp} {S : Sto} {x : V} {dx : D} {lo hi : Option Int} {Q : VK} (s : StoR K g ι H S) (rx : R K g ι H x dx) (q : dSl dx lo hi S (lK K g ι H Q)) : rSlAll K x lo hi H Q := by
  unfold dSl at q
  split at q
  · exact .inl ⟨_, rx.str_inv, q.1, q.2 _ H ι Grow.refl s (.str _)⟩
  · rename_i xs
    obtain ⟨a, vs, rfl, t, rl⟩ := rx.tup_inv
    refine .inr (.inl ⟨a, vs, rfl, t, fun hw => ?_, fun _ p hp => s.newTup hp (rl.cutV lo hi) q⟩)
    rw [rl.length] at hw
    rw [cut_whole xs lo hi hw] at q
    exact q _ H ι Grow.refl s rx
  · obtain ⟨xs, a, z⟩ := q
    obtain ⟨p, vs, rfl, t, rl⟩ := rx.seqL s a
    exact .inr (.inr ⟨p, vs, rfl, .of t, fun p hp => s.newLst hp (rl.cutV lo hi) z⟩)
def dSlice (f : DE) (l h : DO) : DE := fun env S Q => f env S fun x S1 => l env S1 fun lo S2 => h env S2 fun hi S3 => dSl x lo hi S3 Q
section
variable {X : Cx} {g : Gm} {ι0 : List Addr} {H0 : Hp} {e : Expr} {f : DE} {lo hi : Option Expr} {l h : DO} {pos p2 : Pos}
theorem pod_none : POd X g ι0 H0 none dNoPart := ⟨⟨fun hq q => hq _ _ q⟩, PO.weak po_none fun σ H Q ⟨ι, env, S, at0, q⟩ => q H ι Grow.refl at0.st⟩
theorem pod_some (he : PEd X g ι0 H0 e f) : POd X g ι0 H0 (some e) (dPart f) := ⟨⟨fun hq q => he.mono.go (fun _ _ ⟨i, a, z⟩ => ⟨i, a, hq _ _ z⟩) q⟩, PO.weak (po_some he.pe) fun σ H Q ⟨ι, env, S, at0, q⟩ => ⟨ι, env, S, at0, he.mono.go (fun d S1 ⟨i, a, z⟩ v H1 ι1 g1 s1 r1 => by
  subst a
  exact ⟨i, r1.int_inv, z H1 ι1 g1 s1⟩) q⟩⟩
theorem ped_slice (he : PEd X g ι0 H0 e f) (hl : POd X g ι0 H0 lo l) (hh : POd X g ι0 H0 hi h) : PEd X g ι0 H0 (.Subscript e (.Slice lo hi none p2) pos) (dSlice f l h) :=
  ⟨⟨fun hq q => he.mono.go (fun _ _ q1 => hl.mono.go (fun _ _ q2 => hh.mono.go (fun _ _ q3 => dSl_mono hq q3) q2) q1) q⟩, PE.weak (pe_slice sl_all he.pe hl.po hh.po) fun _ _ σ H Q _ ⟨ι, env, S, at0, q⟩ => ⟨ι, env, S, at0,
    he.mono.go (fun x S1 q1 vx H1 ι1 g1 s1 r1 => ⟨ι1, env, S1, at0.on g1 s1, hl.mono.go (fun o S2 q2 H2 ι2 g2 s2 => ⟨ι2, env, S2, (at0.on g1 s1).on g2 s2, hh.mono.go (fun o' S3 q3 H3 ι3 g3 s3 =>
      lk_sl s3 ((r1.mono g2).mono g3) (dSl_mono (fun _ _ kk => lK.on (lK.on (lK.on kk g1 s1.there) g2 s2.there) g3 s3.there) q3)) q2⟩) q1⟩) q⟩⟩
end

/-! ### calls of built-ins -/
def dCB (r : DL') (fa : DA) : DE := fun env S Q => fa env S fun ds S1 => r ds S1 Q
section
variable {X : Cx} {g : Gm} {ι0 : List Addr} {H0 : Hp} {e o : Expr} {es : List Expr} {fa : DA} {ho : DE} {x : Str} {p pos apos : Pos} {id T : String}
theorem ped_callB {r : List V → Hp → VK → Prop} {d : DL'} (hc : CallR X (.builtin id) r) (lk : LkL X.K g d r) (hm : X.mg x = none) (ha : PAd X g ι0 H0 (e :: es) fa) (hv : bootBuiltins x = some (.builtin id) := by decide +kernel) (hg : Gl X x := by rfl) (hn : x ≠ "__name__" := by decide) (hdb : (x == ("__debug__" : Str)) = false := by decide)
    (he : starEach (e :: es) X.env = (false, eval e X.env) :: starEach es X.env := by rfl) (hpl : (backTo pos (starEach es X.env)).any (·.1) = false := by rfl) : PEd X g ι0 H0 (.Call (.Name x p) (e :: es) [] pos) (dCB d fa) :=
  ⟨⟨fun hq q => ha.mono.go (fun _ _ q1 => lk.mono.go hq q1) q⟩, PE.weak (pe_callB hc hg hm hv ha.pa hn hdb he hpl) fun _ _ σ H Q _ ⟨ι, env, S, at0, q⟩ => ⟨ι, env, S, at0, ha.mono.go (fun ds S1 q1 vs H1 ι1 g1 s1 r1 => lk.lk s1 r1 (lk.mono.go (fun _ _ kk => lK.on kk g1 s1.there) q1)) q⟩⟩
theorem ped_callTy {r : List V → Hp → VK → Prop} {d : DL'} (hc : CallR X (.type T) r) (lk : LkL X.K g d r) (hm : X.mg x = none) (ha : PAd X g ι0 H0 (e :: es) fa) (hv : bootBuiltins x = some (.type T) := by decide +kernel) (hg : Gl X x := by rfl) (hn : x ≠ "__name__" := by decide) (hdb : (x == ("__debug__" : Str)) = false := by decide)
    (he : starEach (e :: es) X.env = (false, eval e X.env) :: starEach es X.env := by rfl) (hpl : (backTo pos (starEach es X.env)).any (·.1) = false := by rfl) : PEd X g ι0 H0 (.Call (.Name x p) (e :: es) [] pos) (dCB d fa) :=
  ⟨⟨fun hq q => ha.mono.go (fun _ _ q1 => lk.mono.go hq q1) q⟩, PE.weak (pe_callTy hc hg hm hv ha.pa hn hdb he hpl) fun _ _ σ H Q _ ⟨ι, env, S, at0, q⟩ => ⟨ι, env, S, at0, ha.mono.go (fun ds S1 q1 vs H1 ι1 g1 s1 r1 => lk.lk s1 r1 (lk.mono.go (fun _ _ kk => lK.on kk g1 s1.there) q1)) q⟩⟩
end
theorem LkL.or {K : PySem.W.Frag} {g : Gm} {f f' : DL'} {r r' : List V → Hp → VK → Prop} (a : LkL K g f r) (b : LkL K g f' r') : LkL K g (fun x S Q => f x S Q ∨ f' x S Q) (fun x H Q => r x H Q ∨ r' x H Q) :=
  ⟨⟨fun hq q => q.imp (a.mono.go hq) (b.mono.go hq)⟩, fun s rx q => q.imp (a.lk s rx) (b.lk s rx)⟩
theorem RL.one {K : PySem.W.Frag} {g : Gm} {ι : List Addr} {H : Hp} {vs : List V} {d : D} (r : RL K g ι H vs [d]) : ∃ v, vs = [v] ∧ R K g ι H v d := by
  cases r with | cons a r => cases r; exact ⟨_, rfl, a⟩
theorem RL.two {K : PySem.W.Frag} {g : Gm} {ι : List Addr} {H : Hp} {vs : List V} {d e : D} (r : RL K g ι H vs [d, e]) : ∃ v w, vs = [v, w] ∧ R K g ι H v d ∧ R K g ι H w e := by
  cases r with | cons a r => cases r with | cons b r => cases r; exact ⟨_, _, rfl, a, b⟩
/-- len -/
def lenD (S : Sto) : D → Option Nat
  | .str z => if z.length ≤ sizeLine then some z.length else none
  | d => (sq S d).map List.length
def dLen : DL' := fun ds S Q => ∃ d n, ds = [d] ∧ lenD S d = some n ∧ Q (.int n) S
theorem lk_len {K : PySem.W.Frag} {g : Gm} : LkL K g dLen (fun xs H Q => ∃ x n, xs = [x] ∧ LenV K x H n ∧ Q (.int n) H) := by
  refine ⟨⟨fun hq ⟨d, n, a, b, q⟩ => ⟨d, n, a, b, hq _ _ q⟩⟩, fun {ι H S x dx Q} s rx ⟨d, n, a, b, q⟩ => ?_⟩
  subst a
  obtain ⟨v, rfl, r⟩ := rx.one
  refine ⟨v, n, rfl, ?_, q _ H ι Grow.refl s (.int _)⟩
  unfold lenD at b
  split at b
  · split at b
    · rename_i hz
      cases b
      rw [r.str_inv]
      exact ⟨hz, rfl⟩
    · cases b
  · rw [Option.map_eq_some_iff] at b
    obtain ⟨ds, e, rfl⟩ := b
    obtain ⟨p, vs, rfl, t, rl⟩ := r.seq s e
    rcases t with t | t
    · exact .inl ⟨vs, t, rl.length.symm⟩
    · exact .inr ⟨vs, t, rl.length.symm⟩
def dAbs : DL' := fun ds S Q => ∃ i, ds = [.int i] ∧ Q (.int (if i < 0 then -i else i)) S
theorem lk_abs {K : PySem.W.Frag} {g : Gm} : LkL K g dAbs (fun xs H Q => ∃ i, xs = [.int i] ∧ Q (.int (if i < 0 then -i else i)) H) := by
  refine ⟨⟨fun hq ⟨i, a, q⟩ => ⟨i, a, hq _ _ q⟩⟩, fun {ι H S x dx Q} s rx ⟨i, a, q⟩ => ?_⟩
  subst a
  obtain ⟨v, rfl, r⟩ := rx.one
  exact ⟨i, by rw [r.int_inv], q _ H ι Grow.refl s (.int _)⟩
def dInt : DL' := fun ds S Q => (∃ i, ds = [.int i] ∧ Q (.int i) S) ∨ ∃ k, ds = [.bl k] ∧ Q (.int (if k then 1 else 0)) S
theorem lk_int1 {K : PySem.W.Frag} {g : Gm} : LkL K g dInt (fun xs H Q => (∃ i, xs = [.int i] ∧ Q (.int i) H) ∨ ∃ k, xs = [.bl k] ∧ Q (.int (if k then 1 else 0)) H) := by
  refine ⟨⟨fun hq q => q.imp (fun ⟨i, a, q⟩ => ⟨i, a, hq _ _ q⟩) fun ⟨i, a, q⟩ => ⟨i, a, hq _ _ q⟩⟩, fun {ι H S x dx Q} s rx q => ?_⟩
  rcases q with ⟨i, a, q⟩ | ⟨i, a, q⟩
  · subst a
    obtain ⟨v, rfl, r⟩ := rx.one
    exact .inl ⟨i, by rw [r.int_inv], q _ H ι Grow.refl s (.int _)⟩
  · subst a
    obtain ⟨v, rfl, r⟩ := rx.one
    exact .inr ⟨i, by rw [r.bl_inv], q _ H ι Grow.refl s (.int _)⟩
def dMax2 : DL' := fun ds S Q => ∃ i j, ds = [.int i, .int j] ∧ Q (.int (if j > i then j else i)) S
def dMin2 : DL' := fun ds S Q => ∃ i j, ds = [.int i, .int j] ∧ Q (.int (if j < i then j else i)) S
theorem lk_max2 {K : PySem.W.Frag} {g : Gm} : LkL K g dMax2 (fun xs H Q => ∃ i j, xs = [.int i, .int j] ∧ Q (.int (if j > i then j else i)) H) := by
  refine ⟨⟨fun hq ⟨i, j, a, q⟩ => ⟨i, j, a, hq _ _ q⟩⟩, fun {ι H S x dx Q} s rx ⟨i, j, a, q⟩ => ?_⟩
  subst a
  obtain ⟨v, w, rfl, r, r2⟩ := rx.two
  exact ⟨i, j, by rw [r.int_inv, r2.int_inv], q _ H ι Grow.refl s (.int _)⟩
theorem lk_min2 {K : PySem.W.Frag} {g : Gm} : LkL K g dMin2 (fun xs H Q => ∃ i j, xs = [.int i, .int j] ∧ Q (.int (if j < i then j else i)) H) := by
  refine ⟨⟨fun hq ⟨i, j, a, q⟩ => ⟨i, j, a, hq _ _ q⟩⟩, fun {ι H S x dx Q} s rx ⟨i, j, a, q⟩ => ?_⟩
  subst a
  obtain ⟨v, w, rfl, r, r2⟩ := rx.two
  exact ⟨i, j, by rw [r.int_inv, r2.int_inv], q _ H ι Grow.refl s (.int _)⟩
/-- all, any of a list of bools -/
def dAll : DL' := fun ds S Q => ∃ (d : D) (bs : List Bool), ds = [d] ∧ sqL S d = some (bs.map D.bl) ∧ Q (.bl (bs.all id)) S
def dAny : DL' := fun ds S Q => ∃ (d : D) (bs : List Bool), ds = [d] ∧ sqL S d = some (bs.map D.bl) ∧ Q (.bl (bs.any id)) S
theorem rl_bls {K : PySem.W.Frag} {g : Gm} {ι : List Addr} {H : Hp} : ∀ {bs : List Bool} {vs : List V}, RL K g ι H vs (bs.map D.bl) → vs = bs.map V.bl
  | [], _, r => by cases r; rfl
  | b :: bs, _, r => by
    cases r with
    | cons a r => rw [a.bl_inv, rl_bls r]; rfl
theorem lk_all {K : PySem.W.Frag} {g : Gm} : LkL K g dAll (rAll K) := by
  refine ⟨⟨fun hq ⟨d, n, a, b, q⟩ => ⟨d, n, a, b, hq _ _ q⟩⟩, fun {ι H S x dx Q} s rx ⟨d, bs, a, b, q⟩ => ?_⟩
  subst a
  obtain ⟨v, rfl, r⟩ := rx.one
  obtain ⟨p, vs, rfl, t, rl⟩ := r.seqL s b
  exact ⟨p, bs, rfl, by rw [← rl_bls rl]; exact .of t, q _ H ι Grow.refl s (.bl _)⟩
theorem lk_any {K : PySem.W.Frag} {g : Gm} : LkL K g dAny (rAny K) := by
  refine ⟨⟨fun hq ⟨d, n, a, b, q⟩ => ⟨d, n, a, b, hq _ _ q⟩⟩, fun {ι H S x dx Q} s rx ⟨d, bs, a, b, q⟩ => ?_⟩
  subst a
  obtain ⟨v, rfl, r⟩ := rx.one
  obtain ⟨p, vs, rfl, t, rl⟩ := r.seqL s b
  exact ⟨p, bs, rfl, by rw [← rl_bls rl]; exact .of t, q _ H ι Grow.refl s (.bl _)⟩
/-- list(x), tuple(x) -/
def dList : DL' := fun ds S Q => ∃ d xs, ds = [d] ∧ sq S d = some xs ∧ (Q (.lst xs) S ∨ Q (.ref S.length) (S ++ [.lst xs]))
def dTuple : DL' := fun ds S Q => ∃ d xs, ds = [d] ∧ ((d = .tup xs ∨ (∃ ns, d = .scr ns ∧ False) ∨ sqL S d = some xs) ∧ Q (.tup xs) S)
theorem lk_list {K : PySem.W.Frag} {g : Gm} : LkL K g dList (fun xs H Q => ∃ p ys, xs = [.ref p] ∧ (SqL K H p ys ∨ SqT K H p ys) ∧ ∀ l, H l = none → Q (.ref l) (upd H l (.lst ys))) := by
  refine ⟨⟨fun hq ⟨d, n, a, b, q⟩ => ⟨d, n, a, b, q.imp (hq _ _) (hq _ _)⟩⟩, fun {ι H S x dx Q} s rx ⟨d, xs, a, b, q⟩ => ?_⟩
  subst a
  obtain ⟨v, rfl, r⟩ := rx.one
  obtain ⟨p, vs, rfl, t, rl⟩ := r.seq s b
  exact ⟨p, vs, rfl, t, fun l hl => s.newLst hl rl q⟩
theorem lk_tuple {K : PySem.W.Frag} {g : Gm} : LkL K g dTuple (fun xs H Q => ∃ p ys, xs = [.ref p] ∧ ((SqL K H p ys ∧ ∀ l, H l = none → Q (.ref l) (upd H l (.tup ys))) ∨ (SqT K H p ys ∧ Q (.ref p) H))) := by
  refine ⟨⟨fun hq ⟨d, n, a, b, q⟩ => ⟨d, n, a, b, hq _ _ q⟩⟩, fun {ι H S x dx Q} s rx ⟨d, xs, a, b, q⟩ => ?_⟩
  subst a
  obtain ⟨v, rfl, r⟩ := rx.one
  rcases b with b | ⟨_, _, b⟩ | b
  · subst b
    obtain ⟨p, vs, rfl, t, rl⟩ := r.tup_inv
    exact ⟨p, vs, rfl, .inr ⟨t, q _ H ι Grow.refl s r⟩⟩
  · exact b.elim
  · obtain ⟨p, vs, rfl, t, rl⟩ := r.seqL s b
    exact ⟨p, vs, rfl, .inl ⟨.of t, fun l hl => s.newTup hl rl q⟩⟩
end DL
set_option maxHeartbeats 4000000
/-! DL, ninth part: what a for walks. -/
namespace DLraw
open PySem PySem.Spec PyProof.Rows
open PySem.AutoSeq1 (wpAny_loadPart')
/-- enumerate of a tuple -/
theorem meets_enum_tup (l : Addr) (items : Array Value) (n : Nat) (dct : Option Addr) (sl : Array (Option Value)) :
    Meets (Builtin.«enumerate.__new__» ⟨[.type "enumerate", .ref l], []⟩) (fun _ R s => s.heap.get? l = some { cls := .type "tuple", dict := dct, data := .seq items n, slots := sl } ∧
      R (.ok (.ret (.ref (s.heap.push { cls := .type "tuple_iterator", data := .fields #[.ref l, .int 0 0] }).objs.size)))
        { s with heap := (s.heap.push { cls := .type "tuple_iterator", data := .fields #[.ref l, .int 0 0] }).push { cls := .type "enumerate", data := .fields #[.none, .bool false, .ref s.heap.objs.size, rawInt 0, .none, .none] } }) :=
  .of_wp fun prog w A R s h => by
    obtain ⟨hp, g, d, tk, os⟩ := s; obtain ⟨hl, h⟩ := h
    have hsub := sub_enumerate
    have hL : Heap.IsTuple (Shared.heap ⟨hp, g, d, tk, os⟩) l items := ⟨_, hl, rfl, n, rfl⟩
    wp_walk using wpAny_loadPart' hl
    refine wpAny_stack_any fun st => wpAny_pure ?_
    split
    · rename_i c _ _ _ _ _
      cases (c == Value.type "enumerate")
      · wp_walk using wpAny_loadPart' hl, wpAny_pyIter_tuple hL
        exact ⟨_, rfl, h⟩
      · wp_walk using wpAny_loadPart' hl, wpAny_pyIter_tuple hL
        exact ⟨_, rfl, h⟩
    · wp_walk using wpAny_loadPart' hl, wpAny_pyIter_tuple hL
      exact ⟨_, rfl, h⟩
section
variable {prog : Program} {w : World} {A : Around} {E : Value → Shared → Prop} {s : Shared}
theorem call_enum_tup {l : Addr} {items : Array Value} {Q : Value → Shared → Prop} (hL : s.heap.IsTuple l items)
    (h : ∀ h', IsEnum h' (s.heap.objs.size + 1) s.heap.objs.size 0 .none → h'.IsTupleIter s.heap.objs.size l 0 → h'.objs.size = s.heap.objs.size + 2 →
      (∀ b o, s.heap.get? b = some o → h'.get? b = some o) → Q (.ref (s.heap.objs.size + 1)) { s with heap := h' }) :
    wpAny (model prog w) A (call (.type "enumerate") [.ref l]) Q E s := by
  obtain ⟨⟨c, dct, dt, sl⟩, hl, hc, n, hd⟩ := hL
  replace hc : c = .type "tuple" := hc
  replace hd : dt = .seq items n := hd
  subst hc hd
  refine callType_new F.called_enumerate (by decide) (F.typeCall_enumerate_1 _) (F.newCall_enumerate_1 _) (fun obj => F.args_object_init_2 obj _) F.entry_enumerate_new
    (meets_enum_tup l items n dct sl) ⟨hl, ?_⟩
  have hz : (s.heap.push { cls := .type "tuple_iterator", data := .fields #[.ref l, .int 0 0] }).objs.size = s.heap.objs.size + 1 := Heap.size_push ..
  show _ ∧ _
  rw [hz]
  have he : IsEnum ((s.heap.push { cls := .type "tuple_iterator", data := .fields #[.ref l, .int 0 0] }).push
      { cls := .type "enumerate", data := .fields #[.none, .bool false, .ref s.heap.objs.size, rawInt 0, .none, .none] }) (s.heap.objs.size + 1) s.heap.objs.size 0 .none := by
    have := Heap.get?_push_size (s.heap.push { cls := .type "tuple_iterator", data := .fields #[.ref l, .int 0 0] })
      (o := { cls := .type "enumerate", data := .fields #[.none, .bool false, .ref s.heap.objs.size, rawInt 0, .none, .none] }) rfl
    rw [hz] at this; exact this
  refine ⟨⟨_, he, rfl⟩, h _ he ⟨_, Heap.get?_push_of_some _ (Heap.get?_push_size _ rfl), rfl, rfl⟩ (by rw [Heap.size_push, hz]) fun b o x => Heap.get?_push_of_some _ (Heap.get?_push_of_some _ x)⟩
end
section
variable {prog : Program} {w : World} {A : Around} {E : Value → Shared → Prop} {s : Shared}
theorem pyNext_enum_tup_end {e it l : Addr} {i : Nat} {items : Array Value} {old : Value} {Q : Option Value → Shared → Prop} (hh : A.handled = none)
    (he : IsEnum s.heap e it i old) (hit : s.heap.IsTupleIter it l i) (hl : s.heap.IsTuple l items) (hx : items[i]? = none)
    (hQ : ∀ h', Heap.ExtBut it s.heap h' → Q none { s with heap := h' }) : wpAny (model prog w) A (pyNext (.ref e)) Q E s := by
  have hT : s.TypeIs (.ref e) "enumerate" := ⟨_, he, rfl⟩
  unfold pyNext
  refine wpAny_bind (wpAny_attempt (wpAny_callSpecial?_slot (name := Str.ofString "__next__") hT F.slot_enumerate_next
    (wpAny_call_entry F.slot_enumerate_next hT F.entry_enumerate_next ?_ (F.args_enumerate_next_1 _))))
  show wpAny _ _ (field (.ref e) 2 >>= _) _ _ _
  refine wpAny_bind (wpAny_field he rfl (x := .ref it) rfl ?_)
  refine wpAny_bind (wpAny_nextOf_tuple_end hh hit hl hx fun h' x he' hx' => ?_)
  obtain ⟨o, ho, hc⟩ := hx'
  refine wpAny_bind (wpAny_isInstance (T := "StopIteration") (b := true) ⟨o, ho, hc⟩ isSubtype_stop ?_)
  exact wpAny_pure (hQ _ he')
end
end DLraw
namespace DL
open PySem PySem.Spec L2
/-- the tuple at a, each item in a new pair -/
def IteT (K : PySem.W.Frag) (a : Addr) : It :=
  ⟨fun i H => ∃ (xs : List V) (x : V), SqT K H a xs ∧ xs[i]? = some x, fun i H v H' => ∃ T x, v = .ref T ∧ H T = none ∧ H' = upd H T (.tup [.int (i : Nat), x]) ∧ ∀ xs, SqT K H a xs → xs[i]? = some x, fun i H => ∃ xs : List V, SqT K H a xs ∧ xs.length ≤ i⟩
theorem turn_enumT {P : Program} {w : World} {K : PySem.W.Frag} {elts : List Expr} {kk : Nat} {tpos : Pos} (a e it : Addr) :
    Turn P w K (.Tuple elts kk tpos) (IteT K a) [e, it] e (fun i h => (∃ old, IsEnum h e it ((i : Nat) : Int) old) ∧ h.IsTupleIter it a i ∧ e ≠ it ∧ a ≠ it) where
  mem := by simp
  obj := fun i h st b hb => by
    obtain ⟨⟨old, he⟩, ⟨o, ho, hc, hd⟩, _⟩ := st
    have e' : b = e ∨ b = it := by simpa using hb
    rcases e' with z | z
    · rw [z]; exact ⟨_, he, fun v q => nomatch q⟩
    · rw [z]; exact ⟨o, ho, fun v q => by rw [hd] at q; cases q⟩
  keep := fun i h h' st k => let ⟨⟨old, he⟩, hi, hne⟩ := st; ⟨⟨old, k e (by simp) _ he⟩, hi.at fun o q => k it (by simp) o q, hne⟩
  item := by
    intro X hP hw hK hc i pins s σ H E I hf st hg
    subst hP hw hK
    obtain ⟨⟨old, he⟩, hit, hne, hai⟩ := st
    obtain ⟨xs, x, hq, hx⟩ := hg
    obtain ⟨its, rv, p, hz⟩ := I.tuple hq
    obtain ⟨u, hu, ru⟩ := rv.get hx
    have hel : e < s.heap.objs.size := Heap.lt_size he
    have hil : it < s.heap.objs.size := by obtain ⟨_, q, _⟩ := hit; exact Heap.lt_size q
    have hae : e ≠ a := by
      rintro rfl
      obtain ⟨o, h1, h2, _⟩ := p
      rw [show s.heap.get? e = some _ from he] at h1
      cases h1
      simp at h2
    have pT : s.heap.IsTuple a its.toArray := p
    have D := Draws.tuple (prog := X.prog) (w := X.w) (A := X.A.in1) (I.ok.hd hc) it a hai its.toArray
    have hsz : i < its.toArray.size := by simpa using (List.getElem?_eq_some_iff.mp hu).1
    refine wpAny_pyNext_enum_itemD D he ⟨hit, pT⟩ hsz hne (by simp [hne, hae]) fun y h' tk hy ho st' hT hsz' hk => ?_
    have hyu : y = u := by
      have e1 : its.toArray[i]? = some y := hy
      rw [List.getElem?_toArray, hu] at e1
      exact (Option.some.inj e1).symm
    subst hyu
    refine ⟨_, rfl, wpAny_letOwnedTupleGo_enum (s := { s with heap := h', toks := tk + 1 }) ho fun h'' he' sb => ?_⟩
    have hT2 : h''.get? s.heap.objs.size = some { cls := .type "tuple", data := .seq #[.int i tk, y] } := (sb.2 _ (Nat.ne_of_gt hel)).trans hT
    have new : ObjOk X.prog X.w (upd H s.heap.objs.size (.tup [.int (i : Nat), x])) h'' s.heap.objs.size (.tup [.int (i : Nat), x]) :=
      ⟨by show 2 ≤ sizeLine; decide, [.int i tk, y], .cons ⟨_, rfl⟩ (.cons ru .nil), ⟨_, hT2, rfl, _, rfl⟩⟩
    have I1 : Inv X pins σ (upd H s.heap.objs.size (.tup [.int (i : Nat), x])) { s with heap := h'', toks := tk + 1 } :=
      I.turnedNew (ch := [e, it]) (fun b ob hb q => (sb.2 b (fun z => hb (by simp [z]))).trans (hk b ob (fun z => hb (by simp [z])) (fun z => hb (by simp [z])) q)) hf (Nat.le_refl _) new
    refine ⟨.ref s.heap.objs.size, _, I1, rfl, ⟨_, x, rfl, I.hok.fresh (Nat.le_refl _), rfl, fun ys hy => by rw [I.tuple_inj hy hq]; exact hx⟩, ⟨⟨y, ?_⟩, st'.1.at fun o q => (sb.2 it (Ne.symm hne)).trans q, hne, hai⟩, fun b hb => ?_⟩
    · have e1 : ((i + 1 : Nat) : Int) = (i : Int) + 1 := by omega
      rw [e1]; exact he'
    · have hb' : b < s.heap.objs.size := by
        have e' : b = e ∨ b = it := by simpa using hb
        rcases e' with z | z
        · rw [z]; exact hel
        · rw [z]; exact hil
      rw [upd_ne (Nat.ne_of_lt hb')]
      exact (hf b hb).1
  done := by
    intro X hP hw hK hc i pins s σ H E I hf st hg
    subst hP hw hK
    obtain ⟨⟨old, he⟩, hit, hne, hai⟩ := st
    obtain ⟨xs, hq, hx⟩ := hg
    obtain ⟨its, rv, p, hz⟩ := I.tuple hq
    obtain ⟨f0, f1, f2, f3, f4, f5⟩ := hf it (by simp)
    have hl := rv.length
    exact DLraw.pyNext_enum_tup_end (I.ok.hd hc) he hit (show s.heap.IsTuple a its.toArray from p) (by simp; omega) fun h' eb => ⟨rfl, I.turned (t' := s.toks) (fun b o hb q => eb b o hb q) f0 f1 f3 f4 f5⟩
  self := fun A i s Q E st h => let ⟨⟨_, he⟩, _⟩ := st; wpAny_pyIter_enum he h
def iEnumA (K : PySem.W.Frag) (ta : TA) : TI := fun σ H R => ta σ H fun vs H1 => ∃ a xs, vs = [.ref a] ∧ ((SqL K H1 a xs ∧ R (Ite K a) H1) ∨ (SqT K H1 a xs ∧ R (IteT K a) H1))
theorem pi_enumA {X : Cx} {e : Expr} {ta : TA} {p pos tpos : Pos} {elts : List Expr} {kk : Nat} (hg : Gl X "enumerate") (hm : X.mg "enumerate" = none) (ha : PA X [e] ta) (hs : starEach [e] X.env = [(false, eval e X.env)] := by rfl) :
    PI X (.Tuple elts kk tpos) (.Call (.Name "enumerate" p) [e] [] pos) (iEnumA X.K ta) := by
  refine ⟨fun pins s σ H R I h => ?_⟩
  refine PyProof.Rows.Call_ (ld_blt I hg hm PyProof.Rows.boot_enumerate (PyProof.Rows.callWith_type1 (thn (ha.run pos pins s σ H _ I h) fun us s1 ⟨vs, H1, I1, r1, q1⟩ => ?_) hs rfl))
  obtain ⟨a, xs, ex, q⟩ := q1
  subst ex
  cases r1 with
  | cons r rr =>
    cases rr
    cases r
    have fp : ∀ b ∈ [s1.heap.objs.size + 1, s1.heap.objs.size], FpOk X pins H1 b := fun b hb => by
      have e' : b = s1.heap.objs.size + 1 ∨ b = s1.heap.objs.size := by simpa using hb
      have hle : s1.heap.objs.size ≤ b := by
        rcases e' with z | z
        · rw [z]; exact Nat.le_add_right _ _
        · rw [z]; exact Nat.le_refl _
      exact I1.fpOk hle (I1.hok.fresh hle)
    rcases q with ⟨hq, q⟩ | ⟨hq, q⟩
    · obtain ⟨its, rv, p', hz⟩ := I1.list hq
      refine call_enumerate_list p'.isList fun h' he hit hsz hk => wpAny_pyIter_enum he ?_
      have I2 : Inv X pins σ H1 { s1 with heap := h' } := I1.kept (t' := s1.toks) hk
      exact ⟨s1.heap.objs.size + 1, [s1.heap.objs.size + 1, s1.heap.objs.size], _, _, H1, rfl, I2, turn_enum a (s1.heap.objs.size + 1) s1.heap.objs.size, ⟨⟨.none, he⟩, hit, Nat.succ_ne_self _⟩, fp, q⟩
    · obtain ⟨its, rv, p', hz⟩ := I1.tuple hq
      have hal : a ≠ s1.heap.objs.size := Nat.ne_of_lt p'.lt
      refine DLraw.call_enum_tup (show s1.heap.IsTuple a its.toArray from p') fun h' he hit hsz hk => wpAny_pyIter_enum he ?_
      have I2 : Inv X pins σ H1 { s1 with heap := h' } := I1.kept (t' := s1.toks) hk
      exact ⟨s1.heap.objs.size + 1, [s1.heap.objs.size + 1, s1.heap.objs.size], _, _, H1, rfl, I2, turn_enumT a (s1.heap.objs.size + 1) s1.heap.objs.size, ⟨⟨.none, he⟩, hit, Nat.succ_ne_self _, hal⟩, fp, q⟩

/-! ### the walks over data -/
theorem PI.weak {X : Cx} {tg it : Expr} {t t' : TI} (h : PI X tg it t) (hw : ∀ pins s σ H R, Inv X pins σ H s → t' σ H R → t σ H R) : PI X tg it t' := ⟨fun pins s σ H R I q => h.run pins s σ H R I (hw _ _ _ _ _ I q)⟩
theorem PI.or {X : Cx} {tg it : Expr} {t t' : TI} (h : PI X tg it t) (h' : PI X tg it t') : PI X tg it (fun σ H R => t σ H R ∨ t' σ H R) := ⟨fun pins s σ H R I q => q.elim (h.run pins s σ H R I) (h'.run pins s σ H R I)⟩
/-- the sequence d stands, as xs -/
def okSq (d : D) (xs : List D) : Sto → Prop := fun S => sq S d = some xs
/-- a sequence stands on -/
theorem R.stand {K : PySem.W.Frag} {g : Gm} {ι1 : List Addr} {H1 : Hp} {S1 : Sto} {d : D} {xs : List D} {v : V} (s1 : StoR K g ι1 H1 S1) (r : R K g ι1 H1 v d) (h : sq S1 d = some xs) :
    ∃ a, v = .ref a ∧ ((∃ vs, SqL K H1 a vs) ∧ (∀ hid ι H S, (∀ a ∈ hid, a ∈ g.hid ∨ H1 a = none) → Grow ι1 H1 ι H → StoR K (g.hide hid) ι H S → okSq d xs S → ∃ vs, SqL K H a vs ∧ RL K (g.hide hid) ι H vs xs) ∨
      (∃ vs, SqT K H1 a vs) ∧ (∀ hid ι H S, (∀ a ∈ hid, a ∈ g.hid ∨ H1 a = none) → Grow ι1 H1 ι H → StoR K (g.hide hid) ι H S → okSq d xs S → ∃ vs, SqT K H a vs ∧ RL K (g.hide hid) ι H vs xs)) := by
  obtain ⟨a, vs, rfl, t, rl⟩ := r.seq s1 h
  refine ⟨a, rfl, ?_⟩
  have nexts : ∀ hid ι H S, (∀ a ∈ hid, a ∈ g.hid ∨ H1 a = none) → Grow ι1 H1 ι H → StoR K (g.hide hid) ι H S → okSq d xs S → ∃ vs, (SqL K H a vs ∨ SqT K H a vs) ∧ RL K (g.hide hid) ι H vs xs := fun hid ι H S hh gr s ok => by
    obtain ⟨a', vs', e, t', rl'⟩ := (r.monoH gr hh).seq s ok
    cases e
    exact ⟨vs', t', rl'⟩
  cases d with
  | tup ys =>
    obtain ⟨a', vs', e, t', rl'⟩ := r.tup_inv
    cases e
    refine .inr ⟨⟨vs', t'⟩, fun hid ι H S hh gr s ok => ?_⟩
    have ok' : some ys = some xs := ok
    cases ok'
    obtain ⟨a2, vs2, e2, t2, rl2⟩ := (r.monoH gr hh).tup_inv
    cases e2
    exact ⟨vs2, t2, rl2⟩
  | scr ns =>
    cases r with
    | scr q =>
      have mk : ∀ {H : Hp}, (Rd H a (.lst (ns.map V.int)) ∨ SqLK K a (ns.map V.int)) → SqL K H a (ns.map V.int) := fun q => q.imp id id
      refine .inl ⟨⟨_, mk (q.imp (fun q => q.1.2) id)⟩, fun hid ι H S hh gr s ok => ?_⟩
      have ok' : some (ns.map D.int) = some xs := ok
      cases ok'
      exact ⟨_, mk (q.imp (fun q => (q.1.mono gr).2) id), rl_ints ns⟩
  | lst ys =>
    refine .inl ⟨?_, fun hid ι H S hh gr s ok => ?_⟩
    · obtain ⟨a2, vs2, e2, t2, _⟩ := r.seqL s1 (show sqL S1 (.lst ys) = some xs from h)
      cases e2
      exact ⟨vs2, .of t2⟩
    · obtain ⟨a2, vs2, e2, t2, rl2⟩ := (r.monoH gr hh).seqL s (show sqL S (.lst ys) = some xs from ok)
      cases e2
      exact ⟨vs2, .of t2, rl2⟩
  | ref n =>
    refine .inl ⟨?_, fun hid ι H S hh gr s ok => ?_⟩
    · obtain ⟨a2, vs2, e2, t2, _⟩ := r.seqL s1 (show sqL S1 (.ref n) = some xs from h)
      cases e2
      exact ⟨vs2, .of t2⟩
    · obtain ⟨a2, vs2, e2, t2, rl2⟩ := (r.monoH gr hh).seqL s (show sqL S (.ref n) = some xs from ok)
      cases e2
      exact ⟨vs2, .of t2, rl2⟩
  | _ => simp only [sq, sqL] at h; cases h
def diSq (f : DE) : DI := fun env S Q => f env S fun d S1 => ∃ xs, sq S1 d = some xs ∧ Q (okSq d xs) xs S1
theorem itd_list {K : PySem.W.Frag} {g : Gm} {a : Addr} {ι1 : List Addr} {H1 : Hp} {ok : Sto → Prop} {xs : List D}
    (h : ∀ hid ι H S, (∀ a ∈ hid, a ∈ g.hid ∨ H1 a = none) → Grow ι1 H1 ι H → StoR K (g.hide hid) ι H S → ok S → ∃ vs, SqL K H a vs ∧ RL K (g.hide hid) ι H vs xs) : ItD K g (Itl K a) ι1 H1 ok xs := fun hid ι H S hh gr s o => by
  obtain ⟨vs, t, rl⟩ := h hid ι H S hh gr s o
  refine ⟨fun i d hd => ?_, fun i hi => ⟨vs, t, by rw [rl.length]; exact hi⟩⟩
  obtain ⟨v, hv, rv⟩ := rl.get hd
  refine ⟨⟨vs, v, t, hv⟩, fun w H' ⟨e, q⟩ => ?_⟩
  subst e
  have := q vs t
  rw [hv] at this; cases this
  exact ⟨Grow.refl, s, rv⟩
theorem itd_tup {K : PySem.W.Frag} {g : Gm} {a : Addr} {ι1 : List Addr} {H1 : Hp} {ok : Sto → Prop} {xs : List D}
    (h : ∀ hid ι H S, (∀ a ∈ hid, a ∈ g.hid ∨ H1 a = none) → Grow ι1 H1 ι H → StoR K (g.hide hid) ι H S → ok S → ∃ vs, SqT K H a vs ∧ RL K (g.hide hid) ι H vs xs) : ItD K g (Itt K a) ι1 H1 ok xs := fun hid ι H S hh gr s o => by
  obtain ⟨vs, t, rl⟩ := h hid ι H S hh gr s o
  refine ⟨fun i d hd => ?_, fun i hi => ⟨vs, t, by rw [rl.length]; exact hi⟩⟩
  obtain ⟨v, hv, rv⟩ := rl.get hd
  refine ⟨⟨vs, v, t, hv⟩, fun w H' ⟨e, q⟩ => ?_⟩
  subst e
  have := q vs t
  rw [hv] at this; cases this
  exact ⟨Grow.refl, s, rv⟩
section
variable {X : Cx} {g : Gm} {ι0 : List Addr} {H0 : Hp} {tg e e2 : Expr} {f : DE} {fa : DA} {p pos tpos : Pos}
def iAny (K : PySem.W.Frag) (tl : TE) : TI := fun σ H Rr => tl σ H fun x H1 => (∃ a, x = .ref a ∧ (((∃ xs, SqL K H1 a xs) ∧ Rr (Itl K a) H1) ∨ ((∃ xs, SqT K H1 a xs) ∧ Rr (Itt K a) H1))) ∨ ∃ y, x = .str y ∧ Rr (Its y) H1
theorem pi_any {l : Expr} {tl : TE} (hl : PE X l tl) : PI X tg l (iAny X.K tl) := by
  refine ⟨fun pins s σ H R I h => ?_⟩
  refine thn (hl.run pins s σ H _ I h) fun v s1 ⟨x, H1, I1, r1, q1⟩ => ?_
  have fp : ∀ b ∈ [s1.heap.objs.size], FpOk X pins H1 b := fun b hb => by
    have e : b = s1.heap.objs.size := by simpa using hb
    subst e
    exact I1.fpOk (Nat.le_refl _) (I1.hok.fresh (Nat.le_refl _))
  rcases q1 with ⟨a, e, ⟨⟨xs, hq⟩, q⟩ | ⟨⟨xs, hq⟩, q⟩⟩ | ⟨y, e, q⟩
  · subst e
    cases r1
    obtain ⟨its, rv, p, hz⟩ := I1.list hq
    refine wpAny_pyIter_list p.isList ?_
    exact ⟨s1.heap.objs.size, [s1.heap.objs.size], _, _, H1, rfl, I1.kept (t' := s1.toks) fun b o e => Heap.get?_push_of_some _ e, turn_list a _, ⟨_, Heap.get?_push_size _ rfl, rfl, rfl⟩, fp, q⟩
  · subst e
    cases r1
    obtain ⟨its, rv, p, hz⟩ := I1.tuple hq
    refine wpAny_pyIter_tuple (show s1.heap.IsTuple a its.toArray from p) ?_
    exact ⟨s1.heap.objs.size, [s1.heap.objs.size], _, _, H1, rfl, I1.kept (t' := s1.toks) fun b o e => Heap.get?_push_of_some _ e, turn_tuple a _, ⟨_, Heap.get?_push_size _ rfl, rfl, rfl⟩, fp, q⟩
  · subst e
    obtain ⟨t, rfl⟩ := r1
    cases ha : y.cps.all (· < 128)
    · exact wpAny_pyIter_wide ha (pi_one (tk := s1.toks) I1 _ (turn_str _ y t "str_iterator" (.inr rfl)) ⟨_, Heap.get?_push_size _ rfl, rfl, rfl⟩ q)
    · exact wpAny_pyIter_ascii ha (pi_one (tk := s1.toks) I1 _ (turn_str _ y t "str_ascii_iterator" (.inl rfl)) ⟨_, Heap.get?_push_size _ rfl, rfl, rfl⟩ q)
/-- the signs of a text -/
def signsD (x : Str) : List D := x.cps.toList.map fun c => .str ⟨#[c]⟩
/-- a list, a tuple, a text, walked -/
def diAny (f : DE) : DI := fun env S Q => f env S fun d S1 => match d with
  | .str x => Q (fun _ => True) (signsD x) S1
  | d => ∃ xs, sq S1 d = some xs ∧ Q (okSq d xs) xs S1
theorem itd_str {K : PySem.W.Frag} {g : Gm} {x : Str} {ι1 : List Addr} {H1 : Hp} : ItD K g (Its x) ι1 H1 (fun _ => True) (signsD x) := fun hid ι H S hh gr s o => by
  refine ⟨fun i d hd => ?_, fun i hi => ?_⟩
  · unfold signsD at hd
    rw [List.getElem?_map, Option.map_eq_some_iff] at hd
    obtain ⟨c, hc, rfl⟩ := hd
    rw [Array.getElem?_toList] at hc
    refine ⟨(Array.getElem?_eq_some_iff.mp hc).1, fun v H' ⟨e, c', hc', ev⟩ => ?_⟩
    subst e
    rw [hc] at hc'; cases hc'
    subst ev
    exact ⟨Grow.refl, s, .str _⟩
  · unfold signsD at hi
    rw [List.length_map, Array.length_toList] at hi
    exact hi
theorem pid_any (he : PEd X g ι0 H0 e f) : PId X g ι0 H0 tg e (diAny f) := by
  refine ⟨⟨fun hq q => he.mono.go (fun d _ q1 => ?_) q⟩, PI.weak (pi_any he.pe) fun pins s σ H Rr I ⟨ι, env, S, at0, q⟩ => ⟨ι, env, S, at0, he.mono.go (fun d S1 q1 v H1 ι1 g1 s1 r1 => ?_) q⟩⟩
  · split at q1
    · exact hq _ _ _ q1
    · obtain ⟨xs, a, z⟩ := q1
      exact ⟨xs, a, hq _ _ _ z⟩
  · split at q1
    · exact .inr ⟨_, r1.str_inv, q1 _ H1 ι1 g1 s1 itd_str⟩
    · obtain ⟨xs, a, z⟩ := q1
      obtain ⟨p, rfl, st⟩ := r1.stand s1 a
      rcases st with ⟨t, st⟩ | ⟨t, st⟩
      · exact .inl ⟨p, rfl, .inl ⟨t, z _ H1 ι1 g1 s1 (itd_list st)⟩⟩
      · exact .inl ⟨p, rfl, .inr ⟨t, z _ H1 ι1 g1 s1 (itd_tup st)⟩⟩
/-- enumerate -/
def enumD : Nat → List D → List D
  | _, [] => []
  | k, x :: xs => .tup [.int (k : Nat), x] :: enumD (k + 1) xs
theorem enumD_get : ∀ {xs : List D} {k i : Nat} {d : D}, (enumD k xs)[i]? = some d → ∃ x, xs[i]? = some x ∧ d = .tup [.int ((k + i : Nat) : Int), x]
  | [], _, _, _, h => by simp [enumD] at h
  | x :: xs, k, 0, d, h => by simp [enumD] at h; exact ⟨x, rfl, h.symm⟩
  | x :: xs, k, i + 1, d, h => by
    simp only [enumD, List.getElem?_cons_succ] at h
    obtain ⟨y, h1, h2⟩ := enumD_get h
    exact ⟨y, by simpa using h1, by rw [h2]; congr 4; omega⟩
theorem enumD_length : ∀ (xs : List D) (k : Nat), (enumD k xs).length = xs.length
  | [], _ => rfl
  | _ :: xs, k => by simp [enumD, enumD_length xs]
theorem pair_new {K : PySem.W.Frag} {g : Gm} {ι : List Addr} {H : Hp} {S : Sto} {T : Addr} {x y : V} {dx dy : D} (s : StoR K g ι H S) (hT : H T = none) (rx : R K g ι H x dx) (ry : R K g ι H y dy) : Grow ι H ι (upd H T (.tup [x, y])) ∧ StoR K g ι (upd H T (.tup [x, y])) S ∧ R K g ι (upd H T (.tup [x, y])) (.ref T) (.tup [dx, dy]) :=
  ⟨grow_new hT, s.new hT, .tup ⟨s.free hT, .inl upd_same⟩ (.cons (rx.mono (grow_new hT)) (.cons (ry.mono (grow_new hT)) .nil))⟩
theorem itd_enumL {K : PySem.W.Frag} {g : Gm} {a : Addr} {ι1 : List Addr} {H1 : Hp} {ok : Sto → Prop} {xs : List D}
    (h : ∀ hid ι H S, (∀ a ∈ hid, a ∈ g.hid ∨ H1 a = none) → Grow ι1 H1 ι H → StoR K (g.hide hid) ι H S → ok S → ∃ vs, SqL K H a vs ∧ RL K (g.hide hid) ι H vs xs) : ItD K g (Ite K a) ι1 H1 ok (enumD 0 xs) := fun hid ι H S hh gr s o => by
  obtain ⟨vs, t, rl⟩ := h hid ι H S hh gr s o
  refine ⟨fun i d hd => ?_, fun i hi => ⟨vs, t, by rw [rl.length]; rw [enumD_length] at hi; exact hi⟩⟩
  obtain ⟨x, hx, rfl⟩ := enumD_get hd
  obtain ⟨v, hv, rv⟩ := rl.get hx
  refine ⟨⟨vs, v, t, hv⟩, fun w H' ⟨T, y, ew, hT, e, q⟩ => ?_⟩
  have := q vs t
  rw [hv] at this; cases this
  subst e; subst ew
  rw [Nat.zero_add]
  exact pair_new s hT (.int _) rv
theorem itd_enumT {K : PySem.W.Frag} {g : Gm} {a : Addr} {ι1 : List Addr} {H1 : Hp} {ok : Sto → Prop} {xs : List D}
    (h : ∀ hid ι H S, (∀ a ∈ hid, a ∈ g.hid ∨ H1 a = none) → Grow ι1 H1 ι H → StoR K (g.hide hid) ι H S → ok S → ∃ vs, SqT K H a vs ∧ RL K (g.hide hid) ι H vs xs) : ItD K g (IteT K a) ι1 H1 ok (enumD 0 xs) := fun hid ι H S hh gr s o => by
  obtain ⟨vs, t, rl⟩ := h hid ι H S hh gr s o
  refine ⟨fun i d hd => ?_, fun i hi => ⟨vs, t, by rw [rl.length]; rw [enumD_length] at hi; exact hi⟩⟩
  obtain ⟨x, hx, rfl⟩ := enumD_get hd
  obtain ⟨v, hv, rv⟩ := rl.get hx
  refine ⟨⟨vs, v, t, hv⟩, fun w H' ⟨T, y, ew, hT, e, q⟩ => ?_⟩
  have := q vs t
  rw [hv] at this; cases this
  subst e; subst ew
  rw [Nat.zero_add]
  exact pair_new s hT (.int _) rv
def diEnum (fa : DA) : DI := fun env S Q => fa env S fun ds S1 => ∃ d xs, ds = [d] ∧ sq S1 d = some xs ∧ Q (okSq d xs) (enumD 0 xs) S1
theorem pid_enum {elts : List Expr} {kk : Nat} (hm : X.mg "enumerate" = none) (ha : PAd X g ι0 H0 [e] fa) (hg : Gl X "enumerate" := by rfl) (hs : starEach [e] X.env = [(false, eval e X.env)] := by rfl) : PId X g ι0 H0 (.Tuple elts kk tpos) (.Call (.Name "enumerate" p) [e] [] pos) (diEnum fa) := by
  refine ⟨⟨fun hq q => ha.mono.go (fun _ _ ⟨d, xs, a, b, z⟩ => ⟨d, xs, a, b, hq _ _ _ z⟩) q⟩, PI.weak (pi_enumA hg hm ha.pa hs) fun pins s σ H Rr I ⟨ι, env, S, at0, q⟩ => ⟨ι, env, S, at0, ha.mono.go (fun ds S1 ⟨d, xs, a, b, z⟩ vs H1 ι1 g1 s1 r1 => ?_) q⟩⟩
  subst a
  obtain ⟨v, rfl, r⟩ := r1.one
  obtain ⟨p, rfl, st⟩ := r.stand s1 b
  rcases st with ⟨⟨us, t⟩, st⟩ | ⟨⟨us, t⟩, st⟩
  · exact ⟨p, us, rfl, .inl ⟨t, z _ H1 ι1 g1 s1 (itd_enumL st)⟩⟩
  · exact ⟨p, us, rfl, .inr ⟨t, z _ H1 ι1 g1 s1 (itd_enumT st)⟩⟩
/-- zip of two lists, of two tuples -/
def zipD : List D → List D → List D
  | x :: xs, y :: ys => .tup [x, y] :: zipD xs ys
  | _, _ => []
theorem zipD_get : ∀ {xs ys : List D} {i : Nat} {d : D}, (zipD xs ys)[i]? = some d → ∃ x y, xs[i]? = some x ∧ ys[i]? = some y ∧ d = .tup [x, y]
  | [], _, _, _, h => by simp [zipD] at h
  | _ :: _, [], _, _, h => by simp [zipD] at h
  | x :: xs, y :: ys, 0, d, h => by simp [zipD] at h; exact ⟨x, y, rfl, rfl, h.symm⟩
  | x :: xs, y :: ys, i + 1, d, h => by
    simp only [zipD, List.getElem?_cons_succ] at h
    obtain ⟨a, b, h1, h2, h3⟩ := zipD_get h
    exact ⟨a, b, by simpa using h1, by simpa using h2, h3⟩
theorem zipD_length : ∀ (xs ys : List D), (zipD xs ys).length = min xs.length ys.length
  | [], _ => by simp [zipD]
  | _ :: _, [] => by simp [zipD]
  | _ :: xs, _ :: ys => by simp [zipD, zipD_length xs ys]
def diZip (fa : DA) : DI := fun env S Q => fa env S fun ds S1 => ∃ d e xs ys, ds = [d, e] ∧ sq S1 d = some xs ∧ sq S1 e = some ys ∧ ((∃ a b, d = .tup a ∧ e = .tup b) ∨ (∃ a b, sqL S1 d = some a ∧ sqL S1 e = some b)) ∧ Q (fun S => okSq d xs S ∧ okSq e ys S) (zipD xs ys) S1
theorem itd_zipL {K : PySem.W.Frag} {g : Gm} {a b : Addr} {ι1 : List Addr} {H1 : Hp} {ok : Sto → Prop} {xs ys : List D}
    (h : ∀ hid ι H S, (∀ a ∈ hid, a ∈ g.hid ∨ H1 a = none) → Grow ι1 H1 ι H → StoR K (g.hide hid) ι H S → ok S → (∃ vs, SqL K H a vs ∧ RL K (g.hide hid) ι H vs xs) ∧ ∃ vs, SqL K H b vs ∧ RL K (g.hide hid) ι H vs ys) : ItD K g (Itz K a b) ι1 H1 ok (zipD xs ys) := fun hid ι H S hh gr s o => by
  obtain ⟨⟨vs, t, rl⟩, ws, t2, rl2⟩ := h hid ι H S hh gr s o
  refine ⟨fun i d hd => ?_, fun i hi => ⟨vs, ws, t, t2, by rw [rl.length, rl2.length]; rw [zipD_length] at hi; omega⟩⟩
  obtain ⟨x, y, hx, hy, rfl⟩ := zipD_get hd
  obtain ⟨v, hv, rv⟩ := rl.get hx
  obtain ⟨u, hu, ru⟩ := rl2.get hy
  refine ⟨⟨vs, ws, v, u, t, t2, hv, hu⟩, fun w H' ⟨T, x', y', ew, hT, e, q, q2⟩ => ?_⟩
  have z1 := q vs t
  have z2 := q2 ws t2
  rw [hv] at z1; cases z1
  rw [hu] at z2; cases z2
  subst e; subst ew
  exact pair_new s hT rv ru
theorem itd_zipT {K : PySem.W.Frag} {g : Gm} {a b : Addr} {ι1 : List Addr} {H1 : Hp} {ok : Sto → Prop} {xs ys : List D}
    (h : ∀ hid ι H S, (∀ a ∈ hid, a ∈ g.hid ∨ H1 a = none) → Grow ι1 H1 ι H → StoR K (g.hide hid) ι H S → ok S → (∃ vs, SqT K H a vs ∧ RL K (g.hide hid) ι H vs xs) ∧ ∃ vs, SqT K H b vs ∧ RL K (g.hide hid) ι H vs ys) : ItD K g (RZ.ItzT K a b) ι1 H1 ok (zipD xs ys) := fun hid ι H S hh gr s o => by
  obtain ⟨⟨vs, t, rl⟩, ws, t2, rl2⟩ := h hid ι H S hh gr s o
  refine ⟨fun i d hd => ?_, fun i hi => ⟨vs, ws, t, t2, by rw [rl.length, rl2.length]; rw [zipD_length] at hi; omega⟩⟩
  obtain ⟨x, y, hx, hy, rfl⟩ := zipD_get hd
  obtain ⟨v, hv, rv⟩ := rl.get hx
  obtain ⟨u, hu, ru⟩ := rl2.get hy
  refine ⟨⟨vs, ws, v, u, t, t2, hv, hu⟩, fun w H' ⟨T, x', y', ew, hT, e, q, q2⟩ => ?_⟩
  have z1 := q vs t
  have z2 := q2 ws t2
  rw [hv] at z1; cases z1
  rw [hu] at z2; cases z2
  subst e; subst ew
  exact pair_new s hT rv ru
/-- range -/
def rngD (lo : Int) : Nat → List D
  | 0 => []
  | n + 1 => .int lo :: rngD (lo + 1) n
theorem rngD_get : ∀ {n i : Nat} {lo : Int} {d : D}, (rngD lo n)[i]? = some d → i < n ∧ d = .int (lo + i)
  | 0, _, _, _, h => by simp [rngD] at h
  | n + 1, 0, lo, d, h => by simp [rngD] at h; exact ⟨Nat.zero_lt_succ _, by rw [← h]; simp⟩
  | n + 1, i + 1, lo, d, h => by
    simp only [rngD, List.getElem?_cons_succ] at h
    obtain ⟨a, b⟩ := rngD_get h
    exact ⟨Nat.succ_lt_succ a, by rw [b]; congr 1; omega⟩
theorem rngD_length : ∀ (n : Nat) (lo : Int), (rngD lo n).length = n
  | 0, _ => rfl
  | n + 1, lo => by simp [rngD, rngD_length n]
theorem itd_rng {K : PySem.W.Frag} {g : Gm} {lo : Int} {n : Nat} {ι1 : List Addr} {H1 : Hp} : ItD K g (Itr lo n) ι1 H1 (fun _ => True) (rngD lo n) := fun hid ι H S hh gr s o => by
  refine ⟨fun i d hd => ?_, fun i hi => ?_⟩
  · obtain ⟨a, b⟩ := rngD_get hd
    refine ⟨a, fun v H' ⟨e, ev⟩ => ?_⟩
    subst e; subst ev; subst b
    exact ⟨Grow.refl, s, .int _⟩
  · rw [rngD_length] at hi
    exact hi
def diRng1 (fa : DA) : DI := fun env S Q => fa env S fun ds S1 => ∃ j : Int, ds = [.int j] ∧ -(2 ^ 62) ≤ j ∧ j < 2 ^ 62 ∧ Q (fun _ => True) (rngD 0 j.toNat) S1
def diRng2 (fa : DA) : DI := fun env S Q => fa env S fun ds S1 => ∃ i j : Int, ds = [.int i, .int j] ∧ (-(2 ^ 62) ≤ i ∧ i < 2 ^ 62 ∧ -(2 ^ 62) ≤ j ∧ j < 2 ^ 62) ∧ Q (fun _ => True) (rngD i (j - i).toNat) S1
theorem pid_rng1 (hm : X.mg "range" = none) (ha : PAd X g ι0 H0 [e] fa) (hg : Gl X "range" := by rfl) (hs : starEach [e] X.env = [(false, eval e X.env)] := by rfl) : PId X g ι0 H0 tg (.Call (.Name "range" p) [e] [] pos) (diRng1 fa) := by
  refine ⟨⟨fun hq q => ha.mono.go (fun _ _ ⟨j, a, b, c, z⟩ => ⟨j, a, b, c, hq _ _ _ z⟩) q⟩, PI.weak (pi_range1 hg hm ha.pa hs) fun pins s σ H Rr I ⟨ι, env, S, at0, q⟩ => ⟨ι, env, S, at0, ha.mono.go (fun ds S1 ⟨j, a, b, c, z⟩ vs H1 ι1 g1 s1 r1 => ?_) q⟩⟩
  subst a
  obtain ⟨v, rfl, r⟩ := r1.one
  exact ⟨j, by rw [r.int_inv], b, c, z _ H1 ι1 g1 s1 itd_rng⟩
theorem pid_rng2 (hm : X.mg "range" = none) (ha : PAd X g ι0 H0 [e, e2] fa) (hg : Gl X "range" := by rfl) (hs : starEach [e, e2] X.env = [(false, eval e X.env), (false, eval e2 X.env)] := by rfl) (hs2 : starEach [e2] X.env = [(false, eval e2 X.env)] := by rfl) : PId X g ι0 H0 tg (.Call (.Name "range" p) [e, e2] [] pos) (diRng2 fa) := by
  refine ⟨⟨fun hq q => ha.mono.go (fun _ _ ⟨i, j, a, b, z⟩ => ⟨i, j, a, b, hq _ _ _ z⟩) q⟩, PI.weak (pi_range2 hg hm ha.pa hs hs2) fun pins s σ H Rr I ⟨ι, env, S, at0, q⟩ => ⟨ι, env, S, at0, ha.mono.go (fun ds S1 ⟨i, j, a, b, z⟩ vs H1 ι1 g1 s1 r1 => ?_) q⟩⟩
  subst a
  obtain ⟨v, w, rfl, r, r2⟩ := r1.two
  exact ⟨i, j, by rw [r.int_inv, r2.int_inv], b, z _ H1 ι1 g1 s1 itd_rng⟩
theorem pid_zip {elts : List Expr} {kk : Nat} (hm : X.mg "zip" = none) (ha : PAd X g ι0 H0 [e, e2] fa) (hg : Gl X "zip" := by rfl) (hs : starEach [e, e2] X.env = (false, eval e X.env) :: starEach [e2] X.env := by rfl) (hpl : (backTo pos (starEach [e2] X.env)).any (·.1) = false := by rfl) :
    PId X g ι0 H0 (.Tuple elts kk tpos) (.Call (.Name "zip" p) [e, e2] [] pos) (diZip fa) := by
  refine ⟨⟨fun hq q => ha.mono.go (fun _ _ ⟨d, e, xs, ys, a, b, c, k, z⟩ => ⟨d, e, xs, ys, a, b, c, k, hq _ _ _ z⟩) q⟩, PI.weak (RZ.pi_zipA hg hm ha.pa hs hpl) fun pins s σ H Rr I ⟨ι, env, S, at0, q⟩ => ⟨ι, env, S, at0, ha.mono.go (fun ds S1 ⟨d, e, xs, ys, a, b, c, k, z⟩ vs H1 ι1 g1 s1 r1 => ?_) q⟩⟩
  subst a
  obtain ⟨v, w, rfl, r, r2⟩ := r1.two
  rcases k with ⟨xa, ya, rfl, rfl⟩ | ⟨xa, ya, h1, h2⟩
  · have b' : some xa = some xs := b
    have c' : some ya = some ys := c
    cases b'; cases c'
    obtain ⟨p1, us, rfl, t1, rl1⟩ := r.tup_inv
    obtain ⟨p2, ws, rfl, t2, rl2⟩ := r2.tup_inv
    refine ⟨p1, p2, us, ws, rfl, .inr ⟨t1, t2, z _ H1 ι1 g1 s1 (itd_zipT fun hid ι H S hh gr s _ => ?_)⟩⟩
    obtain ⟨q1, us', e1, t1', rl1'⟩ := (r.monoH gr hh).tup_inv
    obtain ⟨q2, ws', e2, t2', rl2'⟩ := (r2.monoH gr hh).tup_inv
    cases e1; cases e2
    exact ⟨⟨us', t1', rl1'⟩, ws', t2', rl2'⟩
  · obtain ⟨p1, us, rfl, t1, rl1⟩ := r.seqL s1 h1
    obtain ⟨p2, ws, rfl, t2, rl2⟩ := r2.seqL s1 h2
    have nt1 : ∀ S, sq S d = some xs → sqL S d = some xs := fun S hs => by
      cases d <;> first | exact hs | (simp [sqL] at h1)
    have nt2 : ∀ S, sq S e = some ys → sqL S e = some ys := fun S hs => by
      cases e <;> first | exact hs | (simp [sqL] at h2)
    refine ⟨p1, p2, us, ws, rfl, .inl ⟨.of t1, .of t2, z _ H1 ι1 g1 s1 (itd_zipL fun hid ι H S hh gr s ok => ?_)⟩⟩
    obtain ⟨q1, us', e1, t1', rl1'⟩ := (r.monoH gr hh).seqL s (nt1 S ok.1)
    obtain ⟨q2, ws', e2, t2', rl2'⟩ := (r2.monoH gr hh).seqL s (nt2 S ok.2)
    cases e1; cases e2
    exact ⟨⟨us', .of t1', rl1'⟩, ws', .of t2', rl2'⟩
end
end DL
set_option maxHeartbeats 4000000
/-! DL, tenth part: isinstance; own ==, !=; methods of lists. -/
namespace DL
open PySem PySem.Spec L2
/-! ### isinstance -/
/-- a type's name: built in, or an own class -/
inductive Tg where
  | b (n : String) | o (c : String)
  deriving DecidableEq
def tgD (S : Sto) : D → Option Tg
  | .non => some (.b "NoneType")
  | .bl _ => some (.b "bool")
  | .int _ => some (.b "int")
  | .str _ => some (.b "str")
  | .tup _ => some (.b "tuple")
  | .lst _ => some (.b "list")
  | .ref n => match S[n]? with
    | some (.lst _) => some (.b "list")
    | some .well => some (.b "list")
    | some (.inst c _ _) => some (.o c)
    | some (.dic _ _) => some (.b "dict")
    | _ => none
  | .ins c _ => some (.o c)
  | .dic _ _ => some (.b "dict")
  | .scr _ => some (.b "list")
  | _ => none
def tags : List String := ["NoneType", "bool", "int", "str", "tuple", "list", "dict"]
def kinds : List String := ["int", "bool", "tuple", "list", "str"]
/-- what the top has written of the own classes -/
structure OwnK (K : PySem.W.Frag) (g : Gm) (cs : List String) : Prop where
  cl : ∀ c ∈ cs, Cls K (g.ca c)
  ha : ∀ c ∈ cs, PySem.W.findIn K (.ref (g.ca c)) "__class__" = some (some (.builtin "object.__class__"))
  hn : PySem.W.specialIn K (.builtin "object.__class__") "__get__" = some (some (.builtin "getset_descriptor.__get__"))
  ht : PySem.W.takesIn K (.builtin "object.__class__") = some true
  hm : ∀ c ∈ cs, PySem.W.mroIn K (g.ca c) (.type "object") = some true
  kt : ∀ c ∈ cs, ∀ T ∈ kinds, PySem.W.kitOne K (.ref (g.ca c)) (.type T) = some false
  kb : ∀ c ∈ cs, ∀ T ∈ tags, PySem.W.kitOne K (.type T) (.ref (g.ca c)) = some false
  ko : ∀ c ∈ cs, ∀ c' ∈ cs, PySem.W.kitOne K (.ref (g.ca c)) (.ref (g.ca c')) = some (c == c')
theorem OwnK.hide {K : PySem.W.Frag} {g : Gm} {cs : List String} (h : OwnK K g cs) (hid : List Addr) : OwnK K (g.hide hid) cs := ⟨h.cl, h.ha, h.hn, h.ht, h.hm, h.kt, h.kb, h.ko⟩
def Tg.val (g : Gm) : Tg → Value
  | .b n => .type n
  | .o c => .ref (g.ca c)
/-- the type of a value -/
theorem R.tyX {K : PySem.W.Frag} {g : Gm} {cs : List String} (O : OwnK K g cs) {ι : List Addr} {H : Hp} {S : Sto} {v : V} {d : D} {t : Tg} (s : StoR K g ι H S) (r : R K g ι H v d) (h : tgD S d = some t) (ho : ∀ c, t = .o c → c ∈ cs) : TyX K H v (t.val g) ∧ (∀ n, t = .b n → n ∈ tags) := by
  cases r with
  | non => cases h; exact ⟨.base .non, fun n e => by cases e; decide⟩
  | bl b => cases h; exact ⟨.base (.bl b), fun n e => by cases e; decide⟩
  | int i => cases h; exact ⟨.base (.int i), fun n e => by cases e; decide⟩
  | str x => cases h; exact ⟨.base (.str x), fun n e => by cases e; decide⟩
  | adr a => cases h
  | ty n => cases h
  | scr q =>
    cases h
    refine ⟨?_, fun n e => by cases e; decide⟩
    rcases q with ⟨⟨_, q | ⟨o, q⟩⟩, _⟩ | ⟨o, its, n, e, c, _⟩
    · exact .base (.lst q)
    · exact .base (.frz q)
    · exact .kList e c
  | tup f r =>
    cases h
    refine ⟨?_, fun n e => by cases e; decide⟩
    rcases f with ⟨_, q | ⟨o, q⟩⟩
    · exact .base (.tup q)
    · exact .fTuple q
  | tupK a b c d e r => cases h; exact ⟨.kTuple a b, fun n e => by cases e; decide⟩
  | lst n f r => cases h; exact ⟨.base (.lst f.2), fun n e => by cases e; decide⟩
  | ref e =>
    unfold tgD at h
    simp only at h
    split at h
    all_goals (first | cases h | skip)
    all_goals rename_i hs
    all_goals obtain ⟨a, ea, ob⟩ := s.at hs
    all_goals rw [e] at ea
    all_goals cases ea
    · obtain ⟨vs, q, _⟩ := ob
      exact ⟨.base (.lst q), fun n e => by cases e; decide⟩
    · obtain ⟨i, j, k, l, q⟩ := ob
      exact ⟨.base (.lst q), fun n e => by cases e; decide⟩
    · obtain ⟨dx, fs, q, _, _⟩ := ob
      have hc := ho _ rfl
      exact ⟨.base (.ins q (O.cl _ hc) (O.ha _ hc) O.hn O.ht (O.hm _ hc)), fun n e => by cases e⟩
    · obtain ⟨kvs, q, _, _⟩ := ob
      exact ⟨.base (.dK q), fun n e => by cases e; decide⟩
  | ins n q e r =>
    cases h
    have hc := ho _ rfl
    exact ⟨.base (.ins q (O.cl _ hc) (O.ha _ hc) O.hn O.ht (O.hm _ hc)), fun n e => by cases e⟩
  | dic f e r =>
    cases h
    refine ⟨?_, fun n e => by cases e; decide⟩
    rcases f with ⟨_, q | ⟨o, q⟩⟩
    · exact .base (.dK q)
    · exact .fDict q
theorem kit_tab : ∀ t ∈ tags, ∀ T ∈ kinds, kitB t T = some (t == T || (t == "bool" && T == "int")) := by decide +kernel
/-- one class: is a t a c? -/
def isTg : Tg → Tg → Bool
  | .b t, .b T => t == T || (t == "bool" && T == "int")
  | .o c, .o c' => c == c'
  | _, _ => false
def okTg (cs : List String) : Tg → Bool
  | .b T => kinds.contains T
  | .o c => cs.contains c
theorem kit_tg {K : PySem.W.Frag} {g : Gm} {cs : List String} (O : OwnK K g cs) {t c : Tg} (h1 : ∀ n, t = .b n → n ∈ tags) (h2 : ∀ c, t = .o c → c ∈ cs) (h3 : okTg cs c = true) : PySem.W.kitOne K (t.val g) (c.val g) = some (isTg t c) := by
  cases t with
  | b t =>
    cases c with
    | b T => exact kit_ty (kit_tab t (h1 _ rfl) T (by simpa [okTg] using h3))
    | o c => exact O.kb c (by simpa [okTg] using h3) t (h1 _ rfl)
  | o t =>
    cases c with
    | b T => exact O.kt t (h2 _ rfl) T (by simpa [okTg] using h3)
    | o c => exact O.ko t (h2 _ rfl) c (by simpa [okTg] using h3)
/-- the types of which a value may be -/
def tgIn (cs : List String) (S : Sto) (d : D) : Option Tg := (tgD S d).filter fun t => match t with
  | .b _ => true
  | .o c => cs.contains c
theorem tgIn_of {cs : List String} {S : Sto} {d : D} {t : Tg} (h : tgIn cs S d = some t) : tgD S d = some t ∧ ∀ c, t = .o c → c ∈ cs := by
  unfold tgIn at h
  rw [Option.filter_eq_some_iff] at h
  refine ⟨h.1, fun c e => ?_⟩
  subst e
  simpa using h.2
def dIsi (cs : List String) (T : Tg) (f : DE) : DE := fun env S Q => f env S fun d S1 => ∃ t, tgIn cs S1 d = some t ∧ Q (.bl (isTg t T)) S1
def dIsiT (cs : List String) (Ts : List Tg) (f : DE) : DE := fun env S Q => f env S fun d S1 => ∃ t, tgIn cs S1 d = some t ∧ Q (.bl (Ts.any (isTg t))) S1
/-- a class by its name -/
inductive CN (X : Cx) (g : Gm) (n : Str) : Tg → Prop where
  | b {T : String} (hm : X.mg n = none) (hv : bootBuiltins n = some (.type T)) (hn : n ≠ "__name__") : CN X g n (.b T)
  | o {c : String} (hm : X.mg n = some (.ref (g.ca c))) : CN X g n (.o c)
def Tg.vv (g : Gm) : Tg → V
  | .b n => .ty n
  | .o c => .ref (g.ca c)
theorem Tg.cv {g : Gm} (t : Tg) : ClsV (t.vv g) (t.val g) := by
  cases t with
  | b n => exact .ty n
  | o c => exact .own _
theorem boot_isi : bootBuiltins "isinstance" = some (.builtin "isinstance") := by decide +kernel
section
variable {X : Cx} {g : Gm} {ι0 : List Addr} {H0 : Hp} {e : Expr} {f : DE} {p p2 p3 pos : Pos} {n : Str} {cs : List String} {T : Tg}
theorem CN.pe (h : CN X g n T) (hg : Gl X n := by rfl) (hd : (n == ("__debug__" : Str)) = false := by decide) : PE X (.Name n p) (tC (T.vv g)) := by
  cases h with
  | b hm hv hn => exact pe_bltn hg hm hv rfl hn hd
  | o hm => exact pe_glob hg hm rfl hd
theorem ped_isi (O : OwnK X.K g cs) (he : PEd X g ι0 H0 e f) (hc : CN X g n T) (hm : X.mg "isinstance" = none) (hT : okTg cs T = true := by decide) (hgi : Gl X "isinstance" := by rfl) (hg : Gl X n := by rfl) (hd : (n == ("__debug__" : Str)) = false := by decide)
    (h1 : starEach [e, .Name n p2] X.env = (false, eval e X.env) :: starEach [.Name n p2] X.env := by rfl) (hpl : (backTo pos (starEach [.Name n p2] X.env)).any (·.1) = false := by rfl) :
    PEd X g ι0 H0 (.Call (.Name "isinstance" p) [e, .Name n p2] [] pos) (dIsi cs T f) := by
  refine ⟨⟨fun hq q => he.mono.go (fun _ _ ⟨t, a, z⟩ => ⟨t, a, hq _ _ z⟩) q⟩, PE.weak (pe_callB call_isi hgi hm boot_isi (pa_cons he.pe (pa_cons (hc.pe hg hd) pa_nil rfl) h1) (by decide) (by decide) h1 hpl) fun _ _ σ H Q _ ⟨ι, env, S, at0, q⟩ => ?_⟩
  refine ⟨ι, env, S, at0, he.mono.go (fun d S1 ⟨t, a, z⟩ v H1 ι1 g1 s1 r1 => ?_) q⟩
  obtain ⟨a, b⟩ := tgIn_of a
  obtain ⟨x, y⟩ := r1.tyX O s1 a b
  exact ⟨v, T.vv g, _, _, isTg t T, rfl, T.cv, x, kit_tg O y b hT, z _ H1 ι1 g1 s1 (.bl _)⟩
/-- isinstance(e, (T1, T2)) -/
theorem ped_isiT2 {n1 n2 : Str} {T1 T2 : Tg} {kk : Nat} {p4 : Pos} (O : OwnK X.K g cs) (he : PEd X g ι0 H0 e f) (hc1 : CN X g n1 T1) (hc2 : CN X g n2 T2) (hm : X.mg "isinstance" = none) (hT1 : okTg cs T1 = true := by decide) (hT2 : okTg cs T2 = true := by decide) (hgi : Gl X "isinstance" := by rfl) (hg1 : Gl X n1 := by rfl) (hd1 : (n1 == ("__debug__" : Str)) = false := by decide)
    (hg2 : Gl X n2 := by rfl) (hd2 : (n2 == ("__debug__" : Str)) = false := by decide)
    (h1 : starEach [e, .Tuple [.Name n1 p2, .Name n2 p3] kk p4] X.env = (false, eval e X.env) :: starEach [.Tuple [.Name n1 p2, .Name n2 p3] kk p4] X.env := by rfl) (hpl : (backTo pos (starEach [.Tuple [.Name n1 p2, .Name n2 p3] kk p4] X.env)).any (·.1) = false := by rfl) :
    PEd X g ι0 H0 (.Call (.Name "isinstance" p) [e, .Tuple [.Name n1 p2, .Name n2 p3] kk p4] [] pos) (dIsiT cs [T1, T2] f) := by
  refine ⟨⟨fun hq q => he.mono.go (fun _ _ ⟨t, a, z⟩ => ⟨t, a, hq _ _ z⟩) q⟩, PE.weak (pe_callB call_isiT hgi hm boot_isi (pa_cons he.pe (pa_cons (pe_tup (pa_cons (hc1.pe hg1 hd1) (pa_cons (hc2.pe hg2 hd2) pa_nil rfl) rfl)) pa_nil rfl) h1) (by decide) (by decide) h1 hpl) fun _ _ σ H Q _ ⟨ι, env, S, at0, q⟩ => ?_⟩
  refine ⟨ι, env, S, at0, he.mono.go (fun d S1 ⟨t, a, z⟩ v H1 ι1 g1 s1 r1 => ?_) q⟩
  obtain ⟨a, b⟩ := tgIn_of a
  refine ⟨(by show 2 ≤ sizeLine; decide), fun tp htp => ?_⟩
  have gn := grow_new (ι := ι1) (u := .tup [T1.vv g, T2.vv g]) htp
  have sn := s1.new (u := .tup [T1.vv g, T2.vv g]) htp
  obtain ⟨x, y⟩ := (r1.mono gn).tyX O sn a b
  refine ⟨v, tp, [T1.vv g, T2.vv g], _, [T1.val g, T2.val g], [T1, T2].any (isTg t), rfl, upd_same, .cons T1.cv (.cons T2.cv .nil), x, ?_, ?_⟩
  · refine kitAny_cons (kit_tg O y b hT1) (fun h => kitAny_cons (kit_tg O y b hT2) (fun h2 => ?_) fun h2 => ?_) fun h => ?_
    · rw [show [T1, T2].any (isTg t) = false from by simp [h, h2]]; exact kitAny_nil
    · simp [h, h2]
    · simp [h]
  · exact z _ _ ι1 (g1.trans gn s1.there) sn (.bl _)
end
end DL
set_option maxHeartbeats 4000000
/-! DL, eleventh part: own ==, !=. -/
namespace DLraw
open PySem PySem.Spec PyProof.Rows
section
variable {prog : Program} {w : World} {A : Around} {E : Value → Shared → Prop} {s : Shared} {K : PySem.W.Frag} {x C f : Addr} {ox : Obj} {od : Option Obj} {b : Value}
theorem neEntry (hu : A.units < cLine) {Q : Fin → Shared → Prop} (X : K.In s.heap) (I : PySem.W.InstAt s.heap x ox C od) (hs : PySem.W.findIn K (.ref C) "__eq__" = some (some (.ref f))) (hf : PySem.W.isFn K (.ref f) = true)
    (hcall : wpAny (model prog w) A (call (.ref f) [.ref x, b]) (fun v s' => ∃ r, v = .bool r ∧ Q (.done (.ret (.bool (!r)))) s') E s) :
    wpAny (model prog w) A (Builtin.«object.__ne__» ⟨[.ref x, b], []⟩) Q E s := by
  unfold Builtin.«object.__ne__»
  repeat (first
    | with_reducible refine wpAny_cRoomFor hu ?_
    | (refine wpAny_bind (m := callSpecialIfBound? (.ref x) (Str.ofString "__eq__") [b])
        (PySem.W.ifBound_K X I hs hf (wpAny_mono hcall (fun r s' hr => by
          obtain ⟨b, rfl, hq⟩ := hr
          repeat (first | exact hq | exact wpAny_pure hq | exact wpAny_truthy_bool hq | (refine wpAny_bind (m := truthy (.bool _)) (wpAny_truthy_bool ?_)) | wp_step)) fun _ _ e => e)))
    | wp_step)
theorem call_ne (hu : A.units + 1 < cLine) {Q : Value → Shared → Prop} (X : K.In s.heap) (I : PySem.W.InstAt s.heap x ox C od) (hm : PySem.W.mroIn K C (.type "object") = some true) (hs : PySem.W.findIn K (.ref C) "__eq__" = some (some (.ref f))) (hf : PySem.W.isFn K (.ref f) = true)
    (hcall : wpAny (model prog w) A.in1 (call (.ref f) [.ref x, b]) (fun v s' => ∃ r, v = .bool r ∧ Q (.bool (!r)) s') E s) :
    wpAny (model prog w) A (call (.builtin "object.__ne__") [.ref x, b]) Q E s :=
  wpAny_call (codeAny_call_builtin F.cmp_object.ne.plain F.cmpEntry_ne (PySem.W.check_slot F.cmpKind_ne F.cmpSplit_ne (I.type.andThen (PySem.W.looks_mroIn X hm)) (F.cmpArgs_ne _ _) (neEntry (A := A.in1) hu X I hs hf hcall)))
theorem ifBound_ne {M : Model} {args : List Value} {Q : Option Value → Shared → Prop} (X : K.In s.heap) (I : PySem.W.InstAt s.heap x ox C od) (hs : PySem.W.findIn K (.ref C) "__ne__" = some (some (.builtin "object.__ne__")))
    (h : wpAny M A (call (.builtin "object.__ne__") (.ref x :: args)) (fun v => Q (some v)) E s) : wpAny M A (callSpecialIfBound? (.ref x) "__ne__" args) Q E s := by
  simp only [callSpecialIfBound?, bindSpecialIfBound?]
  refine wpAny_holding (wpAny_bind (wpAny_bind (wpAny_bind (I.type.here ((PySem.W.looks_findIn X hs).here ?_)))))
  refine wpAny_bind (wpAny_askSetting (wpAny_ite ?_))
  have fin : wpAny M A (call (.builtin "object.__ne__") ([.ref x] ++ args) >>= fun v => pure (some v)) Q E s := wpAny_bind (wpAny_mono h (fun v s' h' => wpAny_pure h') fun _ _ h' => h')
  split
  · exact wpAny_bind (wpAny_of_eq (F.cmp_object.ne.bind _) (wpAny_pure (by exact fin)))
  · exact wpAny_tryCatch (wpAny_bind (wpAny_of_eq (F.cmp_object.ne.bind _) (wpAny_pure (by exact fin))))
theorem rc_ne {tb : Value} {Q : Value → Shared → Prop} (hu : A.units + 1 < cLine) (X : K.In s.heap) (I : PySem.W.InstAt s.heap x ox C od) (hm : PySem.W.mroIn K C (.type "object") = some true) (hs : PySem.W.findIn K (.ref C) "__eq__" = some (some (.ref f))) (hf : PySem.W.isFn K (.ref f) = true)
    (hne : PySem.W.findIn K (.ref C) "__ne__" = some (some (.builtin "object.__ne__"))) (hb : PySem.W.Looks (model prog w) s.heap (typeOf b) tb) (hn : PySem.W.notFirst K C tb = true)
    (hcall : wpAny (model prog w) A.in1 (call (.ref f) [.ref x, b]) (fun v s' => ∃ r, v = .bool r ∧ Q (.bool (!r)) s') E s) : wpAny (model prog w) A (richCompare .NotEq (.ref x) b) Q E s := by
  have one : wpAny (model prog w) A (tryCompare (.ref x) "__ne__" b) (fun r s' => ∃ v, r = some v ∧ Q v s') E s := by
    unfold tryCompare
    refine wpAny_bind (ifBound_ne X I hne (call_ne hu X I hm hs hf (wpAny_mono hcall (fun v s' hv => ?_) fun _ _ e => e)))
    obtain ⟨r, rfl, q⟩ := hv
    exact ⟨r, rfl, wpAny_pure ⟨_, rfl, q⟩⟩
  unfold richCompare
  simp only [oneThing_ref, cmpInfo_NotEq]
  refine wpAny_holding (wpAny_bind (wpAny_cRoomFor (Nat.lt_of_succ_lt hu) ?_))
  refine wpAny_bind (I.type.here (wpAny_bind (hb.here ?_)))
  split
  · rename_i q
    have e : PySem.W.subIn K tb (.ref C) = some false := by
      rcases Bool.or_eq_true_iff.mp hn with e | e
      · rw [beq_iff_eq.mp e] at q; simp at q
      · exact beq_iff_eq.mp e
    refine wpAny_bind ((PySem.W.looks_subIn X e).here ?_)
    simp only [Bool.false_eq_true, if_false]
    refine wpAny_bind (wpAny_mono one (fun r s' z => ?_) fun _ _ e => e)
    obtain ⟨v, rfl, hq⟩ := z
    exact wpAny_pure hq
  · refine wpAny_bind (wpAny_pure ?_)
    simp only [Bool.false_eq_true, if_false]
    refine wpAny_bind (wpAny_mono one (fun r s' z => ?_) fun _ _ e => e)
    obtain ⟨v, rfl, hq⟩ := z
    exact wpAny_pure hq
end
end DLraw
namespace DL
open PySem PySem.Spec L2
/-- the class c, whose __eq__ keeps Φ -/
structure EqC (P : Program) (w : World) (K : PySem.W.Frag) (mg : Str → Option Value) (base : Heap) (g : Gm) (c : String) (k : Nat) (Φ : DP) : Prop where
  mo : MoP Φ
  ne : PySem.W.findIn K (.ref (g.ca c)) "__ne__" = some (some (.builtin "object.__ne__"))
  ex : ∃ f fd ps, PySem.W.findIn K (.ref (g.ca c)) "__eq__" = some (some (.ref f)) ∧ PySem.W.isFn K (.ref f) = true ∧ Binds K fd ps [] ∧ ∀ hid, FnOk P w K mg base (L2N.CX P w) k f fd ps (lSp K (g.hide hid) Φ)
theorem EqC.hide {P : Program} {w : World} {K : PySem.W.Frag} {mg : Str → Option Value} {base : Heap} {g : Gm} {c : String} {k : Nat} {Φ : DP} (F : EqC P w K mg base g c k Φ) (hid : List Addr) : EqC P w K mg base (g.hide hid) c k Φ := by
  obtain ⟨mo, nm, f, fd, ps, a, b, c, d⟩ := F
  exact ⟨mo, nm, f, fd, ps, a, b, c, fun hid' => d hid'⟩
theorem EqC.up {P : Program} {w : World} {K : PySem.W.Frag} {mg : Str → Option Value} {base : Heap} {g : Gm} {c : String} {k j : Nat} {Φ : DP} (F : EqC P w K mg base g c k Φ) (h : k ≤ j) : EqC P w K mg base g c j Φ := by
  obtain ⟨mo, nm, f, fd, ps, a, b, c, d⟩ := F
  exact ⟨mo, nm, f, fd, ps, a, b, c, fun hid' => (d hid').mono h⟩
/-- the two ops, by what __eq__ promises -/
def rOwn (K : PySem.W.Frag) (g : Gm) (c : String) (Φ : DP) (nt : Bool) : R2 := fun x y H Q => ∃ a dx fs t, x = .ref a ∧ H a = some (.ins (g.ca c) dx fs) ∧ TyX K H y t ∧ PySem.W.notFirst K (g.ca c) t = true ∧
  lSp K g Φ [x, y] H (fun v H' => ∃ b, v = .bl b ∧ Q (.bl (b != nt)) H') fun _ _ _ => False
theorem kitOne_sub {K : PySem.W.Frag} {t : Value} {C : Addr} (h : PySem.W.kitOne K t (.ref C) = some false) : PySem.W.subIn K t (.ref C) = some false := by
  unfold PySem.W.kitOne at h
  by_cases z0 : (t == .ref C) = true
  · rw [if_pos z0] at h; cases h
  · rw [if_neg z0] at h
    have h : (if ((PySem.W.clsIn K C).isSome && PySem.W.typeIn K (.ref C) == some (.type "type")) = true then PySem.W.subIn K t (.ref C) else none) = some false := h
    · by_cases z : ((PySem.W.clsIn K C).isSome && PySem.W.typeIn K (.ref C) == some (.type "type")) = true
      · rw [if_pos z] at h; exact h
      · rw [if_neg z] at h; cases h
section
variable {X : Cx} {g : Gm} {c : String} {k : Nat} {Φ : DP} {cs : List String}
theorem own_run {A : Around} {pins : List (Addr × Obj)} {σ : L2.St} {H : Hp} {s : Shared} {Q : Bool → Hp → Prop} {f : Addr} {fd : FuncData} {ps : List Str} {a : Addr} {y : V} {v : Value} (hA : Room k A) (hfr : A.frames = X.A.frames) (F : FnOk X.prog X.w X.K X.mg X.base (L2N.CX X.prog X.w) k f fd ps (lSp X.K g Φ)) (hb : Binds X.K fd ps [])
    (I : Inv X pins σ H s) (ry : RelV y v) (h : lSp X.K g Φ [.ref a, y] H (fun v H' => ∃ b, v = .bl b ∧ Q b H') fun _ _ _ => False) :
    wpAny (model X.prog X.w) A (call (.ref f) [.ref a, v]) (fun u s' => ∃ b H', u = .bool b ∧ Inv X pins σ H' s' ∧ Q b H') X.xe s := by
  have e0 : Env0 X.prog X.w X.K X.mg X.base A X.stack s H := by
    have e := I.env0
    exact ⟨by rw [hfr]; exact e.frames, e.mod, e.bs, e.bsz, e.funs, e.frf, e.hok, e.bare⟩
  have hl := F.len _ _ _ _ h
  have r2 : Vals [V.ref a, y] [Value.ref a, v] := .cons rfl (.cons ry .nil)
  refine wpAny_call (codeAny_mono (F.run A X.stack s H ⟨[.ref a, v], []⟩ [.ref a, v] [.ref a, y] _ _ hA e0 (by
    have := hb s [.ref a, v] I.kIn (by simpa using hl)
    simpa using this) r2 h) fun r s' hq => ?_)
  cases r with
  | error e => exact L2N.passAt (X := X) takes0N σ pins H s e s' I hq
  | ok fl =>
    cases fl with
    | ret w =>
      obtain ⟨z, H', I', rz, b, ez, q⟩ := I.after hq
      subst ez
      exact ⟨b, H', rz, I', q⟩
    | next => exact False.elim hq
    | brk => exact False.elim hq
    | cont => exact False.elim hq
theorem op_own {k' : Nat} (hk : k + 1 ≤ k') (F : EqC X.prog X.w X.K X.mg X.base g c k Φ) (ho : PySem.W.mroIn X.K (g.ca c) (.type "object") = some true) (hr : Room k' X.A) (nt : Bool) : OpR X (compareOp (if nt then .NotEq else .Eq)) (rOwn X.K g c Φ nt) := by
  intro pins s σ H x y v u Q I rx ry h
  obtain ⟨mo, ne, f, fd, ps, hs, hf, hb, ok⟩ := F
  obtain ⟨a, dx, fs, t, rfl, ha, ty, hn, h⟩ := h
  cases (show v = Value.ref a from rx)
  obtain ⟨mA, J, _⟩ := ins_get I.hok ha
  obtain ⟨od, J, _⟩ := J.look
  obtain ⟨m, hF⟩ := I.fr
  obtain ⟨P, Z, p, hx⟩ := kit_of I ry ty
  have hr1 := hr.mono hk
  cases nt with
  | false =>
    show wpAny (model X.prog X.w) X.A (richCompare .Eq (.ref a) u) (EP X pins σ Q) X.xe s
    refine PySem.W.cmp_K (op := .Eq) hr.units0 hF I.ok.mod.kin J (Z.ty _ _ I.kIn p) hn hs hf ?_
    refine wpAny_mono (own_run (hr1.mono (Nat.le_succ _)) rfl (ok g.hid) hb I ry h) (fun r s' z => ?_) fun _ _ x => x
    obtain ⟨b, H', rfl, I', q⟩ := z
    exact ⟨.bl b, H', I', rfl, by simpa using q⟩
  | true =>
    show wpAny (model X.prog X.w) X.A (richCompare .NotEq (.ref a) u) (EP X pins σ Q) X.xe s
    refine DLraw.rc_ne (by have := hr.un; omega) I.kIn J ho hs hf ne (Z.ty _ _ I.kIn p) hn ?_
    refine wpAny_mono (own_run (A := X.A.in1) hr1.in1 rfl (ok g.hid) hb I ry h) (fun r s' z => ?_) fun _ _ x => x
    obtain ⟨b, H', rfl, I', q⟩ := z
    exact ⟨b, rfl, .bl (!b), H', I', rfl, by simpa using q⟩
def dOwn (cs : List String) (c : String) (Φ : DP) (nt : Bool) : D2 := fun x y S Q => tgD S x = some (.o c) ∧ (∃ t, tgIn cs S y = some t) ∧ Φ [x, y] S (fun d S' => ∃ b, d = .bl b ∧ Q (.bl (b != nt)) S') fun _ _ _ => False
theorem R.insD {K : PySem.W.Frag} {ι : List Addr} {H : Hp} {S : Sto} {v : V} {d : D} {c : String} (s : StoR K g ι H S) (r : R K g ι H v d) (h : tgD S d = some (.o c)) : ∃ a dx fs, v = .ref a ∧ H a = some (.ins (g.ca c) dx fs) := by
  cases r with
  | ref e =>
    unfold tgD at h
    simp only at h
    split at h
    all_goals (first | cases h | skip)
    rename_i hs
    obtain ⟨a, ea, dx, fs, q, _⟩ := s.at hs
    rw [e] at ea
    cases ea
    exact ⟨_, dx, fs, rfl, q⟩
  | ins n q e r => cases h; exact ⟨_, _, _, rfl, q⟩
  | _ => cases h
theorem kitOne_not {K : PySem.W.Frag} {t : Value} {C : Addr} {r : Bool} (h : PySem.W.kitOne K t (.ref C) = some r) (hr : r = true → t = .ref C) : PySem.W.notFirst K C t = true := by
  unfold PySem.W.notFirst
  cases r with
  | true => rw [hr rfl]; simp
  | false => rw [kitOne_sub h]; simp
theorem lk_own {K : PySem.W.Frag} (O : OwnK K g cs) (hc : c ∈ cs) (mo : MoP Φ) (nt : Bool) : Lk2 K g (dOwn cs c Φ nt) (rOwn K g c Φ nt) := by
  refine ⟨⟨fun hq ⟨a, b, q⟩ => ⟨a, b, mo.go (fun _ _ ⟨k, e, z⟩ => ⟨k, e, hq _ _ z⟩) (fun _ _ _ z => z) q⟩⟩, fun {ι H S x y dx dy Q} s rx ry ⟨a, ⟨t, b⟩, q⟩ => ?_⟩
  obtain ⟨p, dd, fs, rfl, hp⟩ := rx.insD s a
  obtain ⟨b1, b2⟩ := tgIn_of b
  obtain ⟨ty, b3⟩ := ry.tyX O s b1 b2
  refine ⟨p, dd, fs, _, rfl, hp, ty, ?_, ι, S, [dx, dy], s, .cons rx (.cons ry .nil), mo.go (fun d S' ⟨k, e, z⟩ v H' ι' g' s' r' => ?_) (fun _ _ _ z => z.elim) q⟩
  · cases t with
    | b t => exact kitOne_not (O.kb c hc t (b3 _ rfl)) fun z => nomatch z
    | o c' => exact kitOne_not (O.ko c' (b2 _ rfl) c hc) fun z => by rw [beq_iff_eq] at z; rw [z]; rfl
  · subst e
    exact ⟨k, r'.bl_inv, z _ H' ι' g' s' (.bl _)⟩
end
end DL
set_option maxHeartbeats 4000000
/-! DL, twelfth part: methods, calls with keywords, name = [..]. -/
namespace DL
open PySem PySem.Spec L2
open PyProof.Rows (envOfC)
/-! ### methods of lists, texts -/
def tyM (T : String) (S : Sto) : D → Bool
  | .str _ => T == "str"
  | d => T == "list" && (sqL S d).isSome
theorem R.tyM {K : PySem.W.Frag} {g : Gm} {ι : List Addr} {H : Hp} {S : Sto} {v : V} {d : D} {T : String} (s : StoR K g ι H S) (r : R K g ι H v d) (h : DL.tyM T S d = true) : tyV K T v H := by
  unfold DL.tyM at h
  split at h
  · rw [r.str_inv]; exact beq_iff_eq.mp h
  · rw [Bool.and_eq_true, beq_iff_eq] at h
    obtain ⟨rfl, h2⟩ := h
    obtain ⟨xs, e⟩ := Option.isSome_iff_exists.mp h2
    obtain ⟨a, vs, rfl, t, _⟩ := r.seqL s e
    exact .inl ⟨rfl, vs, .of t⟩
/-- a method's reading -/
structure LkT (K : PySem.W.Frag) (g : Gm) (f : DM) (r : V → List V → Hp → VK → Prop) : Prop where
  mono : MoM f
  lk : ∀ {ι : List Addr} {H : Hp} {S : Sto} {o : V} {do_ : D} {x : List V} {dx : List D} {Q : VK}, StoR K g ι H S → R K g ι H o do_ → RL K g ι H x dx → f do_ dx S (lK K g ι H Q) → r o x H Q
theorem LkT.or {K : PySem.W.Frag} {g : Gm} {f f' : DM} {r r' : V → List V → Hp → VK → Prop} (a : LkT K g f r) (b : LkT K g f' r') : LkT K g (fun o x S Q => f o x S Q ∨ f' o x S Q) (fun o x H Q => r o x H Q ∨ r' o x H Q) :=
  ⟨⟨fun hq q => q.imp (a.mono.go hq) (b.mono.go hq)⟩, fun s ro rx q => q.imp (a.lk s ro rx) (b.lk s ro rx)⟩
def dBM (T : String) (r : DM) (fo : DE) (fa : DA) : DE := fun env S Q => fo env S fun o S1 => tyM T S1 o = true ∧ fa env S1 fun xs S2 => r o xs S2 Q
section
variable {X : Cx} {g : Gm} {ι0 : List Addr} {H0 : Hp} {o e : Expr} {es : List Expr} {fo : DE} {fa : DA} {name : Str} {apos cpos : Pos} {T id : String} {r : V → List V → Hp → VK → Prop} {d : DM}
theorem ped_bm (pa : PlainAttrs T) (slot : Slot T name id) (hty : typeOf (.builtin id) = pure (.type "method_descriptor")) (hm : MtR X id r) (lk : LkT X.K g d r) (ho : PEd X g ι0 H0 o fo) (ha : PAd X g ι0 H0 (e :: es) fa)
    (hbase : attributeBase o name X.env (eval o X.env) = eval o X.env := by rfl)
    (hfew : ((backTo cpos (starEach (e :: es) X.env)).all (fun x => !x.1) && (backToKw cpos (keywordEach [] X.env)).all (fun x => x.1.isSome)
      && decide ((e :: es).length + ([] : List Keyword).length + (if ([] : List Keyword).isEmpty then 0 else 1) < 30)) = true := by rfl)
    (hline : (apos.endLine == cpos.line) = true := by rfl) (hs : starEach (e :: es) X.env = (false, eval e X.env) :: starEach es X.env := by rfl) (hplain : (backTo cpos (starEach es X.env)).any (·.1) = false := by rfl) :
    PEd X g ι0 H0 (.Call (.Attribute o name apos) (e :: es) [] cpos) (dBM T d fo fa) :=
  ⟨⟨fun hq q => ho.mono.go (fun _ _ ⟨t, q1⟩ => ⟨t, ha.mono.go (fun _ _ q2 => lk.mono.go hq q2) q1⟩) q⟩, PE.weak (pe_bm pa slot hty hm ho.pe ha.pa hbase hfew hline hs hplain) fun _ _ σ H Q _ ⟨ι, env, S, at0, q⟩ => ⟨ι, env, S, at0,
    ho.mono.go (fun x S1 ⟨t, q1⟩ v H1 ι1 g1 s1 r1 => ⟨r1.tyM s1 t, ι1, env, S1, at0.on g1 s1, ha.mono.go (fun xs S2 q2 vs H2 ι2 g2 s2 r2 => lk.lk s2 (r1.mono g2) r2 (lk.mono.go (fun _ _ kk => lK.on (lK.on kk g1 s1.there) g2 s2.there) q2)) q1⟩) q⟩⟩
theorem ped_bm0 (pa : PlainAttrs T) (slot : Slot T name id) (hty : typeOf (.builtin id) = pure (.type "method_descriptor")) (hm : MtR X id r) (lk : LkT X.K g d r) (ho : PEd X g ι0 H0 o fo)
    (hbase : attributeBase o name X.env (eval o X.env) = eval o X.env := by rfl) (hline : (apos.endLine == cpos.line) = true := by rfl) :
    PEd X g ι0 H0 (.Call (.Attribute o name apos) [] [] cpos) (dBM T d fo dNil) :=
  ⟨⟨fun hq q => ho.mono.go (fun _ _ ⟨t, q1⟩ => ⟨t, lk.mono.go hq q1⟩) q⟩, PE.weak (pe_bm0 pa slot hty hm ho.pe hbase hline) fun _ _ σ H Q _ ⟨ι, env, S, at0, q⟩ => ⟨ι, env, S, at0,
    ho.mono.go (fun x S1 ⟨t, q1⟩ v H1 ι1 g1 s1 r1 => ⟨r1.tyM s1 t, lk.lk s1 r1 .nil (lk.mono.go (fun _ _ kk => lK.on kk g1 s1.there) q1)⟩) q⟩⟩
end
def dAppend : DM := fun o ds S Q => ∃ n xs d, o = .ref n ∧ ds = [d] ∧ S[n]? = some (.lst xs) ∧ xs.length < sizeLine ∧ Q .non (S.set n (.lst (xs ++ [d])))
def dExtend : DM := fun o ds S Q => ∃ n xs d ys, o = .ref n ∧ ds = [d] ∧ S[n]? = some (.lst xs) ∧ sqL S d = some ys ∧ xs.length + ys.length ≤ sizeLine ∧ Q .non (S.set n (.lst (xs ++ ys)))
def dClear : DM := fun o ds S Q => ∃ n xs, o = .ref n ∧ ds = [] ∧ S[n]? = some (.lst xs) ∧ Q .non (S.set n (.lst []))
def dRev : DM := fun o ds S Q => ∃ n xs, o = .ref n ∧ ds = [] ∧ S[n]? = some (.lst xs) ∧ Q .non (S.set n (.lst xs.reverse))
def dPop : DM := fun o ds S Q => ∃ n xs d, o = .ref n ∧ ds = [] ∧ S[n]? = some (.lst xs) ∧ xs[xs.length - 1]? = some d ∧ Q d (S.set n (.lst xs.dropLast))
section
variable {K : PySem.W.Frag} {g : Gm}
theorem RL.reverse {ι : List Addr} {H : Hp} : ∀ {vs : List V} {ds : List D}, RL K g ι H vs ds → RL K g ι H vs.reverse ds.reverse
  | _, _, .nil => .nil
  | _, _, .cons a r => by rw [List.reverse_cons, List.reverse_cons]; exact (RL.reverse r).append (.cons a .nil)
theorem RL.dropLast {ι : List Addr} {H : Hp} : ∀ {vs : List V} {ds : List D}, RL K g ι H vs ds → RL K g ι H vs.dropLast ds.dropLast
  | _, _, .nil => .nil
  | _, _, .cons a .nil => .nil
  | _, _, .cons a (.cons b r) => .cons a (RL.dropLast (.cons b r))
/-- a list of the store is put anew -/
theorem StoR.reput {ι : List Addr} {H : Hp} {S : Sto} {n : Nat} {a : Addr} {ws : List V} {es : List D} (s : StoR K g ι H S) (e : ι[n]? = some a) (rl : RL K g ι H ws es) : Grow ι H ι (upd H a (.lst ws)) ∧ StoR K g ι (upd H a (.lst ws)) (S.set n (.lst es)) :=
  ⟨grow_set e, s.put e ⟨ws, upd_same, rl.mono (grow_set e)⟩⟩
theorem lk_append : LkT K g dAppend rAppend := ⟨⟨fun hq ⟨n, xs, d, a, b, c, e, q⟩ => ⟨n, xs, d, a, b, c, e, hq _ _ q⟩⟩, fun {ι H S o do_ x dx Q} s ro rx ⟨n, xs, d, a, b, c, e, q⟩ => by
  subst a; subst b
  obtain ⟨p, rfl, ep⟩ := ro.ref_inv
  obtain ⟨p', ep', vs, hp, rl⟩ := s.at c
  rw [ep] at ep'; cases ep'
  obtain ⟨v, rfl, r⟩ := rx.one
  obtain ⟨gs, ss⟩ := s.reput ep (rl.append (.cons r .nil))
  exact ⟨p, vs, v, rfl, rfl, hp, by rw [rl.length]; exact e, q _ _ ι gs ss .non⟩⟩
theorem lk_extend : LkT K g dExtend rExtend := ⟨⟨fun hq ⟨n, xs, d, ys, a, b, c, e, f, q⟩ => ⟨n, xs, d, ys, a, b, c, e, f, hq _ _ q⟩⟩, fun {ι H S o do_ x dx Q} s ro rx ⟨n, xs, d, ys, a, b, c, e, f, q⟩ => by
  subst a; subst b
  obtain ⟨p, rfl, ep⟩ := ro.ref_inv
  obtain ⟨p', ep', vs, hp, rl⟩ := s.at c
  rw [ep] at ep'; cases ep'
  obtain ⟨v, rfl, r⟩ := rx.one
  obtain ⟨p2, ws, rfl, h2, rl2⟩ := r.seqL s e
  obtain ⟨gs, ss⟩ := s.reput ep (rl.append rl2)
  exact ⟨p, p2, vs, ws, rfl, rfl, hp, h2, by rw [rl.length, rl2.length]; exact f, q _ _ ι gs ss .non⟩⟩
theorem lk_clear : LkT K g dClear rClear := ⟨⟨fun hq ⟨n, xs, a, b, c, q⟩ => ⟨n, xs, a, b, c, hq _ _ q⟩⟩, fun {ι H S o do_ x dx Q} s ro rx ⟨n, xs, a, b, c, q⟩ => by
  subst a; subst b
  obtain ⟨p, rfl, ep⟩ := ro.ref_inv
  obtain ⟨p', ep', vs, hp, rl⟩ := s.at c
  rw [ep] at ep'; cases ep'
  cases rx
  obtain ⟨gs, ss⟩ := s.reput ep (.nil (K := K) (g := g) (ι := ι) (H := H))
  exact ⟨p, vs, rfl, rfl, hp, q _ _ ι gs ss .non⟩⟩
theorem lk_rev : LkT K g dRev rReverse := ⟨⟨fun hq ⟨n, xs, a, b, c, q⟩ => ⟨n, xs, a, b, c, hq _ _ q⟩⟩, fun {ι H S o do_ x dx Q} s ro rx ⟨n, xs, a, b, c, q⟩ => by
  subst a; subst b
  obtain ⟨p, rfl, ep⟩ := ro.ref_inv
  obtain ⟨p', ep', vs, hp, rl⟩ := s.at c
  rw [ep] at ep'; cases ep'
  cases rx
  obtain ⟨gs, ss⟩ := s.reput ep rl.reverse
  exact ⟨p, vs, rfl, rfl, hp, q _ _ ι gs ss .non⟩⟩
theorem lk_pop : LkT K g dPop rPop := ⟨⟨fun hq ⟨n, xs, d, a, b, c, e, q⟩ => ⟨n, xs, d, a, b, c, e, hq _ _ q⟩⟩, fun {ι H S o do_ x dx Q} s ro rx ⟨n, xs, d, a, b, c, e, q⟩ => by
  subst a; subst b
  obtain ⟨p, rfl, ep⟩ := ro.ref_inv
  obtain ⟨p', ep', vs, hp, rl⟩ := s.at c
  rw [ep] at ep'; cases ep'
  cases rx
  obtain ⟨v, hv, rv⟩ := rl.get e
  obtain ⟨gs, ss⟩ := s.reput ep rl.dropLast
  exact ⟨p, vs, v, rfl, rfl, hp, by rw [rl.length]; exact hv, q _ _ ι gs ss (rv.mono gs)⟩⟩
end
section
variable {X : Cx} {g : Gm} {ι0 : List Addr} {H0 : Hp} {o e : Expr} {es : List Expr} {fo : DE} {fa : DA} {apos cpos : Pos}
theorem ped_append (ho : PEd X g ι0 H0 o fo) (ha : PAd X g ι0 H0 [e] fa) (hbase : attributeBase o "append" X.env (eval o X.env) = eval o X.env := by rfl)
    (hfew : ((backTo cpos (starEach [e] X.env)).all (fun x => !x.1) && (backToKw cpos (keywordEach [] X.env)).all (fun x => x.1.isSome)
      && decide ([e].length + ([] : List Keyword).length + (if ([] : List Keyword).isEmpty then 0 else 1) < 30)) = true := by rfl)
    (hline : (apos.endLine == cpos.line) = true := by rfl) (hs : starEach [e] X.env = (false, eval e X.env) :: starEach [] X.env := by rfl) (hplain : (backTo cpos (starEach [] X.env)).any (·.1) = false := by rfl) :
    PEd X g ι0 H0 (.Call (.Attribute o "append" apos) [e] [] cpos) (dBM "list" dAppend fo fa) := ped_bm PySem.F.plainAttrs_list PySem.F.slot_list_append PySem.F.type_list_append mt_append lk_append ho ha hbase hfew hline hs hplain
theorem ped_extend (ho : PEd X g ι0 H0 o fo) (ha : PAd X g ι0 H0 [e] fa) (hbase : attributeBase o "extend" X.env (eval o X.env) = eval o X.env := by rfl)
    (hfew : ((backTo cpos (starEach [e] X.env)).all (fun x => !x.1) && (backToKw cpos (keywordEach [] X.env)).all (fun x => x.1.isSome)
      && decide ([e].length + ([] : List Keyword).length + (if ([] : List Keyword).isEmpty then 0 else 1) < 30)) = true := by rfl)
    (hline : (apos.endLine == cpos.line) = true := by rfl) (hs : starEach [e] X.env = (false, eval e X.env) :: starEach [] X.env := by rfl) (hplain : (backTo cpos (starEach [] X.env)).any (·.1) = false := by rfl) :
    PEd X g ι0 H0 (.Call (.Attribute o "extend" apos) [e] [] cpos) (dBM "list" dExtend fo fa) := ped_bm PySem.F.plainAttrs_list PySem.F.slot_list_extend PySem.F.type_list_extend mt_extend lk_extend ho ha hbase hfew hline hs hplain
theorem ped_clear (ho : PEd X g ι0 H0 o fo) (hbase : attributeBase o "clear" X.env (eval o X.env) = eval o X.env := by rfl) (hline : (apos.endLine == cpos.line) = true := by rfl) :
    PEd X g ι0 H0 (.Call (.Attribute o "clear" apos) [] [] cpos) (dBM "list" dClear fo dNil) := ped_bm0 PySem.F.plainAttrs_list PySem.F.slot_list_clear PySem.F.type_list_clear mt_clear lk_clear ho hbase hline
theorem ped_reverse (ho : PEd X g ι0 H0 o fo) (hbase : attributeBase o "reverse" X.env (eval o X.env) = eval o X.env := by rfl) (hline : (apos.endLine == cpos.line) = true := by rfl) :
    PEd X g ι0 H0 (.Call (.Attribute o "reverse" apos) [] [] cpos) (dBM "list" dRev fo dNil) := ped_bm0 PySem.F.plainAttrs_list PySem.F.slot_list_reverse PySem.F.type_list_reverse mt_reverse lk_rev ho hbase hline
theorem ped_pop (ho : PEd X g ι0 H0 o fo) (hbase : attributeBase o "pop" X.env (eval o X.env) = eval o X.env := by rfl) (hline : (apos.endLine == cpos.line) = true := by rfl) :
    PEd X g ι0 H0 (.Call (.Attribute o "pop" apos) [] [] cpos) (dBM "list" dPop fo dNil) := ped_bm0 PySem.F.plainAttrs_list PySem.F.slot_list_pop PySem.F.type_list_pop mt_pop lk_pop ho hbase hline
end
/-! ### a def's body, by its promise, without its name -/
section
variable {P : Program} {w : World} {K : PySem.W.Frag} {mg : Str → Option Value} {base : Heap} {g : Gm}
theorem fnok_of {n qual : Str} {st : Stmt} {f : Addr} {fd : FuncData} {N ps : List Str} {k : Nat} {Φ : DP} {t : XD → DS} (F : Fun K n qual st f fd) (Sc : FnScope N ps (defScope st))
    (hlen : ∀ ds S Q E, Φ ds S Q E → ds.length = ps.length)
    (hb : ∀ (cdv : Value) (A : Around) (outer : List Env) (s : Shared) (H : Hp) (E : XK) (hid ι0 : List Addr) (H0 : Hp) (W : XD), Room k (A.deeper (envOfC qual (defScope st) s.heap.objs.size f cdv)) →
      Tk (cxOf (L2N.CX P w) P w K mg base N qual (defScope st) f cdv A outer s H E) (g.hide hid) ι0 H0 W →
      PSsd (cxOf (L2N.CX P w) P w K mg base N qual (defScope st) f cdv A outer s H E) (g.hide hid) ι0 H0 (defBody st) (t W))
    (sem : ∀ ds S Q E, Φ ds S Q E → t (wishOf g.fo S E) (endsOf g.fo S Q) (startD N.length ds) S) (hid : List Addr) : FnOk P w K mg base (L2N.CX P w) (k + 1) f fd ps (lSp K (g.hide hid) Φ) := by
  refine F.okN Sc (fun vs H Q E h => ?_) fun cdv A outer s H vs Q E hr h => ?_
  · obtain ⟨ι, S, ds, s, r, h⟩ := h
    rw [r.length]; exact hlen _ _ _ _ h
  · obtain ⟨ι, S, ds, s0, r, h⟩ := h
    have tk := tk_start (X := cxOf (L2N.CX P w) P w K mg base N qual (defScope st) f cdv A outer s H E) (E := E) s0 (L2N.takes_of rfl rfl rfl rfl)
    have d := hb cdv A outer s H E hid ι H _ hr tk
    refine ⟨_, d.ps, body_run rfl s0 r d ?_⟩
    have q := sem _ _ _ _ h
    exact q
end
/-! ### calls with keywords alone -/
def permL {α : Type} (ix : List Nat) (zs : List α) : List α := ix.filterMap (zs[·]?)
theorem RL.permL {K : PySem.W.Frag} {g : Gm} {ι : List Addr} {H : Hp} {vs : List V} {ds : List D} (r : RL K g ι H vs ds) : ∀ ix : List Nat, RL K g ι H (DL.permL ix vs) (DL.permL ix ds)
  | [] => .nil
  | i :: ix => by
    unfold DL.permL
    rw [List.filterMap_cons, List.filterMap_cons]
    cases e : ds[i]? with
    | none =>
      have : vs[i]? = none := by rw [List.getElem?_eq_none_iff] at e ⊢; rw [r.length]; exact e
      rw [this]
      exact RL.permL r ix
    | some d =>
      obtain ⟨v, hv, rv⟩ := r.get e
      rw [hv]
      exact .cons rv (RL.permL r ix)
theorem Vals.permL {vs : List V} {us : List Value} (r : Vals vs us) : ∀ ix : List Nat, Vals (DL.permL ix vs) (DL.permL ix us)
  | [] => .nil
  | i :: ix => by
    unfold DL.permL
    rw [List.filterMap_cons, List.filterMap_cons]
    cases e : vs[i]? with
    | none =>
      have : us[i]? = none := by rw [List.getElem?_eq_none_iff] at e ⊢; rw [← r.length]; exact e
      rw [this]
      exact Vals.permL r ix
    | some v =>
      obtain ⟨u, hu, ru⟩ := r.get e
      rw [hu]
      exact .cons ru (Vals.permL r ix)
/-- how keywords bind -/
def KwB (K : PySem.W.Frag) (fd : FuncData) (ps : List Str) (n : Nat) (ks : List Str) (ix : List Nat) : Prop := ∀ (s : Shared) (us ws : List Value), K.In s.heap → us.length = n → ws.length = ks.length → BindsTo s fd ⟨us, ks.zip ws⟩ (ps.zip (us ++ permL ix ws))
theorem KwB.kbn {K : PySem.W.Frag} {fd : FuncData} {ps : List Str} {n : Nat} {ks : List Str} {ix : List Nat} (h : KwB K fd ps n ks ix) : KBn K fd ps n ks (fun us ws => us ++ permL ix ws) (fun vs zs => vs ++ permL ix zs) := ⟨h, fun a b => Vals.append a (Vals.permL b ix)⟩
structure PKd (X : Cx) (g : Gm) (ι0 : List Addr) (H0 : Hp) (kws : List Keyword) (fa : DA) : Prop where
  mono : MoA fa
  pk : PK X kws (lA X.K g ι0 H0 fa)
theorem PK.weak {X : Cx} {kws : List Keyword} {t t' : TA} (h : PK X kws t) (hw : ∀ σ H Q, t' σ H Q → t σ H Q) : PK X kws t' := ⟨fun pos pins s σ H Q I q => h.run pos pins s σ H Q I (hw _ _ _ q)⟩
section
variable {X : Cx} {g : Gm} {ι0 : List Addr} {H0 : Hp} {W : XD} {n : Str} {c : String} {k : Nat} {ps ks : List Str} {ix : List Nat} {Φ : DP} {e : Expr} {f : DE} {fa : DA} {p pos kpos : Pos} {kws : List Keyword} {nm : Option Str}
theorem pkd_nil : PKd X g ι0 H0 [] dNil := ⟨⟨fun hq q => hq _ _ q⟩, PK.weak pk_nil fun σ H Q ⟨ι, env, S, at0, q⟩ => q [] H ι Grow.refl at0.st .nil⟩
theorem pkd_cons (ha : PEd X g ι0 H0 e f) (hb : PKd X g ι0 H0 kws fa) : PKd X g ι0 H0 (⟨nm, e, kpos⟩ :: kws) (dCons f fa) :=
  ⟨⟨fun hq q => ha.mono.go (fun _ _ q1 => hb.mono.go (fun _ _ q2 => hq _ _ q2) q1) q⟩, PK.weak (pk_cons ha.pe hb.pk) fun σ H Q ⟨ι, env, S, at0, q⟩ =>
    ⟨ι, env, S, at0, ha.mono.go (fun x S1 k1 v H1 ι1 g1 s1 r1 => ⟨ι1, env, S1, at0.on g1 s1, hb.mono.go (fun xs S2 k2 vs H2 ι2 g2 s2 r2 =>
      k2 (v :: vs) H2 ι2 (g1.trans g2 s1.there) s2 (.cons (r1.mono g2) r2)) k1⟩) q⟩⟩
/-- f(k = v, ..), C(k = v, ..): the def, the class by keywords -/
structure FDK (P : Program) (w : World) (K : PySem.W.Frag) (mg : Str → Option Value) (base : Heap) (g : Gm) (n : Str) (k : Nat) (ps ks : List Str) (ix : List Nat) (Φ : DP) : Prop where
  mo : MoP Φ
  ex : ∃ f fd, mg n = some (.ref f) ∧ PySem.W.keepIn K (.ref f) = true ∧ KwB K fd ps 0 ks ix ∧ ∀ hid, FnOk P w K mg base (L2N.CX P w) k f fd ps (lSp K (g.hide hid) Φ)
structure CDK (P : Program) (w : World) (K : PySem.W.Frag) (mg : Str → Option Value) (base : Heap) (g : Gm) (c : String) (n : Str) (k : Nat) (ps ks : List Str) (ix : List Nat) (Φ : DP) : Prop where
  mo : MoP Φ
  nm : mg n = some (.ref (g.ca c))
  ex : ∃ f fd, Mk K (g.ca c) f ∧ KwB K fd ps 1 ks ix ∧ ∀ hid, FnOk P w K mg base (L2N.CX P w) k f fd ps (lSp K (g.hide hid) Φ)
theorem FDK.hide {P : Program} {w : World} {K : PySem.W.Frag} {mg : Str → Option Value} {base : Heap} (F : FDK P w K mg base g n k ps ks ix Φ) (hid : List Addr) : FDK P w K mg base (g.hide hid) n k ps ks ix Φ := by
  obtain ⟨mo, f, fd, a, b, c, d⟩ := F
  exact ⟨mo, f, fd, a, b, c, fun hid' => d hid'⟩
theorem CDK.hide {P : Program} {w : World} {K : PySem.W.Frag} {mg : Str → Option Value} {base : Heap} (F : CDK P w K mg base g c n k ps ks ix Φ) (hid : List Addr) : CDK P w K mg base (g.hide hid) c n k ps ks ix Φ := by
  obtain ⟨mo, nm, f, fd, a, b, c⟩ := F
  exact ⟨mo, nm, f, fd, a, b, fun hid' => c hid'⟩
theorem FDK.up {P : Program} {w : World} {K : PySem.W.Frag} {mg : Str → Option Value} {base : Heap} {j : Nat} (F : FDK P w K mg base g n k ps ks ix Φ) (h : k ≤ j) : FDK P w K mg base g n j ps ks ix Φ := by
  obtain ⟨mo, f, fd, a, b, c, d⟩ := F
  exact ⟨mo, f, fd, a, b, c, fun hid' => (d hid').mono h⟩
theorem CDK.up {P : Program} {w : World} {K : PySem.W.Frag} {mg : Str → Option Value} {base : Heap} {j : Nat} (F : CDK P w K mg base g c n k ps ks ix Φ) (h : k ≤ j) : CDK P w K mg base g c n j ps ks ix Φ := by
  obtain ⟨mo, nm, f, fd, a, b, c⟩ := F
  exact ⟨mo, nm, f, fd, a, b, fun hid' => (c hid').mono h⟩
def dCallK (Φ : DP) (W : XD) (m : Nat) (ix : List Nat) (fa : DA) : DE := fun env S Q => fa env S fun ds S1 => ds.length = m ∧ Φ (permL ix ds) S1 Q fun c fs S2 => W c fs env S2
theorem ped_callKw {m : Nat} (F : FDK X.prog X.w X.K X.mg X.base g n k ps ks ix Φ) (hr : Room k X.A) (tk : Tk X g ι0 H0 W) (hkw : PKd X g ι0 H0 kws fa) (hg : Gl X n := by rfl) (hdb : (n == ("__debug__" : Str)) = false := by decide)
    (hall : (backToKw pos (keywordEach kws X.env)).all (·.1.isSome) = true := by rfl) (hks : (backToKw pos (keywordEach kws X.env)).filterMap (·.1) = ks := by rfl)
    (hpl : ((backTo pos (starEach [] X.env)).any (·.1) || (backToKw pos (keywordEach kws X.env)).any (·.1.isNone)) = false := by rfl) (hkl : ks.length = m := by rfl) : PEd X g ι0 H0 (.Call (.Name n p) [] kws pos) (dCallK Φ W m ix fa) := by
  subst hkl
  obtain ⟨mo, f, fd, hm, hk, hb, ok⟩ := F
  refine ⟨⟨fun hq q => hkw.mono.go (fun _ _ ⟨l, q1⟩ => ⟨l, mo.go hq (fun _ _ _ z => z) q1⟩) q⟩, ⟨fun pins s σ H Q I ⟨ι, env, S, at0, q⟩ => ?_⟩⟩
  refine wpAny_Call_Name_kw (ld_glob I hg hm ?_ hdb)
  have q' : lA X.K g ι0 H0 fa σ H fun zs H2 => zs.length = ks.length ∧ lSp X.K g Φ (permL ix zs) H2 Q (WE (lW X.K g ι0 H0 W) σ) := ⟨ι, env, S, at0, hkw.mono.go (fun ds S1 ⟨l, q1⟩ vs H1 ι1 g1 s1 r1 => ⟨r1.length.trans l, lSp_call mo at0 g1 s1 (r1.permL ix) q1⟩) q⟩
  refine PySem.W.callWith_KW0 (h₀ := X.base) I.ok.mod.kin hk hall (thn (hkw.pk.run pos pins s σ H _ I q') fun ws s2 ⟨zs, H2, I2, rz, l, q2⟩ => ⟨I2.kIn, ?_⟩) hpl
  rw [hks]
  have l2 : ws.length = ks.length := rz.length.symm.trans l
  refine wpAny_call (codeAny_mono ((ok g.hid).run X.A X.stack s2 H2 ⟨[], ks.zip ws⟩ (permL ix ws) (permL ix zs) Q (WE (lW X.K g ι0 H0 W) σ) hr I2.env0 (hb s2 [] ws I2.kIn rfl l2) (Vals.permL rz ix) q2) fun r s' hq => ?_)
  cases r with
  | error e => exact L2N.passAt tk σ pins H2 s2 e s' I2 hq
  | ok fl =>
    cases fl with
    | ret u => exact I2.after hq
    | next => exact False.elim hq
    | brk => exact False.elim hq
    | cont => exact False.elim hq
def dMakeK (fo : String → List Str) (c : String) (Φ : DP) (W : XD) (m : Nat) (ix : List Nat) (fa : DA) : DE := fun env S Q => fa env S fun ds S1 => ds.length = m ∧
  Φ (.ref S1.length :: permL ix ds) (S1 ++ [.inst c [] []]) (fun d S2 => d = .non ∧ ∃ d' S3, Cut fo S1 S2 (.ref S1.length) d' S3 ∧ Q d' S3) fun c' fs S2 => ∃ fs' S3, CutX fo S1 S2 fs fs' S3 ∧ W c' fs' env S3
theorem ped_makeKw {m : Nat} (F : CDK X.prog X.w X.K X.mg X.base g c n k ps ks ix Φ) (hr : Room (k + 1) X.A) (tk : Tk X g ι0 H0 W) (hkw : PKd X g ι0 H0 kws fa) (hg : Gl X n := by rfl) (hdb : (n == ("__debug__" : Str)) = false := by decide)
    (hall : (backToKw pos (keywordEach kws X.env)).all (·.1.isSome) = true := by rfl) (hks : (backToKw pos (keywordEach kws X.env)).filterMap (·.1) = ks := by rfl)
    (hpl : ((backTo pos (starEach [] X.env)).any (·.1) || (backToKw pos (keywordEach kws X.env)).any (·.1.isNone)) = false := by rfl) (hkl : ks.length = m := by rfl) : PEd X g ι0 H0 (.Call (.Name n p) [] kws pos) (dMakeK g.fo c Φ W m ix fa) := by
  subst hkl
  obtain ⟨mo, nm, f, fd, M, hb, ok⟩ := F
  refine ⟨⟨fun hq q => hkw.mono.go (fun _ _ ⟨l, q1⟩ => ⟨l, mo.go (fun _ _ ⟨e, d', S3, cu, z⟩ => ⟨e, d', S3, cu, hq _ _ z⟩) (fun _ _ _ z => z) q1⟩) q⟩, ⟨fun pins s σ H Q I ⟨ι, env, S, at0, q⟩ => ?_⟩⟩
  refine wpAny_Call_Name_kw (ld_glob I hg nm ?_ hdb)
  have q' : lA X.K g ι0 H0 fa σ H fun zs H2 => zs.length = ks.length ∧ ∀ x dx, H2 x = none → H2 dx = none → dx ≠ x → lSp X.K g Φ (.ref x :: permL ix zs) (upd (upd H2 dx (.own x)) x (.ins (g.ca c) dx [])) (fun v H3 => v = .non ∧ Q (.ref x) H3) (WE (lW X.K g ι0 H0 W) σ) :=
    ⟨ι, env, S, at0, hkw.mono.go (fun ds S1 ⟨l, q1⟩ vs H1 ι1 g1 s1 r1 => ⟨r1.length.trans l, fun x dx hx hdx hne => lSp_make mo at0 g1 s1 (r1.permL ix) q1 hx hdx hne⟩) q⟩
  refine PySem.W.callWith_KW0 (h₀ := X.base) I.ok.mod.kin M.kp hall (thn (hkw.pk.run pos pins s σ H _ I q') fun ws s2 ⟨zs, H2, I2, rz, l, q2⟩ => ⟨I2.kIn, ?_⟩) hpl
  rw [hks]
  have l2 : ws.length = ks.length := rz.length.symm.trans l
  have hq := q2 (s2.heap.objs.size + 1) s2.heap.objs.size (I2.hok.fresh (Nat.le_succ _)) (I2.hok.fresh (Nat.le_refl _)) (Nat.ne_of_lt (Nat.lt_succ_self _))
  have I3 := Inv.made (C := g.ca c) I2
  have r2 : Vals (V.ref (s2.heap.objs.size + 1) :: permL ix zs) ([Value.ref (s2.heap.objs.size + 1)] ++ permL ix ws) := .cons rfl (Vals.permL rz ix)
  refine wpAny_call (make_map (f := f) I2.kIn M.makes M.init (beq_iff_eq.mp M.fn) (codeAny_mono ((ok g.hid).run _ X.stack _ _ ⟨[Value.ref (s2.heap.objs.size + 1)], ks.zip ws⟩ ([Value.ref (s2.heap.objs.size + 1)] ++ permL ix ws) _ _ (WE (lW X.K g ι0 H0 W) σ) (hr.make (g.ca c) [] (ks.zip ws))
    (I3.env0.make (g.ca c) [] (ks.zip ws)) (hb _ [Value.ref (s2.heap.objs.size + 1)] ws I3.kIn rfl l2) r2 hq) fun r s' hq' => ?_))
  cases r with
  | error e => exact L2N.passAt tk σ pins _ _ e s' I3 hq'
  | ok fl =>
    cases fl with
    | ret u =>
      obtain ⟨v, H', I4, rv, ev, q3⟩ := I3.after hq'
      subst ev
      exact ⟨rv, ⟨V.ref (s2.heap.objs.size + 1), H', I4, rfl, q3⟩⟩
    | next => exact False.elim hq'
    | brk => exact False.elim hq'
    | cont => exact False.elim hq'
end
end DL
set_option maxHeartbeats 4000000
/-! DL, thirteenth part: name = [..] on one line; dicts. -/
namespace DL
open PySem PySem.Spec L2
section
variable {X : Cx} {g : Gm} {ι0 : List Addr} {H0 : Hp}
theorem psd_setLc {i : Nat} {y : Str} {py : Pos} {elt tg iter : Expr} {ifs : List Expr} {scope : Scope} {pos spos : Pos} {t : DI} {l : LTg} {tt : DT} {te : DE} (own : List (Str × Nat)) (hc : X.calm = true) (hN : X.N.Nodup) (hi : PId X g ι0 H0 tg iter t) (ok : BlkOk X.N X.env.scope scope own)
    (hv : ∀ i ∈ l.vs, i ∈ own.map (·.2))
    (hg : ∀ (s : Shared) (H : Hp) (C : Addr) (cl : List (Str × Addr)) (fp : List Addr), PG (X.blk s H scope (compEnvC scope cl C X.env) fp) tg (l.tg X.K))
    (ht : ∀ (s : Shared) (H : Hp) (C : Addr) (cl : List (Str × Addr)) (fp hid : List Addr), PTsd (X.blk s H scope (compEnvC scope cl C X.env) fp) (g.hide hid) ι0 H0 ifs tt)
    (he : ∀ (s : Shared) (H : Hp) (C : Addr) (cl : List (Str × Addr)) (fp hid : List Addr), PEd (X.blk s H scope (compEnvC scope cl C X.env) fp) (g.hide hid) ι0 H0 elt te)
    (hy : X.N[i]? = some y := by rfl) (hyl : X.env.scope.names.lookup y = some .local := by rfl) (hk : X.env.scope.kind = .function := by rfl) (hl : (py.line == pos.line) = true := by rfl) (hfr : (scope.names.any fun (n, k) => n == y && (k == .local || k == .cell)) = false := by rfl)
    (hs : ∀ x, foldedSetIterable iter X.env x = pure x := by intro _; rfl) :
    PSd X g ι0 H0 (.Assign [.Name y py] (.ListComp elt [⟨tg, iter, ifs, 0⟩] scope pos) spos) (dSet i (dLc t l (own.map (·.2)) tt te)) := by
  have mt := (ht {} (fun _ => none) 0 [] [] []).mono
  have me := (he {} (fun _ => none) 0 [] [] []).mono
  refine ⟨⟨fun hd q => (mono_lc hi.mono mt me).go (fun _ _ q1 => hd.nx _ _ q1) q⟩, PS.weak (ps_setLc (own := own) (tt := lTx X.K g ι0 H0 tt) (te := lEx X.K g ι0 H0 te) hc hN hy hyl (sw_true hk hyl hl hfr) hi.pi ok hg
    (fun s H C cl fp => ⟨fun pins s' σ H' Q I q => Exists.elim q fun hid q => (ht s H C cl fp hid).pt.run pins s' σ H' Q I q⟩)
    (fun s H C cl fp => ⟨fun pins s' σ H' Q I q => Exists.elim q fun hid q => (he s H C cl fp hid).pe.run pins s' σ H' Q I q⟩) hs) fun _ _ σ H Dn _ ⟨ι, env, S, at0, q⟩ => ?_⟩
  refine ⟨ι, env, S, at0, hi.mono.go (fun o xs S1 q1 J H1 ι1 g1 s1 hJ p hp => ?_) q⟩
  refine lc_run (Q := fun v H' => gName i v σ H' Dn.nx) hv mt me (at0.on g1 s1) g1 hJ hp (dLcL_mono mt me (fun acc S2 q2 => ?_) q1)
  have cv : ∀ d S2, (lD X.K g ι H Dn).nx (env.set i (some d)) S2 → lK X.K g ι H (fun v H' => gName i v σ H' Dn.nx) d S2 := fun d S2 q3 v H2 ι2 g2 s2 r2 => q3 _ H2 ι2 g2 ((at0.en.mono g2).set r2 i) s2
  exact q2.imp (cv _ _) (cv _ _)
end
/-! ### dicts with text keys -/
/-- the content of a dict with text keys -/
def dcD (S : Sto) : D → Option (List (Str × D))
  | .dic ks vs => some (ks.zip vs)
  | .ref n => match S[n]? with
    | some (.dic ks vs) => if ks.all Sum.isRight then some ((ks.filterMap Sum.getRight?).zip vs) else none
    | _ => none
  | _ => none
def dDget : D2 := fun x y S Q => ∃ kv z d, dcD S x = some kv ∧ y = .str z ∧ kv.lookup z = some d ∧ Q d S
theorem valV_lookup {K : PySem.W.Frag} {g : Gm} {ι : List Addr} {H : Hp} : ∀ {kvs : List (Key × V)} {ks : List Str} {ds : List D} {z : Str} {d : D}, kvs.map (·.1) = ks.map Sum.inr → RL K g ι H (kvs.map (·.2)) ds → (ks.zip ds).lookup z = some d → ∃ v, valV kvs (Sum.inr z : Key) = some v ∧ R K g ι H v d
  | [], ks, ds, z, d, e, r, h => by
    cases r
    simp at h
  | p :: kvs, [], ds, z, d, e, r, h => by simp at e
  | p :: kvs, k :: ks, ds, z, d, e, r, h => by
    rw [List.map_cons] at r
    cases r with
    | cons a r =>
      rw [List.map_cons, List.map_cons, List.cons.injEq] at e
      rw [List.zip_cons_cons, List.lookup_cons] at h
      by_cases hz : z = k
      · subst hz
        rw [beq_self_eq_true] at h
        cases h
        exact ⟨_, valV_pos e.1, a⟩
      · rw [show (z == k) = false from by simpa using hz] at h
        obtain ⟨v, h1, h2⟩ := valV_lookup e.2 r h
        exact ⟨v, by rw [valV_neg]; exact h1; rw [e.1]; intro q; cases q; exact hz rfl, h2⟩
theorem inr_of {ks : List Key} (h : ks.all Sum.isRight = true) : ks = (ks.filterMap Sum.getRight?).map Sum.inr := by
  induction ks with
  | nil => rfl
  | cons k ks ih =>
    rw [List.all_cons, Bool.and_eq_true] at h
    cases k with
    | inl i => cases h.1
    | inr z =>
      have := ih h.2
      simp [← this]
theorem R.dcD {K : PySem.W.Frag} {g : Gm} {ι : List Addr} {H : Hp} {S : Sto} {v : V} {x : D} {kv : List (Str × D)} (s : StoR K g ι H S) (r : R K g ι H v x) (h : DL.dcD S x = some kv) :
    ∃ (a : Addr) (kvs : List (Key × V)) (ks : List Str) (ds : List D), v = .ref a ∧ Rd H a (.dK kvs) ∧ kvs.map (·.1) = ks.map Sum.inr ∧ RL K g ι H (kvs.map (·.2)) ds ∧ kv = ks.zip ds := by
  cases r with
  | dic f e r => cases h; exact ⟨_, _, _, _, rfl, f.2, e, r, rfl⟩
  | ref e =>
    unfold DL.dcD at h
    simp only at h
    split at h
    · rename_i hs
      obtain ⟨a, ea, kvs, q, ek, rl⟩ := s.at hs
      rw [e] at ea; cases ea
      split at h
      · rename_i hk
        cases h
        exact ⟨_, kvs, _, _, rfl, .inl q, by rw [ek]; exact inr_of hk, rl, rfl⟩
      · cases h
    · cases h
  | _ => cases h
theorem lk_dget {K : PySem.W.Frag} {g : Gm} : Lk2 K g dDget (fun x y H Q => ∃ a v, x = .ref a ∧ DGet H a y (some v) ∧ Q v H) :=
  ⟨⟨fun hq ⟨kv, z, d, a, b, c, q⟩ => ⟨kv, z, d, a, b, c, hq _ _ q⟩⟩, fun {ι H S x y dx dy Q} s rx ry ⟨kv, z, d, a, b, c, q⟩ => by
    subst b
    obtain ⟨p, kvs, ks, ds, rfl, hd, e, rl, rfl⟩ := rx.dcD s a
    obtain ⟨v, hv, rv⟩ := valV_lookup e rl c
    exact ⟨p, v, rfl, .inl ⟨kvs, .inr z, hd, ry.str_inv, hv.symm⟩, q v H ι Grow.refl s rv⟩⟩
section
variable {X : Cx} {g : Gm} {ι0 : List Addr} {H0 : Hp} {a b e : Expr} {f h : DE} {fa : DA} {pos : Pos} {keys : List (Option Expr)} {values : List Expr} {ks : List Str}
theorem ped_dget (hu : X.A.units + 1 < cLine) (ha : PEd X g ι0 H0 a f) (hb : PEd X g ι0 H0 b h) (hs : NoSl b := by exact fun _ _ => rfl) : PEd X g ι0 H0 (.Subscript a b pos) (dOp dDget f h) :=
  ⟨mono_op (lk_dget (K := X.K) (g := g)).mono ha.mono hb.mono, PE.weak (pe_dget hu ha.pe hb.pe hs) fun _ _ _ _ _ _ q => lE_op (f := f) (h := h) (lk_dget (K := X.K) (g := g)) ha.mono hb.mono q⟩
/-- the pairs of a display, the keys texts -/
structure PDs (X : Cx) (g : Gm) (ι0 : List Addr) (H0 : Hp) (keys : List (Option Expr)) (values : List Expr) (ks : List Str) (fa : DA) : Prop where
  mono : MoA fa
  ex : ∃ trs, (∀ pos, PPs X pos keys values trs) ∧ ∀ σ H Q, lA X.K g ι0 H0 fa σ H (fun vs H' => vs.length = ks.length → Q ((ks.map V.str).zip vs) H') → tPairs trs σ H Q
theorem pds_nil : PDs X g ι0 H0 [] [] [] dNil := ⟨⟨fun hq q => hq _ _ q⟩, [], fun pos => pps_nil, fun σ H Q ⟨ι, env, S, at0, q⟩ => q [] H ι Grow.refl at0.st .nil rfl⟩
theorem pds_cons {k : Str} {i : Nat} {p : Pos} (hv : PEd X g ι0 H0 e f) (hr : PDs X g ι0 H0 keys values ks fa) : PDs X g ι0 H0 (some (.Constant (.str k) i p) :: keys) (e :: values) (k :: ks) (dCons f fa) := by
  obtain ⟨mo, trs, hp, rd⟩ := hr
  refine ⟨⟨fun hq q => hv.mono.go (fun _ _ q1 => mo.go (fun _ _ q2 => hq _ _ q2) q1) q⟩, _, fun pos => pps_cons pe_str hv.pe (hp pos), fun σ H Q ⟨ι, env, S, at0, q⟩ => ?_⟩
  refine ⟨ι, env, S, at0, hv.mono.go (fun d S1 q1 v H1 ι1 g1 s1 r1 => rd _ _ _ ⟨ι1, env, S1, at0.on g1 s1, mo.go (fun ds S2 q2 vs H2 ι2 g2 s2 r2 hl => ?_) q1⟩) q⟩
  exact q2 (v :: vs) H2 ι2 (g1.trans g2 s1.there) s2 (.cons (r1.mono g2) r2) (by simp [hl])
def dDic (ks : List Str) (fa : DA) : DE := fun env S Q => fa env (S ++ [.dic [] []]) fun ds S1 => S1[S.length]? = some (.dic [] []) ∧ ds.length = ks.length ∧ Q (.ref S.length) (S1.set S.length (.dic (ks.map Sum.inr) ds))
theorem merge_nd : ∀ {ps kvs : List (Key × V)}, (kvs.map (·.1) ++ ps.map (·.1)).Nodup → mergeK kvs ps = kvs ++ ps
  | [], kvs, _ => by simp [mergeK]
  | p :: ps, kvs, h => by
    have hp : (kvs.any fun kv => decide (kv.1 = p.1)) = false := by
      rw [List.any_eq_false]
      intro q hq z
      rw [decide_eq_true_eq] at z
      rw [List.nodup_append] at h
      exact h.2.2 q.1 (List.mem_map_of_mem hq) p.1 (by simp) z
    have e : putK kvs p.1 p.2 = kvs ++ [p] := by
      unfold putK
      rw [hp]; rfl
    show mergeK (putK kvs p.1 p.2) ps = _
    rw [e, merge_nd (by simpa using h), List.append_assoc]; rfl
theorem ped_dict (hd : PDs X g ι0 H0 keys values ks fa) (hn : ks.Nodup := by decide) (hl15 : ks.length ≤ 15 := by decide) (hall : keys.all (·.isSome) = true := by rfl) (hl : keys.length = values.length := by rfl) (h0 : keys ≠ [] := by simp) (h15 : keys.length ≤ 15 := by decide) : PEd X g ι0 H0 (.Dict keys values pos) (dDic ks fa) := by
  obtain ⟨mo, trs, hp, rd⟩ := hd
  refine ⟨⟨fun hq q => mo.go (fun _ _ ⟨a, b, z⟩ => ⟨a, b, hq _ _ z⟩) q⟩, PE.weak (pe_disp (hp pos) hall hl h0 h15) fun _ _ σ H Q _ ⟨ι, env, S, at0, q⟩ => ?_⟩
  intro p hpn
  have ga := grow_add (ι := ι) (u := .dK []) hpn
  have sa := at0.st.add (u := .dK []) (o := .dic [] []) hpn ⟨[], upd_same, rfl, .nil⟩
  have ex : (ι ++ [p])[S.length]? = some p := by rw [List.getElem?_append_right (by rw [at0.st.len]; exact Nat.le_refl _), at0.st.len, Nat.sub_self]; rfl
  refine rd _ _ _ ⟨_, env, _, at0.on ga sa, mo.go (fun ds S1 ⟨h1, h2, z⟩ vs H1 ι1 g1 s1 r1 hvl => ?_) q⟩
  have ep : ι1[S.length]? = some p := by
    obtain ⟨⟨more, em, _⟩, _⟩ := g1
    rw [em, List.getElem?_append_left (List.getElem?_eq_some_iff.mp ex).1]; exact ex
  obtain ⟨p', ep', kvs, hk, ek, rk⟩ := s1.at h1
  rw [ep] at ep'; cases ep'
  have : kvs = [] := by cases kvs with
    | nil => rfl
    | cons x xs => simp at ek
  subst this
  have hkl : (ks.map (Sum.inr : Str → Key)).length = vs.length := by rw [List.length_map]; exact hvl.symm
  refine ⟨hk, (ks.map (Sum.inr : Str → Key)).zip vs, ?_, by rw [List.length_zip, hkl, Nat.min_self]; omega, ?_⟩
  · rw [show (fun kv : Key × V => (kV kv.1, kv.2)) = Prod.map kV id from rfl, ← List.zip_map_left, List.map_map]; rfl
  · have e1 : ((ks.map (Sum.inr : Str → Key)).zip vs).map (·.1) = ks.map Sum.inr := List.map_fst_zip (Nat.le_of_eq hkl)
    have e2 : ((ks.map (Sum.inr : Str → Key)).zip vs).map (·.2) = vs := List.map_snd_zip (Nat.le_of_eq hkl.symm)
    have em : mergeK [] ((ks.map (Sum.inr : Str → Key)).zip vs) = (ks.map (Sum.inr : Str → Key)).zip vs := by
      rw [merge_nd]
      · simp
      · rw [List.map_nil, List.nil_append, e1]
        exact List.Pairwise.map _ (fun a b h q => h (by cases q; rfl)) hn
    rw [em]
    have gs := grow_set (H := H1) (u := .dK ((ks.map (Sum.inr : Str → Key)).zip vs)) ep
    have ss := s1.put (u := .dK ((ks.map (Sum.inr : Str → Key)).zip vs)) (o := .dic (ks.map Sum.inr) ds) ep ⟨_, upd_same, e1, by rw [e2]; exact r1.mono gs⟩
    exact z _ _ ι1 ((ga.trans g1 sa.there).trans gs s1.there) ss (.ref ep)
/-! ### dicts of the module -/
/-- the dict at p, as data -/
def KD (K : PySem.W.Frag) (w : World) (p : Addr) (kv : List (Str × D)) : Prop := ∀ z d, kv.lookup z = some d → ∃ v, KDct K w p z v ∧ ∀ g ι H, R K g ι H v d
def dKget (kv : List (Str × D)) (h : DE) : DE := fun env S Q => h env S fun y S1 => ∃ z d, y = .str z ∧ kv.lookup z = some d ∧ Q d S1
theorem ped_kget {n : Str} {p : Addr} {q : Pos} {kv : List (Str × D)} (hd : KD X.K X.w p kv) (hm : X.mg n = some (.ref p)) (hb : PEd X g ι0 H0 b h) (hg : Gl X n := by rfl) (hdb : (n == ("__debug__" : Str)) = false := by decide) (hs : PlainIx b := by exact fun _ _ => rfl) : PEd X g ι0 H0 (.Subscript (.Name n q) b pos) (dKget kv h) := by
  refine ⟨⟨fun hq q => hb.mono.go (fun _ _ ⟨z, d, a, b, c⟩ => ⟨z, d, a, b, hq _ _ c⟩) q⟩, PE.weak (pe_ix ix_kdict (pe_glob hg hm (v := V.ref p) rfl hdb) hb.pe hs) fun _ _ σ H Q _ ⟨ι, env, S, at0, q⟩ => ?_⟩
  refine ⟨ι, env, S, at0, hb.mono.go (fun y S1 ⟨z, d, a, b, c⟩ v H1 ι1 g1 s1 r1 => ?_) q⟩
  subst a
  obtain ⟨u, k, r⟩ := hd z d b
  exact ⟨p, z, u, rfl, r1.str_inv, k, c u H1 ι1 g1 s1 (r _ _ _)⟩
end
end DL
set_option maxHeartbeats 4000000
/-! DL, fourteenth part: what runs while an exception is handled. -/
namespace DL
open PySem PySem.Spec L2 L2H
open PyProof.Rows (envOfC)
/-! ### the caught exception: isinstance -/
/-- what the top has written of an exception's class -/
structure IsX (K : PySem.W.Frag) (C : Addr) : Prop where
  cl : (PySem.W.clsIn K C).isSome = true
  ga : PySem.W.findIn K (.ref C) "__getattribute__" = some (some (.builtin "BaseException.__getattribute__"))
  gg : PySem.W.findIn K (.ref C) "__getattr__" = some none
  su : PySem.W.subIn K (.ref C) (.type "BaseException") = some true
  ha : PySem.W.findIn K (.ref C) "__class__" = some (some (.builtin "object.__class__"))
  hn : PySem.W.specialIn K (.builtin "object.__class__") "__get__" = some (some (.builtin "getset_descriptor.__get__"))
  ht : PySem.W.takesIn K (.builtin "object.__class__") = some true
  hm : PySem.W.mroIn K C (.type "object") = some true
section
variable {X : Cx} {g : Gm} {ι0 : List Addr} {H0 : Hp} {a dd : Addr} {oe : Obj} {pn : List (Addr × Obj)} {e : Expr} {h : DE} {p p2 pos : Pos} {f n : Str} {c : String} {vs : List D} {v : V} {cv : Value} {b : Bool}
def rIsX (K : PySem.W.Frag) (a C dd : Addr) : List V → Hp → VK → Prop := fun xs H Q => ∃ (c : V) (cv : Value) (b : Bool) (fs : List (Str × V)), xs = [.ref a, c] ∧ ClsV c cv ∧ H dd = some (.xd fs) ∧ PySem.W.kitOne K (.ref C) cv = some b ∧ Q (.bl b) H
theorem call_isX {C : Addr} (T : IsX X.K C) (hz : L2N.Zn (.ref C) (some dd) oe) (hf : ∃ vs, oe.data = .fields vs) : CallR (X.suite a ((a, oe) :: pn)) (.builtin "isinstance") (rIsX X.K a C dd) := by
  intro pins s σ H xs us Q I r h
  obtain ⟨c, cv, b, fs, rfl, hc, hd, e, q⟩ := h
  match us, r with
  | [u1, u2], .cons rx (.cons rt .nil) =>
    have ec := hc.eq rt
    subst ec
    obtain rfl : u1 = Value.ref a := rx
    obtain ⟨hget, _⟩ := I.pin (a, oe) (List.mem_append.mpr (.inl List.mem_cons_self))
    obtain ⟨ws, hv⟩ := hf
    obtain ⟨mA, hns, _⟩ := (show ObjOk X.prog X.w H s.heap dd (.xd fs) from I.hok dd _ hd)
    obtain ⟨od, ho, _⟩ := lookIn_ns hns
    have J : PySem.W.InstAt s.heap a oe C (some od) := ⟨hget, hz.1, by unfold PySem.W.notCls; rw [hv] <;> rfl, by rw [hz.2.1]; exact ho⟩
    exact PySem.W.kia_one (PySem.W.kitx_exc T.cl T.ga T.gg T.su T.ha T.hn T.ht T.hm) I.kIn J e (fun z => nomatch z) fun tk => ⟨.bl b, H, I.tok tk, rfl, q⟩
def dIsX (a : Addr) (b : Bool) (h : DE) : DE := fun env S Q => h env S fun x S1 => x = .adr a ∧ Q (.bl b) S1
theorem ped_isX (T : IsX X.K (g.ca c)) (hz : L2N.Zn (.ref (g.ca c)) (some dd) oe) (hf : ∃ vs, oe.data = .fields vs) (hx : ExR X.K g ι0 H0 (.ref (g.ca c)) (some dd) c vs) (he : PEd (X.suite a ((a, oe) :: pn)) g ι0 H0 e h) (hc : PE (X.suite a ((a, oe) :: pn)) (.Name n p2) (tC v)) (hv : ClsV v cv)
    (hk : PySem.W.kitOne X.K (.ref (g.ca c)) cv = some b) (hm : X.mg "isinstance" = none) (hgi : Gl X "isinstance" := by rfl)
    (h1 : starEach [e, .Name n p2] X.env = (false, eval e X.env) :: starEach [.Name n p2] X.env := by rfl) (hpl : (backTo pos (starEach [.Name n p2] X.env)).any (·.1) = false := by rfl) :
    PEd (X.suite a ((a, oe) :: pn)) g ι0 H0 (.Call (.Name "isinstance" p) [e, .Name n p2] [] pos) (dIsX a b h) := by
  refine ⟨⟨fun hq q => he.mono.go (fun _ _ ⟨x, z⟩ => ⟨x, hq _ _ z⟩) q⟩, PE.weak (pe_callB (call_isX T hz hf) hgi hm boot_isi (pa_cons he.pe (pa_cons hc pa_nil rfl) h1) (by decide) (by decide) h1 hpl) fun _ _ σ H Q _ ⟨ι, env, S, at0, q⟩ => ?_⟩
  refine ⟨ι, env, S, at0, he.mono.go (fun d S1 ⟨ed, z⟩ w H1 ι1 g1 s1 r1 => ?_) q⟩
  subst ed
  obtain ⟨_, dd', fs, e2, nn, hh, l, fl⟩ := hx.mono (at0.gr.trans g1 at0.st.there)
  cases e2
  exact ⟨v, cv, b, fs, by rw [r1.adr_inv], hv, hh, hk, z _ H1 ι1 g1 s1 (.bl _)⟩
/-- in the suite a context's None is known -/
theorem hotS {cls : Value} {d : Option Addr} (hz : L2N.Zn cls d oe) (hf : ∃ vs, oe.data = .fields vs) : HotC (X.suite a ((a, oe) :: pn)) := by
  obtain ⟨ws, hv⟩ := hf
  exact ⟨(a, oe), ⟨rfl, ws, hv, hz.2.2 ws hv⟩, List.mem_cons_self⟩
end
/-! ### calls there -/
structure FDH (P : Program) (w : World) (K : PySem.W.Frag) (mg : Str → Option Value) (base : Heap) (g : Gm) (n : Str) (k : Nat) (ps : List Str) (Φ : DP) : Prop where
  mo : MoP Φ
  ex : ∃ f fd, mg n = some (.ref f) ∧ PySem.W.keepIn K (.ref f) = true ∧ Binds K fd ps [] ∧ ∀ hid, FnH P w K mg base (L2N.CX P w) k f fd ps (lSp K (g.hide hid) Φ)
theorem FDH.hide {P : Program} {w : World} {K : PySem.W.Frag} {mg : Str → Option Value} {base : Heap} {g : Gm} {n : Str} {k : Nat} {ps : List Str} {Φ : DP} (F : FDH P w K mg base g n k ps Φ) (hid : List Addr) : FDH P w K mg base (g.hide hid) n k ps Φ := by
  obtain ⟨mo, f, fd, a, b, c, d⟩ := F
  exact ⟨mo, f, fd, a, b, c, fun hid' => d hid'⟩
theorem FnH.up {P : Program} {w : World} {K : PySem.W.Frag} {mg : Str → Option Value} {base : Heap} {CT : CXT} {k j : Nat} {f : Addr} {fd : FuncData} {ps : List Str} {sp : Sp} (F : FnH P w K mg base CT k f fd ps sp) (h : k ≤ j) : FnH P w K mg base CT j f fd ps sp :=
  ⟨F.len, fun A outer s H args us vs Q E p hr => F.run A outer s H args us vs Q E p (hr.mono h)⟩
theorem FDH.up {P : Program} {w : World} {K : PySem.W.Frag} {mg : Str → Option Value} {base : Heap} {g : Gm} {n : Str} {k j : Nat} {ps : List Str} {Φ : DP} (F : FDH P w K mg base g n k ps Φ) (h : k ≤ j) : FDH P w K mg base g n j ps Φ := by
  obtain ⟨mo, f, fd, a, b, c, d⟩ := F
  exact ⟨mo, f, fd, a, b, c, fun hid' => DL.FnH.up (d hid') h⟩
section
variable {X : Cx} {g : Gm} {ι0 : List Addr} {H0 : Hp} {W : XD} {n : Str} {k : Nat} {ps : List Str} {Φ : DP} {e it tg : Expr} {es : List Expr} {fa : DA} {p pos : Pos} {body : List Stmt}
theorem ped_callH (F : FDH X.prog X.w X.K X.mg X.base g n k ps Φ) (hr : RoomH k X.A) (hc : HotC X) (tk : Tk X g ι0 H0 W) (ha : PAd X g ι0 H0 (e :: es) fa) (hg : Gl X n := by rfl) (hdb : (n == ("__debug__" : Str)) = false := by decide)
    (he : starEach (e :: es) X.env = (false, eval e X.env) :: starEach es X.env := by rfl) (hpl : (backTo pos (starEach es X.env)).any (·.1) = false := by rfl) : PEd X g ι0 H0 (.Call (.Name n p) (e :: es) [] pos) (dCall Φ W fa) := by
  obtain ⟨mo, f, fd, hm, hk, hb, ok⟩ := F
  exact ⟨⟨fun hq q => ha.mono.go (fun _ _ q1 => mo.go hq (fun _ _ _ z => z) q1) q⟩, PE.weak (pe_callH (E := WE (lW X.K g ι0 H0 W)) (ok g.hid) hr hc hg hm hk hb (fun σ => L2N.passAt tk σ) ha.pa hdb he hpl) fun _ _ σ H Q _ ⟨ι, env, S, at0, q⟩ => ⟨ι, env, S, at0, ha.mono.go (fun ds S1 q1 vs H1 ι1 g1 s1 r1 => lSp_call mo at0 g1 s1 r1 q1) q⟩⟩
theorem PIH.weak {wi wi' : TI} (h : PIH X tg it wi) (hw : ∀ σ H Rr, wi' σ H Rr → wi σ H Rr) : PIH X tg it wi' := ⟨fun pins s σ H Rr I q => h.run pins s σ H Rr I (hw _ _ _ q)⟩
/-- for x in range(e), while an exception is handled -/
theorem psd_forH {tgd : DG} {b : DS} (hp : PassesOwn (model X.prog X.w) X.A X.env X.xe) (hc : HotC X) (hm : X.mg "range" = none) (ha : PAd X g ι0 H0 [e] fa) (hg : PGd X g ι0 H0 tg tgd) (hb : PSsd X g ι0 H0 body b) (hgr : Gl X "range" := by rfl) (hs : starEach [e] X.env = [(false, eval e X.env)] := by rfl)
    (hs2 : ∀ x, foldedSetIterable (.Call (.Name "range" p) [e] [] pos) X.env x = pure x := by intro _; rfl) {pos' : Pos} : PSd X g ι0 H0 (.For tg (.Call (.Name "range" p) [e] [] pos) body [] pos') (dFor (diRng1 fa) tgd b) := by
  have mi : MoI (diRng1 fa) := ⟨fun hq q => ha.mono.go (fun _ _ ⟨j, a, b, c, z⟩ => ⟨j, a, b, c, hq _ _ _ z⟩) q⟩
  have hi : PIH X tg (.Call (.Name "range" p) [e] [] pos) (lI X.K g ι0 H0 (diRng1 fa)) := PIH.weak (pi_range1H hgr hm ha.pa hs) fun σ H Rr ⟨ι, env, S, at0, q⟩ => ⟨ι, env, S, at0, ha.mono.go (fun ds S1 ⟨j, a, b, c, z⟩ vs H1 ι1 g1 s1 r1 => by
    subst a
    obtain ⟨v, rfl, r⟩ := r1.one
    exact ⟨j, by rw [r.int_inv], b, c, z _ H1 ι1 g1 s1 itd_rng⟩) q⟩
  exact ⟨mono_for mi hg.mono hb.mono, PS.weak (ps_forH hp hc hi hg.pg hb.ps hs2) fun _ _ σ H Dn _ ⟨ι, env, S, at0, q⟩ => ⟨ι, env, S, at0, mi.go (fun ok xs S1 q1 J H1 ι1 g1 s1 hJ => for_run hg.mono hb.mono (at0.on g1 s1) g1 hJ q1) q⟩⟩
end
section
variable {P : Program} {w : World} {K : PySem.W.Frag} {mg : Str → Option Value} {base : Heap} {g : Gm}
/-- THE RULE for a def that runs while an exception is handled, and lets nothing out -/
theorem fdh_of {n qual : Str} {st : Stmt} {f : Addr} {fd : FuncData} {N ps : List Str} {k : Nat} {Φ : DP} {t : DS} (F : Fun K n qual st f fd) (hm : mg n = some (.ref f)) (Sc : FnScope N ps (defScope st)) (mo : MoP Φ) (hbind : Binds K fd ps [])
    (hlen : ∀ ds S Q E, Φ ds S Q E → ds.length = ps.length)
    (hb : ∀ (cdv : Value) (A : Around) (outer : List Env) (s : Shared) (H : Hp) (E : XK) (p : Addr × Obj) (hid ι0 : List Addr) (H0 : Hp), RoomH k (A.deeper (envOfC qual (defScope st) s.heap.objs.size f cdv)) →
      HotC (cxH (L2N.CX P w) P w K mg base N qual (defScope st) f cdv A outer s H E p) →
      PSsd (cxH (L2N.CX P w) P w K mg base N qual (defScope st) f cdv A outer s H E p) (g.hide hid) ι0 H0 (defBody st) t)
    (sem : ∀ ds S Q E, Φ ds S Q E → t (endsOf g.fo S Q) (startD N.length ds) S) : FDH P w K mg base g n (k + 1) ps Φ := by
  refine ⟨mo, f, fd, hm, F.kp, hbind, fun hid => ?_⟩
  obtain ⟨oc, od, kV, doc, pm, an, cdv, ct, osl, rfl, lk, hcd⟩ := F.ex
  refine fn_ofH lk hcd Sc (fun vs H Q E h => ?_) fun A outer s H vs Q E p hot hr h => ?_
  · obtain ⟨ι, S, ds, s, r, h⟩ := h
    rw [r.length]; exact hlen _ _ _ _ h
  · obtain ⟨ι, S, ds, s0, r, h⟩ := h
    have d := hb cdv A outer s H E p hid ι H hr ⟨p, hot, List.mem_cons_self⟩
    exact ⟨_, d.ps, body_run (t := fun _ => t) (E := E) rfl s0 r d (sem _ _ _ _ h)⟩
end
end DL
set_option maxHeartbeats 4000000
/-! DL, fifteenth part: names for the ops; loops by what stays true; rooms. -/
namespace DL
open PySem PySem.Spec L2 L2H
open PyProof.Rows (envOfC)
def dSub : D2 := fun x y S Q => ∃ i j, x = .int i ∧ y = .int j ∧ Q (.int (i - j)) S
def dMul : D2 := fun x y S Q => ∃ i j, x = .int i ∧ y = .int j ∧ CMul i j ∧ Q (.int (i * j)) S
def dDivv : D2 := fun x y S Q => ∃ i j, x = .int i ∧ y = .int j ∧ CDiv i j ∧ Q (.int (i / j)) S
def dMod : D2 := fun x y S Q => ∃ i j, x = .int i ∧ y = .int j ∧ 0 < j ∧ Q (.int (i % j)) S
def dPow : D2 := fun x y S Q => ∃ i j, x = .int i ∧ y = .int j ∧ CPow i j ∧ Q (.int (i ^ j.toNat)) S
def dLt : D2 := fun x y S Q => ∃ i j, x = .int i ∧ y = .int j ∧ Q (.bl (decide (i < j))) S
def dLe : D2 := fun x y S Q => ∃ i j, x = .int i ∧ y = .int j ∧ Q (.bl (decide (i ≤ j))) S
def dGt : D2 := fun x y S Q => ∃ i j, x = .int i ∧ y = .int j ∧ Q (.bl (decide (j < i))) S
def dGe : D2 := fun x y S Q => ∃ i j, x = .int i ∧ y = .int j ∧ Q (.bl (decide (j ≤ i))) S
def dNeg : D1 := fun x S Q => ∃ i, x = .int i ∧ Q (.int (-i)) S
def dOr2 (f f' : D2) : D2 := fun x y S Q => f x y S Q ∨ f' x y S Q
section
variable {K : PySem.W.Frag} {g : Gm}
theorem lk_sub : Lk2 K g dSub (rI0 fun i j => .int (i - j)) := lk_int0
theorem lk_mul : Lk2 K g dMul (rI CMul fun i j => .int (i * j)) := lk_int
theorem lk_divv : Lk2 K g dDivv (rI CDiv fun i j => .int (i / j)) := lk_int
theorem lk_mod : Lk2 K g dMod (rI (fun _ j => 0 < j) fun i j => .int (i % j)) := lk_int
theorem lk_pow : Lk2 K g dPow (rI CPow fun i j => .int (i ^ j.toNat)) := lk_int
theorem lk_lt : Lk2 K g dLt (rI0 fun i j => .bl (decide (i < j))) := lk_intb
theorem lk_le : Lk2 K g dLe (rI0 fun i j => .bl (decide (i ≤ j))) := lk_intb
theorem lk_gt : Lk2 K g dGt (rI0 fun i j => .bl (decide (j < i))) := lk_intb
theorem lk_ge : Lk2 K g dGe (rI0 fun i j => .bl (decide (j ≤ i))) := lk_intb
theorem lk_neg : Lk1 K g dNeg (rU fun i => .int (-i)) := ⟨⟨fun hq ⟨i, a, q⟩ => ⟨i, a, hq _ _ q⟩⟩, fun s r ⟨i, a, q⟩ => by
  subst a
  exact ⟨i, r.int_inv, q _ _ _ Grow.refl s (.int _)⟩⟩
theorem lk_or2 {f f' : D2} {r r' : R2} (a : Lk2 K g f r) (b : Lk2 K g f' r') : Lk2 K g (dOr2 f f') (fun x y H Q => r x y H Q ∨ r' x y H Q) := a.or b
end
theorem roomHS {k : Nat} {A : Around} (r : Room k A) (h : Option Value) : RoomH k (A.mark h) := ⟨r.dp, r.un⟩
theorem hu1 {k : Nat} {A : Around} (h : Room k A) : A.units + 1 < cLine := by have := h.un; omega
theorem hu64 {k : Nat} {A : Around} (h : Room k A) : A.units + 64 < cLine := by have := h.un; omega
theorem hu64H {k : Nat} {A : Around} (h : RoomH k A) : A.units + 64 < cLine := by have := h.un; omega
def blkB (N : List Str) (sc scope : Scope) (own : List (Str × Nat)) : Bool :=
  decide (scope.kind = .function) && (decide (∀ y ∈ scope.names, scope.names.lookup y.1 = some y.2) && (decide (∀ p ∈ own, N[p.2]? = some p.1) && (decide (∀ y ∈ scope.names, y.2 = .free → sc.names.lookup y.1 = some .cell ∨ sc.names.lookup y.1 = some .free) &&
    decide (∀ y ∈ scope.names, y.2 = .local ∨ y.2 = .cell → y.1 ∈ own.map (·.1) ∨ y.1 ∉ N))))
theorem blk_ok {N : List Str} {sc scope : Scope} {own : List (Str × Nat)} (h : blkB N sc scope own = true) : BlkOk N sc scope own := by
  unfold blkB at h
  simp only [Bool.and_eq_true, decide_eq_true_eq] at h
  exact ⟨h.1, h.2.1, h.2.2.1, h.2.2.2.1, h.2.2.2.2⟩
/-! ### for, by what stays true -/
theorem dLoop_inv {ok : Sto → Prop} {tg : DG} {b : DS} {Dn : DEnds} {xs : List D} (P : Nat → En → Sto → Prop) (hok : ∀ i e s, i ≤ xs.length → P i e s → ok s)
    (step : ∀ i x e s (N : En → Sto → Prop), xs[i]? = some x → P i e s → (∀ e' s', P (i + 1) e' s' → N e' s') → tg x e s fun e1 s1 => b { Dn with nx := N, ct := N, bk := Dn.nx } e1 s1)
    (fin : ∀ e s, P xs.length e s → Dn.nx e s) {env : En} {S : Sto} (h0 : P 0 env S) : dLoop ok tg b Dn xs env S := by
  have go : ∀ (r : List D) (i : Nat), xs.drop i = r → i ≤ xs.length → ∀ e s, P i e s → dLoop ok tg b Dn r e s := by
    intro r
    induction r with
    | nil =>
      intro i hd hi e s p
      have : i = xs.length := Nat.le_antisymm hi (List.drop_eq_nil_iff.mp hd)
      subst this
      exact ⟨hok _ _ _ hi p, fin _ _ p⟩
    | cons x r ih =>
      intro i hd hi e s p
      have hx : xs[i]? = some x := by
        have := congrArg (·[0]?) hd
        simpa [List.getElem?_drop] using this
      have hr : xs.drop (i + 1) = r := by
        have := congrArg List.tail hd
        simpa [List.tail_drop] using this
      have hl : i < xs.length := (List.getElem?_eq_some_iff.mp hx).1
      exact ⟨hok _ _ _ hi p, step i x e s _ hx p fun e' s' p' => ih (i + 1) hr hl e' s' p'⟩
  exact go xs 0 rfl (Nat.zero_le _) env S h0
theorem dLcL_inv {ok : Sto → Prop} {l : LTg} {tt : DT} {te : DE} {env : En} {Kk : List D → Sto → Prop} {xs : List D} (P : Nat → Sto → List D → Prop) (hok : ∀ i s acc, i ≤ xs.length → P i s acc → ok s)
    (step : ∀ i x s acc (N : Sto → List D → Prop), xs[i]? = some x → P i s acc → (∀ s' acc', P (i + 1) s' acc' → N s' acc') → l.bind x env fun e1 => tt e1 s fun b S2 => if b = true then te e1 S2 fun y S3 => acc.length < sizeLine ∧ N S3 (acc ++ [y]) else N S2 acc)
    (fin : ∀ s acc, P xs.length s acc → Kk acc s) {S : Sto} {acc : List D} (h0 : P 0 S acc) : dLcL ok l tt te env Kk xs S acc := by
  have go : ∀ (r : List D) (i : Nat), xs.drop i = r → i ≤ xs.length → ∀ s acc, P i s acc → dLcL ok l tt te env Kk r s acc := by
    intro r
    induction r with
    | nil =>
      intro i hd hi s acc p
      have : i = xs.length := Nat.le_antisymm hi (List.drop_eq_nil_iff.mp hd)
      subst this
      exact ⟨hok _ _ _ hi p, fin _ _ p⟩
    | cons x r ih =>
      intro i hd hi s acc p
      have hx : xs[i]? = some x := by
        have := congrArg (·[0]?) hd
        simpa [List.getElem?_drop] using this
      have hr : xs.drop (i + 1) = r := by
        have := congrArg List.tail hd
        simpa [List.tail_drop] using this
      have hl : i < xs.length := (List.getElem?_eq_some_iff.mp hx).1
      exact ⟨hok _ _ _ hi p, step i x s acc (fun S3 acc' => dLcL ok l tt te env Kk r S3 acc') hx p fun s' acc' p' => ih (i + 1) hr hl s' acc' p'⟩
  exact go xs 0 rfl (Nat.zero_le _) S acc h0
/-! ### a new list: frozen (F), of the store (S) -/
def dLstF (fa : DA) : DE := fun env S Q => fa env S fun ds S1 => ds.length ≤ sizeLine ∧ Q (.lst ds) S1
def dLstS (fa : DA) : DE := fun env S Q => fa env S fun ds S1 => ds.length ≤ sizeLine ∧ Q (.ref S1.length) (S1 ++ [.lst ds])
def dLcF (t : DI) (l : LTg) (vs : List Nat) (tt : DT) (te : DE) : DE := fun env S Q => t env S fun ok xs S1 => dLcL ok l tt te (wipeE env vs) (fun acc S2 => Q (.lst acc) S2) xs S1 []
def dLcS (t : DI) (l : LTg) (vs : List Nat) (tt : DT) (te : DE) : DE := fun env S Q => t env S fun ok xs S1 => dLcL ok l tt te (wipeE env vs) (fun acc S2 => Q (.ref S2.length) (S2 ++ [.lst acc])) xs S1 []
def dListF : DL' := fun ds S Q => ∃ d xs, ds = [d] ∧ sq S d = some xs ∧ Q (.lst xs) S
def dListS : DL' := fun ds S Q => ∃ d xs, ds = [d] ∧ sq S d = some xs ∧ Q (.ref S.length) (S ++ [.lst xs])
def dAddF : D2 := fun x y S Q => match x, y with
  | .int i, .int j => Q (.int (i + j)) S
  | .str a, .str b => a.length + b.length ≤ sizeLine ∧ Q (.str (a ++ b)) S
  | .tup xs, .tup ys => xs.length + ys.length ≤ sizeLine ∧ Q (.tup (xs ++ ys)) S
  | x, y => ∃ xs ys, sqL S x = some xs ∧ sqL S y = some ys ∧ xs.length + ys.length ≤ sizeLine ∧ Q (.lst (xs ++ ys)) S
def dAddS : D2 := fun x y S Q => match x, y with
  | .int i, .int j => Q (.int (i + j)) S
  | .str a, .str b => a.length + b.length ≤ sizeLine ∧ Q (.str (a ++ b)) S
  | .tup xs, .tup ys => xs.length + ys.length ≤ sizeLine ∧ Q (.tup (xs ++ ys)) S
  | x, y => ∃ xs ys, sqL S x = some xs ∧ sqL S y = some ys ∧ xs.length + ys.length ≤ sizeLine ∧ Q (.ref S.length) (S ++ [.lst (xs ++ ys)])
def dSlF : D → Option Int → Option Int → Sto → DK → Prop := fun x lo hi S Q => match x with
  | .str z => z.length ≤ sizeLine ∧ Q (.str (cutS z lo hi)) S
  | .tup xs => Q (.tup (cutD xs lo hi)) S
  | x => ∃ xs, sqL S x = some xs ∧ Q (.lst (cutD xs lo hi)) S
def dSlS : D → Option Int → Option Int → Sto → DK → Prop := fun x lo hi S Q => match x with
  | .str z => z.length ≤ sizeLine ∧ Q (.str (cutS z lo hi)) S
  | .tup xs => Q (.tup (cutD xs lo hi)) S
  | x => ∃ xs, sqL S x = some xs ∧ Q (.ref S.length) (S ++ [.lst (cutD xs lo hi)])
def dSliceF (f : DE) (l h : DO) : DE := fun env S Q => f env S fun x S1 => l env S1 fun lo S2 => h env S2 fun hi S3 => dSlF x lo hi S3 Q
def dSliceS (f : DE) (l h : DO) : DE := fun env S Q => f env S fun x S1 => l env S1 fun lo S2 => h env S2 fun hi S3 => dSlS x lo hi S3 Q
section
variable {X : Cx} {g : Gm} {ι0 : List Addr} {H0 : Hp} {e : Expr} {es : List Expr} {f f' : DE} {fa : DA} {pos : Pos}
theorem PEd.weak (h : PEd X g ι0 H0 e f) (m : MoE f') (w : ∀ {env S Q}, f' env S Q → f env S Q) : PEd X g ι0 H0 e f' := ⟨m, PE.weak h.pe fun _ _ _ _ _ _ ⟨ι, env, S, at0, q⟩ => ⟨ι, env, S, at0, w q⟩⟩
theorem ped_lstF (ha : PAd X g ι0 H0 es fa) : PEd X g ι0 H0 (.List es pos) (dLstF fa) := (ped_lst ha).weak ⟨fun hq q => ha.mono.go (fun _ _ ⟨l, q⟩ => ⟨l, hq _ _ q⟩) q⟩ fun q => ha.mono.go (fun _ _ ⟨l, q⟩ => ⟨l, .inl q⟩) q
theorem ped_lstS (ha : PAd X g ι0 H0 es fa) : PEd X g ι0 H0 (.List es pos) (dLstS fa) := (ped_lst ha).weak ⟨fun hq q => ha.mono.go (fun _ _ ⟨l, q⟩ => ⟨l, hq _ _ q⟩) q⟩ fun q => ha.mono.go (fun _ _ ⟨l, q⟩ => ⟨l, .inr q⟩) q
theorem lk_listF {K : PySem.W.Frag} : LkL K g dListF (fun xs H Q => ∃ p ys, xs = [.ref p] ∧ (SqL K H p ys ∨ SqT K H p ys) ∧ ∀ l, H l = none → Q (.ref l) (upd H l (.lst ys))) :=
  ⟨⟨fun hq ⟨d, n, a, b, q⟩ => ⟨d, n, a, b, hq _ _ q⟩⟩, fun s rx ⟨d, xs, a, b, q⟩ => lk_list.lk s rx ⟨d, xs, a, b, .inl q⟩⟩
theorem lk_listS {K : PySem.W.Frag} : LkL K g dListS (fun xs H Q => ∃ p ys, xs = [.ref p] ∧ (SqL K H p ys ∨ SqT K H p ys) ∧ ∀ l, H l = none → Q (.ref l) (upd H l (.lst ys))) :=
  ⟨⟨fun hq ⟨d, n, a, b, q⟩ => ⟨d, n, a, b, hq _ _ q⟩⟩, fun s rx ⟨d, xs, a, b, q⟩ => lk_list.lk s rx ⟨d, xs, a, b, .inr q⟩⟩
theorem addF_add {x y : D} {S : Sto} {Q : DK} (q : dAddF x y S Q) : dAdd x y S Q := by
  unfold dAddF at q
  unfold dAdd
  split at q
  · exact q
  · exact q
  · exact q
  · rename_i h1 h2 h3
    obtain ⟨xs, ys, a, b, c, d⟩ := q
    first
      | exact ⟨xs, ys, a, b, c, .inl d⟩
      | (split
         · exact (h1 _ _ rfl rfl).elim
         · exact (h2 _ _ rfl rfl).elim
         · exact (h3 _ _ rfl rfl).elim
         · exact ⟨xs, ys, a, b, c, .inl d⟩)
theorem addS_add {x y : D} {S : Sto} {Q : DK} (q : dAddS x y S Q) : dAdd x y S Q := by
  unfold dAddS at q
  unfold dAdd
  split at q
  · exact q
  · exact q
  · exact q
  · rename_i h1 h2 h3
    obtain ⟨xs, ys, a, b, c, d⟩ := q
    first
      | exact ⟨xs, ys, a, b, c, .inr d⟩
      | (split
         · exact (h1 _ _ rfl rfl).elim
         · exact (h2 _ _ rfl rfl).elim
         · exact (h3 _ _ rfl rfl).elim
         · exact ⟨xs, ys, a, b, c, .inr d⟩)
theorem mo_addF : Mo2 dAddF := ⟨fun {x y S Q Q'} hq q => by
  unfold dAddF at q ⊢
  split at q
  · exact hq _ _ q
  · exact ⟨q.1, hq _ _ q.2⟩
  · exact ⟨q.1, hq _ _ q.2⟩
  · obtain ⟨xs, ys, a, b, c, d⟩ := q; exact ⟨xs, ys, a, b, c, hq _ _ d⟩⟩
theorem mo_addS : Mo2 dAddS := ⟨fun {x y S Q Q'} hq q => by
  unfold dAddS at q ⊢
  split at q
  · exact hq _ _ q
  · exact ⟨q.1, hq _ _ q.2⟩
  · exact ⟨q.1, hq _ _ q.2⟩
  · obtain ⟨xs, ys, a, b, c, d⟩ := q; exact ⟨xs, ys, a, b, c, hq _ _ d⟩⟩
theorem lk_addF {K : PySem.W.Frag} : Lk2 K g dAddF (rAddA K) := lk_add.weak mo_addF addF_add
theorem lk_addS {K : PySem.W.Frag} : Lk2 K g dAddS (rAddA K) := lk_add.weak mo_addS addS_add
theorem slF_sl {x : D} {lo hi : Option Int} {S : Sto} {Q : DK} (q : dSlF x lo hi S Q) : dSl x lo hi S Q := by
  unfold dSlF at q
  unfold dSl
  split at q
  · exact q
  · exact q
  · rename_i h1 h2
    obtain ⟨xs, a, d⟩ := q
    first
      | exact ⟨xs, a, .inl d⟩
      | (split
         · exact (h1 _ rfl).elim
         · exact (h2 _ rfl).elim
         · exact ⟨xs, a, .inl d⟩)
theorem slS_sl {x : D} {lo hi : Option Int} {S : Sto} {Q : DK} (q : dSlS x lo hi S Q) : dSl x lo hi S Q := by
  unfold dSlS at q
  unfold dSl
  split at q
  · exact q
  · exact q
  · rename_i h1 h2
    obtain ⟨xs, a, d⟩ := q
    first
      | exact ⟨xs, a, .inr d⟩
      | (split
         · exact (h1 _ rfl).elim
         · exact (h2 _ rfl).elim
         · exact ⟨xs, a, .inr d⟩)
theorem mo_slF {x : D} {lo hi : Option Int} {S : Sto} {Q Q' : DK} (hq : ∀ d S, Q d S → Q' d S) (q : dSlF x lo hi S Q) : dSlF x lo hi S Q' := by
  unfold dSlF at q ⊢
  split at q
  · exact ⟨q.1, hq _ _ q.2⟩
  · exact hq _ _ q
  · obtain ⟨xs, a, d⟩ := q; exact ⟨xs, a, hq _ _ d⟩
theorem mo_slS {x : D} {lo hi : Option Int} {S : Sto} {Q Q' : DK} (hq : ∀ d S, Q d S → Q' d S) (q : dSlS x lo hi S Q) : dSlS x lo hi S Q' := by
  unfold dSlS at q ⊢
  split at q
  · exact ⟨q.1, hq _ _ q.2⟩
  · exact hq _ _ q
  · obtain ⟨xs, a, d⟩ := q; exact ⟨xs, a, hq _ _ d⟩
theorem ped_sliceF {lo hi : Option Expr} {l h : DO} {p2 : Pos} (he : PEd X g ι0 H0 e f) (hl : POd X g ι0 H0 lo l) (hh : POd X g ι0 H0 hi h) : PEd X g ι0 H0 (.Subscript e (.Slice lo hi none p2) pos) (dSliceF f l h) :=
  (ped_slice he hl hh).weak ⟨fun hq q => he.mono.go (fun _ _ q1 => hl.mono.go (fun _ _ q2 => hh.mono.go (fun _ _ q3 => mo_slF hq q3) q2) q1) q⟩ fun q => he.mono.go (fun _ _ q1 => hl.mono.go (fun _ _ q2 => hh.mono.go (fun _ _ q3 => slF_sl q3) q2) q1) q
theorem ped_sliceS {lo hi : Option Expr} {l h : DO} {p2 : Pos} (he : PEd X g ι0 H0 e f) (hl : POd X g ι0 H0 lo l) (hh : POd X g ι0 H0 hi h) : PEd X g ι0 H0 (.Subscript e (.Slice lo hi none p2) pos) (dSliceS f l h) :=
  (ped_slice he hl hh).weak ⟨fun hq q => he.mono.go (fun _ _ q1 => hl.mono.go (fun _ _ q2 => hh.mono.go (fun _ _ q3 => mo_slS hq q3) q2) q1) q⟩ fun q => he.mono.go (fun _ _ q1 => hl.mono.go (fun _ _ q2 => hh.mono.go (fun _ _ q3 => slS_sl q3) q2) q1) q
variable {elt tg iter : Expr} {ifs : List Expr} {scope : Scope} {t : DI} {l : LTg} {tt : DT} {te : DE}
theorem ped_lcF (own : List (Str × Nat)) (hc : X.calm = true) (hN : X.N.Nodup) (hi : PId X g ι0 H0 tg iter t) (ok : BlkOk X.N X.env.scope scope own) (hv : ∀ i ∈ l.vs, i ∈ own.map (·.2))
    (hg : ∀ (s : Shared) (H : Hp) (C : Addr) (cl : List (Str × Addr)) (fp : List Addr), PG (X.blk s H scope (compEnvC scope cl C X.env) fp) tg (l.tg X.K))
    (ht : ∀ (s : Shared) (H : Hp) (C : Addr) (cl : List (Str × Addr)) (fp hid : List Addr), PTsd (X.blk s H scope (compEnvC scope cl C X.env) fp) (g.hide hid) ι0 H0 ifs tt)
    (he : ∀ (s : Shared) (H : Hp) (C : Addr) (cl : List (Str × Addr)) (fp hid : List Addr), PEd (X.blk s H scope (compEnvC scope cl C X.env) fp) (g.hide hid) ι0 H0 elt te) (hs : ∀ x, foldedSetIterable iter X.env x = pure x := by intro _; rfl) :
    PEd X g ι0 H0 (.ListComp elt [⟨tg, iter, ifs, 0⟩] scope pos) (dLcF t l (own.map (·.2)) tt te) :=
  have mt := (ht {} (fun _ => none) 0 [] [] []).mono
  have me := (he {} (fun _ => none) 0 [] [] []).mono
  (ped_lc own hc hN hi ok hv hg ht he hs).weak ⟨fun hq q => hi.mono.go (fun _ _ _ q1 => dLcL_mono mt me (fun _ _ q2 => hq _ _ q2) q1) q⟩ fun q => hi.mono.go (fun _ _ _ q1 => dLcL_mono mt me (fun _ _ q2 => .inl q2) q1) q
theorem ped_lcS (own : List (Str × Nat)) (hc : X.calm = true) (hN : X.N.Nodup) (hi : PId X g ι0 H0 tg iter t) (ok : BlkOk X.N X.env.scope scope own) (hv : ∀ i ∈ l.vs, i ∈ own.map (·.2))
    (hg : ∀ (s : Shared) (H : Hp) (C : Addr) (cl : List (Str × Addr)) (fp : List Addr), PG (X.blk s H scope (compEnvC scope cl C X.env) fp) tg (l.tg X.K))
    (ht : ∀ (s : Shared) (H : Hp) (C : Addr) (cl : List (Str × Addr)) (fp hid : List Addr), PTsd (X.blk s H scope (compEnvC scope cl C X.env) fp) (g.hide hid) ι0 H0 ifs tt)
    (he : ∀ (s : Shared) (H : Hp) (C : Addr) (cl : List (Str × Addr)) (fp hid : List Addr), PEd (X.blk s H scope (compEnvC scope cl C X.env) fp) (g.hide hid) ι0 H0 elt te) (hs : ∀ x, foldedSetIterable iter X.env x = pure x := by intro _; rfl) :
    PEd X g ι0 H0 (.ListComp elt [⟨tg, iter, ifs, 0⟩] scope pos) (dLcS t l (own.map (·.2)) tt te) :=
  have mt := (ht {} (fun _ => none) 0 [] [] []).mono
  have me := (he {} (fun _ => none) 0 [] [] []).mono
  (ped_lc own hc hN hi ok hv hg ht he hs).weak ⟨fun hq q => hi.mono.go (fun _ _ _ q1 => dLcL_mono mt me (fun _ _ q2 => hq _ _ q2) q1) q⟩ fun q => hi.mono.go (fun _ _ _ q1 => dLcL_mono mt me (fun _ _ q2 => .inr q2) q1) q
end
section
variable {X : Cx} {g : Gm} {ι0 : List Addr} {H0 : Hp} {st : Stmt} {s s' : DS}
theorem PSd.weak (h : PSd X g ι0 H0 st s) (m : MoS s') (w : ∀ {Dn env S}, s' Dn env S → s Dn env S) : PSd X g ι0 H0 st s' := ⟨m, PS.weak h.ps fun _ _ _ _ _ _ ⟨ι, env, S, at0, q⟩ => ⟨ι, env, S, at0, w q⟩⟩
end
/-- the two of name = [..] from the one -/
theorem set_lcF {X : Cx} {g : Gm} {ι0 : List Addr} {H0 : Hp} {st : Stmt} {i : Nat} {t : DI} {l : LTg} {vs : List Nat} {tt : DT} {te : DE} (mi : MoI t) (mt : MoT tt) (me : MoE te) (h : PSd X g ι0 H0 st (dSet i (dLc t l vs tt te))) : PSd X g ι0 H0 st (dSet i (dLcF t l vs tt te)) :=
  h.weak ⟨fun hd q => mi.go (fun _ _ _ q1 => dLcL_mono mt me (fun _ _ q2 => hd.nx _ _ q2) q1) q⟩ fun q => mi.go (fun _ _ _ q1 => dLcL_mono mt me (fun _ _ q2 => .inl q2) q1) q
theorem set_lcS {X : Cx} {g : Gm} {ι0 : List Addr} {H0 : Hp} {st : Stmt} {i : Nat} {t : DI} {l : LTg} {vs : List Nat} {tt : DT} {te : DE} (mi : MoI t) (mt : MoT tt) (me : MoE te) (h : PSd X g ι0 H0 st (dSet i (dLc t l vs tt te))) : PSd X g ι0 H0 st (dSet i (dLcS t l vs tt te)) :=
  h.weak ⟨fun hd q => mi.go (fun _ _ _ q1 => dLcL_mono mt me (fun _ _ q2 => hd.nx _ _ q2) q1) q⟩ fun q => mi.go (fun _ _ _ q1 => dLcL_mono mt me (fun _ _ q2 => .inr q2) q1) q
theorem psd_setLcF {X : Cx} {g : Gm} {ι0 : List Addr} {H0 : Hp} {i : Nat} {y : Str} {py : Pos} {elt tg iter : Expr} {ifs : List Expr} {scope : Scope} {pos spos : Pos} {t : DI} {l : LTg} {tt : DT} {te : DE} (own : List (Str × Nat)) (hc : X.calm = true) (hN : X.N.Nodup) (hi : PId X g ι0 H0 tg iter t) (ok : BlkOk X.N X.env.scope scope own)
    (hv : ∀ i ∈ l.vs, i ∈ own.map (·.2))
    (hg : ∀ (s : Shared) (H : Hp) (C : Addr) (cl : List (Str × Addr)) (fp : List Addr), PG (X.blk s H scope (compEnvC scope cl C X.env) fp) tg (l.tg X.K))
    (ht : ∀ (s : Shared) (H : Hp) (C : Addr) (cl : List (Str × Addr)) (fp hid : List Addr), PTsd (X.blk s H scope (compEnvC scope cl C X.env) fp) (g.hide hid) ι0 H0 ifs tt)
    (he : ∀ (s : Shared) (H : Hp) (C : Addr) (cl : List (Str × Addr)) (fp hid : List Addr), PEd (X.blk s H scope (compEnvC scope cl C X.env) fp) (g.hide hid) ι0 H0 elt te)
    (hy : X.N[i]? = some y := by rfl) (hyl : X.env.scope.names.lookup y = some .local := by rfl) (hk : X.env.scope.kind = .function := by rfl) (hl : (py.line == pos.line) = true := by rfl) (hfr : (scope.names.any fun (n, k) => n == y && (k == .local || k == .cell)) = false := by rfl)
    (hs : ∀ x, foldedSetIterable iter X.env x = pure x := by intro _; rfl) : PSd X g ι0 H0 (.Assign [.Name y py] (.ListComp elt [⟨tg, iter, ifs, 0⟩] scope pos) spos) (dSet i (dLcF t l (own.map (·.2)) tt te)) :=
  set_lcF hi.mono (ht {} (fun _ => none) 0 [] [] []).mono (he {} (fun _ => none) 0 [] [] []).mono (psd_setLc own hc hN hi ok hv hg ht he hy hyl hk hl hfr hs)
theorem psd_setLcS {X : Cx} {g : Gm} {ι0 : List Addr} {H0 : Hp} {i : Nat} {y : Str} {py : Pos} {elt tg iter : Expr} {ifs : List Expr} {scope : Scope} {pos spos : Pos} {t : DI} {l : LTg} {tt : DT} {te : DE} (own : List (Str × Nat)) (hc : X.calm = true) (hN : X.N.Nodup) (hi : PId X g ι0 H0 tg iter t) (ok : BlkOk X.N X.env.scope scope own)
    (hv : ∀ i ∈ l.vs, i ∈ own.map (·.2))
    (hg : ∀ (s : Shared) (H : Hp) (C : Addr) (cl : List (Str × Addr)) (fp : List Addr), PG (X.blk s H scope (compEnvC scope cl C X.env) fp) tg (l.tg X.K))
    (ht : ∀ (s : Shared) (H : Hp) (C : Addr) (cl : List (Str × Addr)) (fp hid : List Addr), PTsd (X.blk s H scope (compEnvC scope cl C X.env) fp) (g.hide hid) ι0 H0 ifs tt)
    (he : ∀ (s : Shared) (H : Hp) (C : Addr) (cl : List (Str × Addr)) (fp hid : List Addr), PEd (X.blk s H scope (compEnvC scope cl C X.env) fp) (g.hide hid) ι0 H0 elt te)
    (hy : X.N[i]? = some y := by rfl) (hyl : X.env.scope.names.lookup y = some .local := by rfl) (hk : X.env.scope.kind = .function := by rfl) (hl : (py.line == pos.line) = true := by rfl) (hfr : (scope.names.any fun (n, k) => n == y && (k == .local || k == .cell)) = false := by rfl)
    (hs : ∀ x, foldedSetIterable iter X.env x = pure x := by intro _; rfl) : PSd X g ι0 H0 (.Assign [.Name y py] (.ListComp elt [⟨tg, iter, ifs, 0⟩] scope pos) spos) (dSet i (dLcS t l (own.map (·.2)) tt te)) :=
  set_lcS hi.mono (ht {} (fun _ => none) 0 [] [] []).mono (he {} (fun _ => none) 0 [] [] []).mono (psd_setLc own hc hN hi ok hv hg ht he hy hyl hk hl hfr hs)
end DL
set_option maxHeartbeats 4000000
/-! DL, sixteenth part: readings unfold by simp. -/
namespace DL
open PySem PySem.Spec L2
section
variable {f h k : DE} {fa : DA} {t u : DT} {s1 s2 : DS} {env : En} {S : Sto} {Q : DK} {QB : Bool → Sto → Prop} {QA : List D → Sto → Prop} {Dn : DEnds}
@[simp ↓] theorem ex_bl {c : Bool} {p : Bool → Prop} : (∃ b, D.bl c = .bl b ∧ p b) = p c := by simp
@[simp ↓] theorem ex_int {c : Int} {p : Int → Prop} : (∃ b, D.int c = .int b ∧ p b) = p c := by simp
@[simp ↓] theorem ex_ref {c : Nat} {p : Nat → Prop} : (∃ b, D.ref c = .ref b ∧ p b) = p c := by simp
@[simp ↓] theorem ex_str {c : Str} {p : Str → Prop} : (∃ b, D.str c = .str b ∧ p b) = p c := by simp
@[simp ↓] theorem ex_some {α : Type} {c : α} {p : α → Prop} : (∃ b, some c = some b ∧ p b) = p c := by simp
@[simp ↓] theorem u_next : dNext Dn env S = Dn.nx env S := rfl
@[simp ↓] theorem u_seq : dSeq s1 s2 Dn env S = s1 { Dn with nx := fun e s => s2 Dn e s } env S := rfl
@[simp ↓] theorem u_break : dBreak Dn env S = Dn.bk env S := rfl
@[simp ↓] theorem u_cont : dCont Dn env S = Dn.ct env S := rfl
@[simp ↓] theorem u_drop : dDrop f Dn env S = f env S fun _ S1 => Dn.nx env S1 := rfl
@[simp ↓] theorem u_ret : dRet f Dn env S = f env S Dn.rt := rfl
@[simp ↓] theorem u_retN : dRetN Dn env S = Dn.rt .non S := rfl
@[simp ↓] theorem u_if : dIf t s1 s2 Dn env S = t env S fun c S1 => if c = true then s1 Dn env S1 else s2 Dn env S1 := rfl
@[simp ↓] theorem u_set {i : Nat} : dSet i f Dn env S = f env S fun d S1 => Dn.nx (env.set i (some d)) S1 := rfl
@[simp ↓] theorem u_asg {g : DG} : dAsg f g Dn env S = f env S fun d S1 => g d env S1 Dn.nx := rfl
@[simp ↓] theorem u_gname {i : Nat} {d : D} {P : En → Sto → Prop} : dgName i d env S P = P (env.set i (some d)) S := rfl
@[simp ↓] theorem u_gsub {d : D} {P : En → Sto → Prop} : dgSub f h d env S P = f env S fun x S1 => h env S1 fun y S2 => ∃ n xs k j, x = .ref n ∧ y = .int k ∧ S2[n]? = some (.lst xs) ∧ ixN xs.length k = some j ∧ P env (S2.set n (.lst (xs.set j d))) := rfl
@[simp ↓] theorem u_var0 {d : D} {r : En} : dVar 0 (some d :: r) S Q = Q d S := by unfold dVar; simp
@[simp ↓] theorem u_varS {i : Nat} {x : Option D} {r : En} : dVar (i + 1) (x :: r) S Q = dVar i r S Q := by unfold dVar; simp
@[simp ↓] theorem u_c {d : D} : dC d env S Q = Q d S := rfl
@[simp ↓] theorem u_op {r : D2} : dOp r f h env S Q = f env S fun x S1 => h env S1 fun y S2 => r x y S2 Q := rfl
@[simp ↓] theorem u_un {r : D1} : dUn r f env S Q = f env S fun x S1 => r x S1 Q := rfl
@[simp ↓] theorem u_test : dTest f env S QB = f env S fun d S' => ∃ b, d = .bl b ∧ QB b S' := rfl
@[simp ↓] theorem u_and : dAnd t u env S QB = t env S fun c S1 => if c = true then u env S1 QB else QB false S1 := rfl
@[simp ↓] theorem u_or : dOr t u env S QB = t env S fun c S1 => if c = true then QB true S1 else u env S1 QB := rfl
@[simp ↓] theorem u_not : dNot t env S QB = t env S fun c S1 => QB (!c) S1 := rfl
@[simp ↓] theorem u_andV : dAndV f h env S Q = f env S fun x S1 => ∃ c, x = .bl c ∧ if c = true then h env S1 Q else Q (.bl false) S1 := rfl
@[simp ↓] theorem u_orV : dOrV f h env S Q = f env S fun x S1 => ∃ c, x = .bl c ∧ if c = true then Q (.bl true) S1 else h env S1 Q := rfl
@[simp ↓] theorem u_notV : dNotV f env S Q = f env S fun x S1 => ∃ c, x = .bl c ∧ Q (.bl (!c)) S1 := rfl
@[simp ↓] theorem u_ifE : dIfE t f h env S Q = t env S fun c S1 => if c = true then f env S1 Q else h env S1 Q := rfl
@[simp ↓] theorem u_chain {r r' : D2} : dChain r r' f h k env S Q = f env S fun x S1 => h env S1 fun y S2 => r x y S2 fun z S3 => ∃ c, z = .bl c ∧ if c = true then k env S3 fun w S4 => r' y w S4 Q else Q (.bl false) S3 := rfl
@[simp ↓] theorem u_nil : dNil env S QA = QA [] S := rfl
@[simp ↓] theorem u_cons : dCons f fa env S QA = f env S fun x S1 => fa env S1 fun xs S2 => QA (x :: xs) S2 := rfl
@[simp ↓] theorem u_tup : dTup fa env S Q = fa env S fun ds S1 => ds.length ≤ sizeLine ∧ Q (.tup ds) S1 := rfl
@[simp ↓] theorem u_lst : dLst fa env S Q = fa env S fun ds S1 => ds.length ≤ sizeLine ∧ (Q (.lst ds) S1 ∨ Q (.ref S1.length) (S1 ++ [.lst ds])) := rfl
@[simp ↓] theorem u_lstF : dLstF fa env S Q = fa env S fun ds S1 => ds.length ≤ sizeLine ∧ Q (.lst ds) S1 := rfl
@[simp ↓] theorem u_lstS : dLstS fa env S Q = fa env S fun ds S1 => ds.length ≤ sizeLine ∧ Q (.ref S1.length) (S1 ++ [.lst ds]) := rfl
@[simp ↓] theorem u_sliceF {l m : DO} : dSliceF f l m env S Q = f env S fun x S1 => l env S1 fun lo S2 => m env S2 fun hi S3 => dSlF x lo hi S3 Q := rfl
@[simp ↓] theorem u_sliceS {l m : DO} : dSliceS f l m env S Q = f env S fun x S1 => l env S1 fun lo S2 => m env S2 fun hi S3 => dSlS x lo hi S3 Q := rfl
@[simp ↓] theorem u_lcF {i : DI} {l : LTg} {vs : List Nat} : dLcF i l vs t f env S Q = i env S fun ok xs S1 => dLcL ok l t f (wipeE env vs) (fun acc S2 => Q (.lst acc) S2) xs S1 [] := rfl
@[simp ↓] theorem u_lcS {i : DI} {l : LTg} {vs : List Nat} : dLcS i l vs t f env S Q = i env S fun ok xs S1 => dLcL ok l t f (wipeE env vs) (fun acc S2 => Q (.ref S2.length) (S2 ++ [.lst acc])) xs S1 [] := rfl
@[simp ↓] theorem u_call {Φ : DP} {W : XD} : dCall Φ W fa env S Q = fa env S fun ds S1 => Φ ds S1 Q fun c fs S2 => W c fs env S2 := rfl
@[simp ↓] theorem u_make {fo : String → List Str} {c : String} {Φ : DP} {W : XD} : dMake fo c Φ W fa env S Q = fa env S fun ds S1 =>
  Φ (.ref S1.length :: ds) (S1 ++ [.inst c [] []]) (fun d S2 => d = .non ∧ ∃ d' S3, Cut fo S1 S2 (.ref S1.length) d' S3 ∧ Q d' S3) fun c' fs S2 => ∃ fs' S3, CutX fo S1 S2 fs fs' S3 ∧ W c' fs' env S3 := rfl
@[simp ↓] theorem u_makeK {fo : String → List Str} {c : String} {Φ : DP} {W : XD} {m : Nat} {ix : List Nat} : dMakeK fo c Φ W m ix fa env S Q = fa env S fun ds S1 => ds.length = m ∧
  Φ (.ref S1.length :: permL ix ds) (S1 ++ [.inst c [] []]) (fun d S2 => d = .non ∧ ∃ d' S3, Cut fo S1 S2 (.ref S1.length) d' S3 ∧ Q d' S3) fun c' fs S2 => ∃ fs' S3, CutX fo S1 S2 fs fs' S3 ∧ W c' fs' env S3 := rfl
@[simp ↓] theorem u_callK {Φ : DP} {W : XD} {m : Nat} {ix : List Nat} : dCallK Φ W m ix fa env S Q = fa env S fun ds S1 => ds.length = m ∧ Φ (permL ix ds) S1 Q fun c fs S2 => W c fs env S2 := rfl
@[simp ↓] theorem u_isi {cs : List String} {T : Tg} : dIsi cs T f env S Q = f env S fun d S1 => match tgIn cs S1 d with
  | some t => Q (.bl (isTg t T)) S1
  | none => False := by
  unfold dIsi; congr 1; funext d S1; cases tgIn cs S1 d <;> simp
@[simp ↓] theorem u_isiT {cs : List String} {Ts : List Tg} : dIsiT cs Ts f env S Q = f env S fun d S1 => match tgIn cs S1 d with
  | some t => Q (.bl (Ts.any (isTg t))) S1
  | none => False := by
  unfold dIsiT; congr 1; funext d S1; cases tgIn cs S1 d <;> simp
@[simp ↓] theorem u_fld {fo : String → List Str} {cs : List String} {n : Str} : dFld fo cs n f env S Q = f env S fun x S1 => match fldD fo cs n x S1 with
  | some v => Q v S1
  | none => False := by
  unfold dFld; congr 1; funext x S1; cases fldD fo cs n x S1 <;> simp
@[simp ↓] theorem u_fldS {c : String} {n : Str} : dFldS c n f h Dn env S = h env S fun y S1 => f env S1 fun x S2 => ∃ n' ks vs, x = .ref n' ∧ S2[n']? = some (.inst c ks vs) ∧ ks.length < 1000 ∧ Dn.nx env (S2.set n' (.inst c (putD n y ks vs).1 (putD n y ks vs).2)) := rfl
@[simp ↓] theorem u_raise {fo : String → List Str} {c : String} {W : XD} : dRaise fo c W fa Dn env S = fa env S fun ds S1 => ds.length = (fo c).length ∧ W c ds env S1 := rfl
@[simp ↓] theorem u_cb {r : DL'} : dCB r fa env S Q = fa env S fun ds S1 => r ds S1 Q := rfl
@[simp ↓] theorem u_bm {T : String} {r : DM} : dBM T r f fa env S Q = f env S fun o S1 => tyM T S1 o = true ∧ fa env S1 fun xs S2 => r o xs S2 Q := rfl
@[simp ↓] theorem u_slice {l m : DO} : dSlice f l m env S Q = f env S fun x S1 => l env S1 fun lo S2 => m env S2 fun hi S3 => dSl x lo hi S3 Q := rfl
@[simp ↓] theorem u_nopart {P : Option Int → Sto → Prop} : dNoPart env S P = P none S := rfl
@[simp ↓] theorem u_part {P : Option Int → Sto → Prop} : dPart f env S P = f env S fun d S' => ∃ i, d = .int i ∧ P (some i) S' := rfl
@[simp ↓] theorem u_xf {fo : String → List Str} {a : Addr} {c : String} {vs : List D} {n : Str} : dXf fo a c vs n f env S Q = f env S fun x S1 => x = .adr a ∧ ∃ v, ((fo c).zip vs).lookup n = some v ∧ Q v S1 := rfl
@[simp ↓] theorem u_isX {a : Addr} {b : Bool} : dIsX a b f env S Q = f env S fun x S1 => x = .adr a ∧ Q (.bl b) S1 := rfl
@[simp ↓] theorem u_dic {ks : List Str} : dDic ks fa env S Q = fa env (S ++ [.dic [] []]) fun ds S1 => S1[S.length]? = some (.dic [] []) ∧ ds.length = ks.length ∧ Q (.ref S.length) (S1.set S.length (.dic (ks.map Sum.inr) ds)) := rfl
@[simp ↓] theorem u_kget {kv : List (Str × D)} : dKget kv f env S Q = f env S fun y S1 => ∃ z d, y = .str z ∧ kv.lookup z = some d ∧ Q d S1 := rfl
@[simp ↓] theorem u_for {i : DI} {g : DG} : dFor i g s1 Dn env S = i env S fun ok xs S1 => dLoop ok g s1 Dn xs env S1 := rfl
@[simp ↓] theorem u_lc {i : DI} {l : LTg} {vs : List Nat} : dLc i l vs t f env S Q = i env S fun ok xs S1 => dLcL ok l t f (wipeE env vs) (fun acc S2 => Q (.lst acc) S2 ∨ Q (.ref S2.length) (S2 ++ [.lst acc])) xs S1 [] := rfl
@[simp ↓] theorem u_yes : dYes env S QB = QB true S := rfl
@[simp ↓] theorem u_rng1 {P : (Sto → Prop) → List D → Sto → Prop} : diRng1 fa env S P = fa env S fun ds S1 => ∃ j : Int, ds = [.int j] ∧ -(2 ^ 62) ≤ j ∧ j < 2 ^ 62 ∧ P (fun _ => True) (rngD 0 j.toNat) S1 := rfl
@[simp ↓] theorem u_rng2 {P : (Sto → Prop) → List D → Sto → Prop} : diRng2 fa env S P = fa env S fun ds S1 => ∃ i j : Int, ds = [.int i, .int j] ∧ (-(2 ^ 62) ≤ i ∧ i < 2 ^ 62 ∧ -(2 ^ 62) ≤ j ∧ j < 2 ^ 62) ∧ P (fun _ => True) (rngD i (j - i).toNat) S1 := rfl
@[simp ↓] theorem u_enum {P : (Sto → Prop) → List D → Sto → Prop} : diEnum fa env S P = fa env S fun ds S1 => ∃ d xs, ds = [d] ∧ sq S1 d = some xs ∧ P (okSq d xs) (enumD 0 xs) S1 := rfl
@[simp ↓] theorem u_zip {P : (Sto → Prop) → List D → Sto → Prop} : diZip fa env S P = fa env S fun ds S1 => ∃ d e xs ys, ds = [d, e] ∧ sq S1 d = some xs ∧ sq S1 e = some ys ∧ ((∃ a b, d = .tup a ∧ e = .tup b) ∨ (∃ a b, sqL S1 d = some a ∧ sqL S1 e = some b)) ∧ P (fun S => okSq d xs S ∧ okSq e ys S) (zipD xs ys) S1 := rfl
end
/-- what a walk over d sees -/
def anyOf (d : D) (S : Sto) (P : (Sto → Prop) → List D → Sto → Prop) : Prop := match d with
  | .str x => P (fun _ => True) (signsD x) S
  | d => ∃ xs, sq S d = some xs ∧ P (okSq d xs) xs S
@[simp ↓] theorem u_any {f : DE} {env : En} {S : Sto} {P : (Sto → Prop) → List D → Sto → Prop} : diAny f env S P = f env S fun d S1 => anyOf d S1 P := rfl
theorem any_sq {d : D} {S : Sto} {P : (Sto → Prop) → List D → Sto → Prop} {xs : List D} (h : sq S d = some xs) (q : P (okSq d xs) xs S) : anyOf d S P := by
  unfold anyOf
  split
  · simp [sq, sqL] at h
  · exact ⟨xs, h, q⟩
@[simp ↓] theorem any_str {x : Str} {S : Sto} {P : (Sto → Prop) → List D → Sto → Prop} : anyOf (.str x) S P = P (fun _ => True) (signsD x) S := rfl
@[simp ↓] theorem any_tup {xs : List D} {S : Sto} {P : (Sto → Prop) → List D → Sto → Prop} : anyOf (.tup xs) S P = P (okSq (.tup xs) xs) xs S := by
  apply propext; constructor
  · rintro ⟨ys, e, q⟩; cases e; exact q
  · exact fun q => any_sq rfl q
@[simp ↓] theorem any_lstD {xs : List D} {S : Sto} {P : (Sto → Prop) → List D → Sto → Prop} : anyOf (.lst xs) S P = P (okSq (.lst xs) xs) xs S := by
  apply propext; constructor
  · rintro ⟨ys, e, q⟩; cases e; exact q
  · exact fun q => any_sq rfl q
@[simp ↓] theorem u_slt {xs : List D} {lo hi : Option Int} {S : Sto} {Q : DK} : dSl (.tup xs) lo hi S Q = Q (.tup (cutD xs lo hi)) S := rfl
@[simp ↓] theorem u_sls {z : Str} {lo hi : Option Int} {S : Sto} {Q : DK} : dSl (.str z) lo hi S Q = (z.length ≤ sizeLine ∧ Q (.str (cutS z lo hi)) S) := rfl
@[simp] theorem sq_tup {S : Sto} {xs : List D} : sq S (.tup xs) = some xs := rfl
@[simp] theorem sq_lst {S : Sto} {xs : List D} : sq S (.lst xs) = some xs := rfl
@[simp] theorem sq_scr {S : Sto} {ns : List Int} : sq S (.scr ns) = some (ns.map .int) := rfl
@[simp] theorem sqL_lst {S : Sto} {xs : List D} : sqL S (.lst xs) = some xs := rfl
@[simp] theorem sqL_tup {S : Sto} {xs : List D} : sqL S (.tup xs) = none := rfl
theorem all_lst {S : Sto} {Q : DK} {bs : List Bool} (q : Q (.bl (bs.all id)) S) : dAll [.lst (bs.map D.bl)] S Q := ⟨_, bs, rfl, rfl, q⟩
theorem any_lst {S : Sto} {Q : DK} {bs : List Bool} (q : Q (.bl (bs.any id)) S) : dAny [.lst (bs.map D.bl)] S Q := ⟨_, bs, rfl, rfl, q⟩
/-! ### built-ins on data -/
section
variable {S : Sto} {Q : DK}
@[simp ↓] theorem u_len {d : D} : dLen [d] S Q = ∃ n, lenD S d = some n ∧ Q (.int n) S := by
  unfold dLen; apply propext; constructor
  · rintro ⟨d', n, e, h1, h2⟩; cases e; exact ⟨n, h1, h2⟩
  · rintro ⟨n, h1, h2⟩; exact ⟨d, n, rfl, h1, h2⟩
@[simp ↓] theorem u_abs {i : Int} : dAbs [.int i] S Q = Q (.int (if i < 0 then -i else i)) S := by
  unfold dAbs; apply propext; constructor
  · rintro ⟨d', e, h1⟩; cases e; exact h1
  · intro h; exact ⟨i, rfl, h⟩
@[simp ↓] theorem u_int {i : Int} : dInt [.int i] S Q = Q (.int i) S := by
  unfold dInt; apply propext; constructor
  · rintro (⟨d', e, h1⟩ | ⟨d', e, h1⟩) <;> cases e; exact h1
  · intro h; exact .inl ⟨i, rfl, h⟩
@[simp ↓] theorem u_intb {k : Bool} : dInt [.bl k] S Q = Q (.int (if k then 1 else 0)) S := by
  unfold dInt; apply propext; constructor
  · rintro (⟨d', e, h1⟩ | ⟨d', e, h1⟩) <;> cases e; exact h1
  · intro h; exact .inr ⟨k, rfl, h⟩
@[simp ↓] theorem u_sub {i j : Int} : dSub (.int i) (.int j) S Q = Q (.int (i - j)) S := by simp [dSub]
@[simp ↓] theorem u_mul {i j : Int} : dMul (.int i) (.int j) S Q = (CMul i j ∧ Q (.int (i * j)) S) := by simp [dMul]
@[simp ↓] theorem u_divv {i j : Int} : dDivv (.int i) (.int j) S Q = (CDiv i j ∧ Q (.int (i / j)) S) := by simp [dDivv]
@[simp ↓] theorem u_mod {i j : Int} : dMod (.int i) (.int j) S Q = (0 < j ∧ Q (.int (i % j)) S) := by simp [dMod]
@[simp ↓] theorem u_pow {i j : Int} : dPow (.int i) (.int j) S Q = (CPow i j ∧ Q (.int (i ^ j.toNat)) S) := by simp [dPow]
@[simp ↓] theorem u_lt {i j : Int} : dLt (.int i) (.int j) S Q = Q (.bl (decide (i < j))) S := by simp [dLt]
@[simp ↓] theorem u_le {i j : Int} : dLe (.int i) (.int j) S Q = Q (.bl (decide (i ≤ j))) S := by simp [dLe]
@[simp ↓] theorem u_gt {i j : Int} : dGt (.int i) (.int j) S Q = Q (.bl (decide (j < i))) S := by simp [dGt]
@[simp ↓] theorem u_ge {i j : Int} : dGe (.int i) (.int j) S Q = Q (.bl (decide (j ≤ i))) S := by simp [dGe]
@[simp ↓] theorem u_neg {i : Int} : dNeg (.int i) S Q = Q (.int (-i)) S := by simp [dNeg]
@[simp ↓] theorem u_add {i j : Int} : dAdd (.int i) (.int j) S Q = Q (.int (i + j)) S := rfl
@[simp ↓] theorem u_adds {i j : Str} : dAdd (.str i) (.str j) S Q = (i.length + j.length ≤ sizeLine ∧ Q (.str (i ++ j)) S) := rfl
@[simp ↓] theorem u_addt {i j : List D} : dAdd (.tup i) (.tup j) S Q = (i.length + j.length ≤ sizeLine ∧ Q (.tup (i ++ j)) S) := rfl
@[simp ↓] theorem u_addF {i j : Int} : dAddF (.int i) (.int j) S Q = Q (.int (i + j)) S := rfl
@[simp ↓] theorem u_addsF {i j : Str} : dAddF (.str i) (.str j) S Q = (i.length + j.length ≤ sizeLine ∧ Q (.str (i ++ j)) S) := rfl
@[simp ↓] theorem u_addtF {i j : List D} : dAddF (.tup i) (.tup j) S Q = (i.length + j.length ≤ sizeLine ∧ Q (.tup (i ++ j)) S) := rfl
@[simp ↓] theorem u_slFt {xs : List D} {lo hi : Option Int} : dSlF (.tup xs) lo hi S Q = Q (.tup (cutD xs lo hi)) S := rfl
@[simp ↓] theorem u_slFs {z : Str} {lo hi : Option Int} : dSlF (.str z) lo hi S Q = (z.length ≤ sizeLine ∧ Q (.str (cutS z lo hi)) S) := rfl
@[simp ↓] theorem u_isnon {x : D} {neg : Bool} : dIs neg x .non S Q = Q (.bl (if neg then !isNon x else isNon x)) S := by cases neg <;> rfl
@[simp ↓] theorem u_isbl {x : D} {neg b : Bool} : dIs neg x (.bl b) S Q = Q (.bl (if neg then !isBl b x else isBl b x)) S := by cases neg <;> rfl
@[simp ↓] theorem u_eqi {i j : Int} {neg : Bool} : dEqD neg (.int i) (.int j) S Q = Q (.bl (if neg then !decide (i = j) else decide (i = j))) S := rfl
@[simp ↓] theorem u_eqs {i j : Str} {neg : Bool} : dEqD neg (.str i) (.str j) S Q = Q (.bl (if neg then !decide (i = j) else decide (i = j))) S := rfl
@[simp ↓] theorem u_eqb {i j : Bool} {neg : Bool} : dEqD neg (.bl i) (.bl j) S Q = Q (.bl (if neg then !decide (i = j) else decide (i = j))) S := rfl
@[simp ↓] theorem u_append {n : Nat} {d : D} : dAppend (.ref n) [d] S Q = ∃ xs, S[n]? = some (.lst xs) ∧ xs.length < sizeLine ∧ Q .non (S.set n (.lst (xs ++ [d]))) := by
  unfold dAppend; apply propext; constructor
  · rintro ⟨n', xs, d', e, e2, h1, h2, h3⟩; cases e; cases e2; exact ⟨xs, h1, h2, h3⟩
  · rintro ⟨xs, h1, h2, h3⟩; exact ⟨n, xs, d, rfl, rfl, h1, h2, h3⟩
end
end DL
set_option maxHeartbeats 4000000
/-! DL, seventeenth part: plain data; what is common to the laws. -/
namespace DL
open PySem PySem.Spec L2
/-! ### plain data -/
mutual
/-- plain data of depth at most k, small -/
def pl : Nat → D → Bool
  | _, .non => true
  | _, .bl _ => true
  | _, .int _ => true
  | _, .str x => decide (x.length ≤ 1000000)
  | k + 1, .tup xs => decide (xs.length ≤ 1000000) && plL k xs
  | k + 1, .lst xs => decide (xs.length ≤ 1000000) && plL k xs
  | _, _ => false
def plL : Nat → List D → Bool
  | _, [] => true
  | k, x :: xs => pl k x && plL k xs
end
mutual
def eqD : D → D → Bool
  | .non, .non => true
  | .bl a, .bl b => decide (a = b)
  | .int a, .int b => decide (a = b)
  | .str a, .str b => decide (a = b)
  | .tup xs, .tup ys => eqDL xs ys
  | .lst xs, .lst ys => eqDL xs ys
  | _, _ => false
def eqDL : List D → List D → Bool
  | [], [] => true
  | x :: xs, y :: ys => eqD x y && eqDL xs ys
  | _, _ => false
end
mutual
theorem eqD_eq : ∀ {a b : D}, eqD a b = true → a = b
  | .non, b, h => by cases b <;> simp [eqD] at h ⊢
  | .bl _, b, h => by cases b <;> simp [eqD] at h ⊢; exact h
  | .int _, b, h => by cases b <;> simp [eqD] at h ⊢; exact h
  | .str _, b, h => by cases b <;> simp [eqD] at h ⊢; exact h
  | .tup xs, b, h => by cases b <;> simp [eqD] at h ⊢; exact eqDL_eq h
  | .lst xs, b, h => by cases b <;> simp [eqD] at h ⊢; exact eqDL_eq h
  | .ref _, b, h => by cases b <;> simp [eqD] at h
  | .ins _ _, b, h => by cases b <;> simp [eqD] at h
  | .dic _ _, b, h => by cases b <;> simp [eqD] at h
  | .adr _, b, h => by cases b <;> simp [eqD] at h
  | .ty _, b, h => by cases b <;> simp [eqD] at h
  | .scr _, b, h => by cases b <;> simp [eqD] at h
theorem eqDL_eq : ∀ {a b : List D}, eqDL a b = true → a = b
  | [], [], _ => rfl
  | [], _ :: _, h => by simp [eqDL] at h
  | _ :: _, [], h => by simp [eqDL] at h
  | x :: xs, y :: ys, h => by
    simp only [eqDL, Bool.and_eq_true] at h
    rw [eqD_eq h.1, eqDL_eq h.2]
end
mutual
theorem eqD_refl : ∀ {k : Nat} {a : D}, pl k a = true → eqD a a = true
  | _, .non, _ => rfl
  | _, .bl _, _ => by simp [eqD]
  | _, .int _, _ => by simp [eqD]
  | _, .str _, _ => by simp [eqD]
  | 0, .tup xs, h => by simp [pl] at h
  | 0, .lst xs, h => by simp [pl] at h
  | k + 1, .tup xs, h => by
    simp only [pl, Bool.and_eq_true] at h
    simp only [eqD]; exact eqDL_refl h.2
  | k + 1, .lst xs, h => by
    simp only [pl, Bool.and_eq_true] at h
    simp only [eqD]; exact eqDL_refl h.2
  | k, .ref _, h => by cases k <;> simp [pl] at h
  | k, .ins _ _, h => by cases k <;> simp [pl] at h
  | k, .dic _ _, h => by cases k <;> simp [pl] at h
  | k, .adr _, h => by cases k <;> simp [pl] at h
  | k, .ty _, h => by cases k <;> simp [pl] at h
  | k, .scr _, h => by cases k <;> simp [pl] at h
theorem eqDL_refl : ∀ {k : Nat} {a : List D}, plL k a = true → eqDL a a = true
  | _, [], _ => rfl
  | k, x :: xs, h => by
    simp only [plL, Bool.and_eq_true] at h
    simp only [eqDL, Bool.and_eq_true]
    exact ⟨eqD_refl h.1, eqDL_refl h.2⟩
end
theorem eqD_iff {k : Nat} {a b : D} (h : pl k a = true) : eqD a b = true ↔ a = b := ⟨eqD_eq, fun e => by rw [← e]; exact eqD_refl h⟩
theorem eqDL_iff {k : Nat} {a b : List D} (h : plL k a = true) : eqDL a b = true ↔ a = b := ⟨eqDL_eq, fun e => by rw [← e]; exact eqDL_refl h⟩
mutual
theorem pl_up : ∀ {k : Nat} {a : D}, pl k a = true → pl (k + 1) a = true
  | _, .non, _ => by simp [pl]
  | _, .bl _, _ => by simp [pl]
  | _, .int _, _ => by simp [pl]
  | k, .str _, h => by cases k <;> · simp [pl] at h ⊢; exact h
  | 0, .tup xs, h => by simp [pl] at h
  | 0, .lst xs, h => by simp [pl] at h
  | k + 1, .tup xs, h => by
    simp only [pl, Bool.and_eq_true] at h ⊢
    exact ⟨h.1, plL_up h.2⟩
  | k + 1, .lst xs, h => by
    simp only [pl, Bool.and_eq_true] at h ⊢
    exact ⟨h.1, plL_up h.2⟩
  | k, .ref _, h => by cases k <;> simp [pl] at h
  | k, .ins _ _, h => by cases k <;> simp [pl] at h
  | k, .dic _ _, h => by cases k <;> simp [pl] at h
  | k, .adr _, h => by cases k <;> simp [pl] at h
  | k, .ty _, h => by cases k <;> simp [pl] at h
  | k, .scr _, h => by cases k <;> simp [pl] at h
theorem plL_up : ∀ {k : Nat} {a : List D}, plL k a = true → plL (k + 1) a = true
  | _, [], _ => rfl
  | k, x :: xs, h => by
    simp only [plL, Bool.and_eq_true] at h ⊢
    exact ⟨pl_up h.1, plL_up h.2⟩
end
theorem pl_le {k j : Nat} {a : D} (h : pl k a = true) (hj : k ≤ j) : pl j a = true := by
  induction hj with
  | refl => exact h
  | step _ ih => exact pl_up ih
theorem plL_all {k : Nat} : ∀ {xs : List D}, plL k xs = true ↔ ∀ x ∈ xs, pl k x = true
  | [] => by simp [plL]
  | x :: xs => by simp [plL, plL_all]
theorem plL_get {k : Nat} {xs : List D} (h : plL k xs = true) {i : Nat} {x : D} (e : xs[i]? = some x) : pl k x = true := plL_all.mp h x (List.mem_of_getElem? e)
/-- as it is seen: a list of the store by its content -/
def vw (S : Sto) (d : D) : D := match sqL S d with
  | some xs => .lst xs
  | none => d
theorem vw_pl {S : Sto} {k : Nat} {d : D} (h : pl k d = true) : vw S d = d := by
  unfold vw
  cases d with
  | ref n => cases k <;> simp [pl] at h
  | lst xs => rfl
  | _ => rfl
/-- the tag of plain data -/
def tgP : D → Option Tg
  | .non => some (.b "NoneType")
  | .bl _ => some (.b "bool")
  | .int _ => some (.b "int")
  | .str _ => some (.b "str")
  | .tup _ => some (.b "tuple")
  | .lst _ => some (.b "list")
  | _ => none
theorem tgIn_vw {cs : List String} {S : Sto} {k : Nat} {d : D} (h : pl k (vw S d) = true) : tgIn cs S d = tgP (vw S d) := by
  cases d with
  | ref n =>
    unfold vw sqL at h ⊢
    unfold tgIn tgD
    simp only at h ⊢
    split at h
    · rename_i xs e
      split at e
      · rename_i ys e2
        rw [e2]
        cases e
        simp [tgP]
      · cases e
    · cases k <;> simp [pl] at h
  | ins c vs => cases k <;> simp [vw, sqL, pl] at h
  | dic c vs => cases k <;> simp [vw, sqL, pl] at h
  | adr c => cases k <;> simp [vw, sqL, pl] at h
  | ty c => cases k <;> simp [vw, sqL, pl] at h
  | scr c => cases k <;> simp [vw, sqL, pl] at h
  | _ => simp [vw, sqL, tgIn, tgD, tgP]
theorem tgIn_pl {cs : List String} {S : Sto} {k : Nat} {d : D} (h : pl k d = true) : tgIn cs S d = tgP d := by
  have := tgIn_vw (cs := cs) (S := S) (d := d) (k := k) (by rw [vw_pl h]; exact h)
  rw [this, vw_pl h]
theorem sq_vw {S : Sto} {k : Nat} {d : D} {xs : List D} (h : vw S d = .lst xs) : sqL S d = some xs ∧ sq S d = some xs := by
  unfold vw at h
  split at h
  · rename_i ys e
    cases h
    refine ⟨e, ?_⟩
    cases d with
    | ref n => exact e
    | lst ys => exact e
    | _ => simp [sqL] at e
  · subst h; rename_i e; simp [sqL] at e
theorem vw_tup {S : Sto} {d : D} {xs : List D} (h : vw S d = .tup xs) : d = .tup xs := by
  unfold vw at h
  split at h
  · cases h
  · exact h
theorem vw_sc {S : Sto} {d e : D} (h : vw S d = e) (hl : ∀ xs, e ≠ .lst xs) : d = e := by
  unfold vw at h
  split at h
  · exact absurd h.symm (hl _)
  · exact h
@[simp] theorem isNon_non  : isNon .non = true := rfl
@[simp] theorem isBl_non {k : Bool}  : isBl k .non = false := rfl
@[simp] theorem isNon_bl {b : Bool} : isNon (.bl b) = false := rfl
@[simp] theorem isBl_bl {b k : Bool} : isBl k (.bl b) = decide (b = k) := rfl
@[simp] theorem isNon_int {i : Int} : isNon (.int i) = false := rfl
@[simp] theorem isBl_int {k : Bool} {i : Int} : isBl k (.int i) = false := rfl
@[simp] theorem isNon_str {x : Str} : isNon (.str x) = false := rfl
@[simp] theorem isBl_str {k : Bool} {x : Str} : isBl k (.str x) = false := rfl
@[simp] theorem isNon_tup {xs : List D} : isNon (.tup xs) = false := rfl
@[simp] theorem isBl_tup {k : Bool} {xs : List D} : isBl k (.tup xs) = false := rfl
@[simp] theorem isNon_lst {xs : List D} : isNon (.lst xs) = false := rfl
@[simp] theorem isBl_lst {k : Bool} {xs : List D} : isBl k (.lst xs) = false := rfl
@[simp] theorem isNon_ref {n : Nat} : isNon (.ref n) = false := rfl
@[simp] theorem isBl_ref {k : Bool} {n : Nat} : isBl k (.ref n) = false := rfl
@[simp] theorem isNon_ins {c : String} {xs : List D} : isNon (.ins c xs) = false := rfl
@[simp] theorem isBl_ins {k : Bool} {c : String} {xs : List D} : isBl k (.ins c xs) = false := rfl
@[simp] theorem tgIn_non {cs : List String} {S : Sto}  : tgIn cs S .non = some (.b "NoneType") := rfl
@[simp] theorem tgP_non  : tgP .non = some (.b "NoneType") := rfl
@[simp] theorem tgIn_bl {cs : List String} {S : Sto} {b : Bool} : tgIn cs S (.bl b) = some (.b "bool") := rfl
@[simp] theorem tgP_bl {b : Bool} : tgP (.bl b) = some (.b "bool") := rfl
@[simp] theorem tgIn_int {cs : List String} {S : Sto} {i : Int} : tgIn cs S (.int i) = some (.b "int") := rfl
@[simp] theorem tgP_int {i : Int} : tgP (.int i) = some (.b "int") := rfl
@[simp] theorem tgIn_str {cs : List String} {S : Sto} {x : Str} : tgIn cs S (.str x) = some (.b "str") := rfl
@[simp] theorem tgP_str {x : Str} : tgP (.str x) = some (.b "str") := rfl
@[simp] theorem tgIn_tup {cs : List String} {S : Sto} {xs : List D} : tgIn cs S (.tup xs) = some (.b "tuple") := rfl
@[simp] theorem tgP_tup {xs : List D} : tgP (.tup xs) = some (.b "tuple") := rfl
@[simp] theorem tgIn_lst {cs : List String} {S : Sto} {xs : List D} : tgIn cs S (.lst xs) = some (.b "list") := rfl
@[simp] theorem tgP_lst {xs : List D} : tgP (.lst xs) = some (.b "list") := rfl
@[simp] theorem tgIn_ins {cs : List String} {S : Sto} {c : String} {xs : List D} (h : cs.contains c = true) : tgIn cs S (.ins c xs) = some (.o c) := by unfold tgIn tgD; simp only [Option.filter, h, if_true]
@[simp] theorem isTg_bb {t T : String} : isTg (.b t) (.b T) = (t == T || (t == "bool" && T == "int")) := rfl
@[simp] theorem isTg_bo {t T : String} : isTg (.b t) (.o T) = false := rfl
@[simp] theorem isTg_ob {t T : String} : isTg (.o t) (.b T) = false := rfl
@[simp] theorem isTg_oo {t T : String} : isTg (.o t) (.o T) = (t == T) := rfl
theorem vw_ref {S : Sto} {n : Nat} : (∃ xs, vw S (.ref n) = .lst xs) ∨ vw S (.ref n) = .ref n := by
  unfold vw
  cases sqL S (.ref n) with
  | none => exact .inr rfl
  | some xs => exact .inl ⟨xs, rfl⟩
theorem isNon_vw {S : Sto} {b : D} : isNon b = eqD .non (vw S b) := by
  cases b
  case ref n => rcases vw_ref (S := S) (n := n) with ⟨xs, e⟩ | e <;> rw [e] <;> simp [eqD]
  all_goals simp [isNon, vw, sqL, eqD]
theorem isBl_vw {S : Sto} {b : D} {k : Bool} : isBl k b = eqD (.bl k) (vw S b) := by
  cases b
  case ref n => rcases vw_ref (S := S) (n := n) with ⟨xs, e⟩ | e <;> rw [e] <;> simp [eqD]
  case bl c => cases k <;> cases c <;> simp [vw, sqL, eqD]
  all_goals simp [isBl, vw, sqL, eqD]
theorem pl_casesN {k : Nat} {d : D} (h : pl k d = true) : d = .non ∨ (∃ b, d = .bl b) ∨ (∃ i, d = .int i) ∨ (∃ x, d = .str x ∧ x.length ≤ 1000000) ∨ (∃ j xs, d = .tup xs ∧ k = j + 1 ∧ plL j xs = true ∧ xs.length ≤ 1000000) ∨ (∃ j xs, d = .lst xs ∧ k = j + 1 ∧ plL j xs = true ∧ xs.length ≤ 1000000) := by
  cases d <;> cases k <;> simp [pl] at h ⊢
  all_goals first | exact h | exact ⟨h.2, h.1⟩
theorem len_vwL {S : Sto} {d : D} {xs : List D} (h : sqL S d = some xs) : lenD S d = some xs.length := by
  cases d with
  | lst ys => cases h; rfl
  | ref n => show (sqL S (.ref n)).map List.length = _; rw [h]; rfl
  | _ => simp [sqL] at h
theorem ix_sq {S : Sto} {Q : DK} {a v : D} {xs : List D} {i : Int} (h : sq S a = some xs) (e : atI xs i = some v) (q : Q v S) : dIx a (.int i) S Q := by
  unfold dIx
  split
  · simp [sq, sqL] at h
  · exact ⟨xs, i, v, h, rfl, e, q⟩
theorem atI_nat {α : Type} {xs : List α} {i : Nat} {v : α} (e : xs[i]? = some v) : atI xs (i : Int) = some v := by
  have h := (List.getElem?_eq_some_iff.mp e).1
  unfold atI ixN
  rw [if_pos (by omega), if_pos (by omega)]
  simpa using e
/-- any item of a sequence -/
theorem ix_pick {S : Sto} {Q : DK} {a : D} {xs : List D} {i : Int} (h : sq S a = some xs) (h0 : 0 ≤ i) (hi : i < xs.length) (q : ∀ v ∈ xs, Q v S) : dIx a (.int i) S Q := by
  have hn : i.toNat < xs.length := by omega
  have e := List.getElem?_eq_getElem hn
  refine ix_sq h (v := xs[i.toNat]) ?_ (q _ (List.getElem_mem hn))
  have := atI_nat e
  rwa [show ((i.toNat : Nat) : Int) = i from Int.toNat_of_nonneg h0] at this
theorem tuple_lst {S : Sto} {Q : DK} {xs : List D} (q : Q (.tup xs) S) : dTuple [.lst xs] S Q := ⟨_, xs, rfl, .inr (.inr rfl), q⟩
theorem tuple_sq {S : Sto} {Q : DK} {d : D} {xs : List D} (h : sqL S d = some xs) (q : Q (.tup xs) S) : dTuple [d] S Q := ⟨_, xs, rfl, .inr (.inr h), q⟩
theorem list_sq {S : Sto} {Q : DK} {d : D} {xs : List D} (h : sq S d = some xs) (q : Q (.lst xs) S) : dListF [d] S Q := ⟨_, xs, rfl, h, q⟩
theorem sqL_sq {S : Sto} {a : D} {xs : List D} (h : sqL S a = some xs) : sq S a = some xs := by
  cases a with
  | lst ys => exact h
  | ref n => exact h
  | _ => simp [sqL] at h
/-! ### comprehensions that change nothing -/
theorem lc_map {ok : Sto → Prop} {l : LTg} {te : DE} {env : En} {Kk : List D → Sto → Prop} {S : Sto} (f : D → D) (hok : ok S) : ∀ {xs acc : List D}, acc.length + xs.length ≤ sizeLine → (∀ x ∈ xs, ∀ R : DK, R (f x) S → l.bind x env fun e1 => te e1 S R) → Kk (acc ++ xs.map f) S → dLcL ok l dYes te env Kk xs S acc
  | [], acc, _, _, fin => ⟨hok, by simpa using fin⟩
  | x :: xs, acc, hl, hx, fin => by
    rw [List.length_cons] at hl
    refine ⟨hok, ?_⟩
    have r := hx x (by simp) (fun y S3 => acc.length < sizeLine ∧ dLcL ok l dYes te env Kk xs S3 (acc ++ [y])) ⟨by omega, lc_map f hok (by simp; omega) (fun y hy => hx y (List.mem_cons_of_mem _ hy)) (by simpa using fin)⟩
    exact r
/-- the answers of the test p: those items are kept -/
theorem lc_filter {ok : Sto → Prop} {l : LTg} {tt : DT} {te : DE} {env : En} {Kk : List D → Sto → Prop} {S : Sto} (p : D → Bool) (f : D → D) (hok : ok S) : ∀ {xs acc : List D}, acc.length + xs.length ≤ sizeLine →
    (∀ x ∈ xs, ∀ (R : DK) (R' : Sto → Prop), (p x = true → R (f x) S) → (p x = false → R' S) → l.bind x env fun e1 => tt e1 S fun b S2 => if b = true then te e1 S2 R else R' S2) → Kk (acc ++ (xs.filter p).map f) S → dLcL ok l tt te env Kk xs S acc
  | [], acc, _, _, fin => ⟨hok, by simpa using fin⟩
  | x :: xs, acc, hl, hx, fin => by
    rw [List.length_cons] at hl
    refine ⟨hok, hx x (by simp) (fun y S3 => acc.length < sizeLine ∧ dLcL ok l tt te env Kk xs S3 (acc ++ [y])) (fun S2 => dLcL ok l tt te env Kk xs S2 acc) (fun h => ⟨by omega, lc_filter p f hok (by simp; omega) (fun y hy => hx y (List.mem_cons_of_mem _ hy)) ?_⟩) fun h => lc_filter p f hok (by omega) (fun y hy => hx y (List.mem_cons_of_mem _ hy)) ?_⟩
    · rw [List.filter_cons_of_pos h] at fin; simpa using fin
    · rw [List.filter_cons_of_neg (by simp [h])] at fin; exact fin
/-! ### == on data without bools -/
mutual
def nb : Nat → D → Bool
  | _, .non => true
  | _, .int _ => true
  | _, .str x => PyData.strOk x
  | k + 1, .tup xs => nbL k xs
  | k + 1, .lst xs => nbL k xs
  | _, _ => false
def nbL : Nat → List D → Bool
  | _, [] => true
  | k, x :: xs => nb k x && nbL k xs
end
mutual
theorem nb_py : ∀ {k : Nat} {d : D}, nb k d = true → ∃ p, D.py d = some p ∧ p.canLay0 = true ∧ p.depth ≤ k
  | k, .non, _ => ⟨_, rfl, rfl, Nat.zero_le _⟩
  | k, .int _, _ => ⟨_, rfl, rfl, Nat.zero_le _⟩
  | k, .str x, h => ⟨.str x, rfl, by cases k <;> simpa [nb, PyData.canLay0] using h, Nat.zero_le _⟩
  | 0, .tup xs, h => by simp [nb] at h
  | 0, .lst xs, h => by simp [nb] at h
  | k + 1, .tup xs, h => by
    obtain ⟨ps, a, b, c⟩ := nbL_py (k := k) (xs := xs) (by simpa [nb] using h)
    exact ⟨.tuple ps, by simp [D.py, a], b, Nat.succ_le_succ c⟩
  | k + 1, .lst xs, h => by
    obtain ⟨ps, a, b, c⟩ := nbL_py (k := k) (xs := xs) (by simpa [nb] using h)
    exact ⟨.list ps, by simp [D.py, a], b, Nat.succ_le_succ c⟩
  | k, .bl _, h => by cases k <;> simp [nb] at h
  | k, .ref _, h => by cases k <;> simp [nb] at h
  | k, .ins _ _, h => by cases k <;> simp [nb] at h
  | k, .dic _ _, h => by cases k <;> simp [nb] at h
  | k, .adr _, h => by cases k <;> simp [nb] at h
  | k, .ty _, h => by cases k <;> simp [nb] at h
  | k, .scr _, h => by cases k <;> simp [nb] at h
theorem nbL_py : ∀ {k : Nat} {xs : List D}, nbL k xs = true → ∃ ps, D.pyL xs = some ps ∧ PyData.canLayAll0 ps = true ∧ PyData.depthAll ps ≤ k
  | _, [], _ => ⟨[], rfl, rfl, Nat.zero_le _⟩
  | k, x :: xs, h => by
    simp only [nbL, Bool.and_eq_true] at h
    obtain ⟨p, a, b, c⟩ := nb_py h.1
    obtain ⟨ps, a2, b2, c2⟩ := nbL_py h.2
    refine ⟨p :: ps, by simp [D.pyL, a, a2], by simp [PyData.canLayAll0, b, b2], ?_⟩
    simp only [PyData.depthAll]
    exact Nat.max_le.mpr ⟨c, c2⟩
end
mutual
theorem nb_eqv : ∀ {k j : Nat} {a b : D} {p q : PyData}, nb k a = true → nb j b = true → D.py a = some p → D.py b = some q → PyData.eqv p q = eqD a b
  | k, j, .non, b, p, q, ha, hb, ea, eb => by
    cases ea
    cases b <;> first
      | (cases j <;> simp [nb] at hb; done)
      | skip
    all_goals simp only [D.py, Option.map_eq_some_iff, Option.some.injEq] at eb
    all_goals first
      | (subst eb; rfl)
      | (obtain ⟨ps, _, rfl⟩ := eb; rfl)
  | k, j, .int i, b, p, q, ha, hb, ea, eb => by
    cases ea
    cases b <;> first
      | (cases j <;> simp [nb] at hb; done)
      | skip
    all_goals simp only [D.py, Option.map_eq_some_iff, Option.some.injEq] at eb
    all_goals first
      | (subst eb; simp [PyData.eqv, eqD]; done)
      | (obtain ⟨ps, _, rfl⟩ := eb; rfl)
      | (subst eb; simp [PyData.eqv, eqD]; rw [Bool.eq_iff_iff]; simp)
  | k, j, .str i, b, p, q, ha, hb, ea, eb => by
    cases ea
    cases b <;> first
      | (cases j <;> simp [nb] at hb; done)
      | skip
    all_goals simp only [D.py, Option.map_eq_some_iff, Option.some.injEq] at eb
    all_goals first
      | (subst eb; simp [PyData.eqv, eqD]; done)
      | (obtain ⟨ps, _, rfl⟩ := eb; rfl)
      | (subst eb; simp [PyData.eqv, eqD]; rw [Bool.eq_iff_iff]; simp)
  | k + 1, j, .tup xs, b, p, q, ha, hb, ea, eb => by
    obtain ⟨ps, e1, rfl⟩ := Option.map_eq_some_iff.mp (show (D.pyL xs).map PyData.tuple = some p from ea)
    cases b with
    | tup ys =>
      obtain ⟨qs, e2, rfl⟩ := Option.map_eq_some_iff.mp (show (D.pyL ys).map PyData.tuple = some q from eb)
      cases j with
      | zero => simp [nb] at hb
      | succ j => exact nbL_eqv (k := k) (j := j) (by simpa [nb] using ha) (by simpa [nb] using hb) e1 e2
    | lst ys =>
      obtain ⟨qs, e2, rfl⟩ := Option.map_eq_some_iff.mp (show (D.pyL ys).map PyData.list = some q from eb)
      rfl
    | non => cases eb; rfl
    | int _ => cases eb; rfl
    | str _ => cases eb; rfl
    | _ => cases j <;> simp [nb] at hb
  | k + 1, j, .lst xs, b, p, q, ha, hb, ea, eb => by
    obtain ⟨ps, e1, rfl⟩ := Option.map_eq_some_iff.mp (show (D.pyL xs).map PyData.list = some p from ea)
    cases b with
    | lst ys =>
      obtain ⟨qs, e2, rfl⟩ := Option.map_eq_some_iff.mp (show (D.pyL ys).map PyData.list = some q from eb)
      cases j with
      | zero => simp [nb] at hb
      | succ j => exact nbL_eqv (k := k) (j := j) (by simpa [nb] using ha) (by simpa [nb] using hb) e1 e2
    | tup ys =>
      obtain ⟨qs, e2, rfl⟩ := Option.map_eq_some_iff.mp (show (D.pyL ys).map PyData.tuple = some q from eb)
      rfl
    | non => cases eb; rfl
    | int _ => cases eb; rfl
    | str _ => cases eb; rfl
    | _ => cases j <;> simp [nb] at hb
  | 0, _, .tup _, _, _, _, ha, _, _, _ => by simp [nb] at ha
  | 0, _, .lst _, _, _, _, ha, _, _, _ => by simp [nb] at ha
  | k, _, .bl _, _, _, _, ha, _, _, _ => by cases k <;> simp [nb] at ha
  | k, _, .ref _, _, _, _, ha, _, _, _ => by cases k <;> simp [nb] at ha
  | k, _, .ins _ _, _, _, _, ha, _, _, _ => by cases k <;> simp [nb] at ha
  | k, _, .dic _ _, _, _, _, ha, _, _, _ => by cases k <;> simp [nb] at ha
  | k, _, .adr _, _, _, _, ha, _, _, _ => by cases k <;> simp [nb] at ha
  | k, _, .ty _, _, _, _, ha, _, _, _ => by cases k <;> simp [nb] at ha
  | k, _, .scr _, _, _, _, ha, _, _, _ => by cases k <;> simp [nb] at ha
theorem nbL_eqv : ∀ {k j : Nat} {a b : List D} {p q : List PyData}, nbL k a = true → nbL j b = true → D.pyL a = some p → D.pyL b = some q → PyData.eqvAll p q = eqDL a b
  | _, _, [], [], _, _, _, _, ea, eb => by cases ea; cases eb; rfl
  | _, j, [], y :: ys, _, _, _, hb, ea, eb => by
    cases ea
    simp only [D.pyL] at eb
    split at eb
    · cases eb; rfl
    · cases eb
  | _, j, x :: xs, [], _, _, _, hb, ea, eb => by
    cases eb
    simp only [D.pyL] at ea
    split at ea
    · cases ea; rfl
    · cases ea
  | k, j, x :: xs, y :: ys, _, _, ha, hb, ea, eb => by
    simp only [D.pyL] at ea eb
    simp only [nbL, Bool.and_eq_true] at ha hb
    split at ea
    · rename_i p ps h1 h2
      cases ea
      split at eb
      · rename_i q qs h3 h4
        cases eb
        simp only [PyData.eqvAll, eqDL, nb_eqv ha.1 hb.1 h1 h3, nbL_eqv ha.2 hb.2 h2 h4]
      · cases eb
    · cases ea
end
/-- == of two values without bools -/
theorem eq_nb {S : Sto} {Q : DK} {a b : D} {k j : Nat} {neg : Bool} (ha : nb k a = true) (hb : nb j b = true) (hk : k ≤ 64) (hj : j ≤ 64) (hn : eqS a b = none) (ra : sqL S a = none ∨ ∃ xs, a = .lst xs) (rb : sqL S b = none ∨ ∃ xs, b = .lst xs) (q : Q (.bl (if neg then !eqD a b else eqD a b)) S) : dEqD neg a b S Q := by
  obtain ⟨p, e1, c1, d1⟩ := nb_py ha
  obtain ⟨r, e2, c2, d2⟩ := nb_py hb
  have py : ∀ {d : D} {p : PyData}, (sqL S d = none ∨ ∃ xs, d = .lst xs) → D.py d = some p → pyS S d = some p := fun {d p} h e => by
    unfold pyS
    rcases h with h | ⟨xs, rfl⟩
    · rw [h]; exact e
    · exact e
  unfold dEqD
  rw [hn]
  refine ⟨p, r, py ra e1, py rb e2, ?_, ?_, ?_⟩
  · unfold SeqAt.shaped; rw [c1]; simp; omega
  · unfold SeqAt.shaped; rw [c2]; simp; omega
  · rw [nb_eqv ha hb e1 e2]; exact q
/-! ### wells -/
def wellL (i j k l : Int) : List D := [.int i, .int j, .int k, .int l]
/-- _law_well(script, k): a new well -/
def Φ_well : DP := fun ds S Q _ => match ds with
  | [.scr ns, .int k] => 0 ≤ k ∧ k < 1000 ∧ ns.length ≤ 1000 ∧ Q (.ref S.length) (S ++ [.well])
  | _ => False
/-- _law_take(well, many), with the well open -/
def Φ_takeR : DP := fun ds S Q _ => match ds with
  | [.ref n, .int m] => ∃ i j k l, 0 < m ∧ m ≤ 1000000000 ∧ S[n]? = some (.lst (wellL i j k l)) ∧ ∀ r i' j' k' l', 0 ≤ r → r < m → Q (.int r) (S.set n (.lst (wellL i' j' k' l')))
  | _ => False
def Φ_take : DP := fun ds S Q _ => match ds with
  | [.ref n, .int m] => 0 < m ∧ m ≤ 1000000000 ∧ S[n]? = some .well ∧ ∀ r, 0 ≤ r → r < m → Q (.int r) S
  | _ => False
theorem mo_well : MoP Φ_well := ⟨fun hq _ q => by
  unfold Φ_well at q ⊢
  split at q
  · exact ⟨q.1, q.2.1, q.2.2.1, hq _ _ q.2.2.2⟩
  · exact q⟩
theorem mo_take : MoP Φ_take := ⟨fun hq _ q => by
  unfold Φ_take at q ⊢
  split at q
  · exact ⟨q.1, q.2.1, q.2.2.1, fun r h1 h2 => hq _ _ (q.2.2.2 r h1 h2)⟩
  · exact q⟩
theorem mo_takeR : MoP Φ_takeR := ⟨fun hq _ q => by
  unfold Φ_takeR at q ⊢
  split at q
  · obtain ⟨i, j, k, l, a, b, c, d⟩ := q
    exact ⟨i, j, k, l, a, b, c, fun r i' j' k' l' h1 h2 => hq _ _ (d r i' j' k' l' h1 h2)⟩
  · exact q⟩
theorem StoR.well {K : PySem.W.Frag} {g : Gm} {ι : List Addr} {H : Hp} {S : Sto} (s : StoR K g ι H S) {n : Nat} (h : S[n]? = some .well) : ∃ i j k l, StoR K g ι H (S.set n (.lst (wellL i j k l))) := by
  obtain ⟨a, ea, i, j, k, l, e⟩ := s.at h
  refine ⟨i, j, k, l, by rw [List.length_set]; exact s.len, s.nd, fun m b o h1 h2 => ?_, s.hd⟩
  by_cases hm : n = m
  · subst hm
    rw [List.getElem?_set_self (List.getElem?_eq_some_iff.mp h).1] at h2
    cases h2
    rw [ea] at h1; cases h1
    exact ⟨_, e, .cons (.int _) (.cons (.int _) (.cons (.int _) (.cons (.int _) .nil)))⟩
  · rw [List.getElem?_set_ne hm] at h2
    exact s.ob m b o h1 h2
theorem StoR.close {K : PySem.W.Frag} {g : Gm} {ι : List Addr} {H : Hp} {S : Sto} {n : Nat} {i j k l : Int} (h : S[n]? = some .well) (s : StoR K g ι H (S.set n (.lst (wellL i j k l)))) : StoR K g ι H S := by
  refine ⟨by have := s.len; rw [List.length_set] at this; exact this, s.nd, fun m b o h1 h2 => ?_, s.hd⟩
  by_cases hm : n = m
  · subst hm
    rw [h] at h2; cases h2
    obtain ⟨vs, e, rl⟩ := s.ob n b (.lst (wellL i j k l)) h1 (by rw [List.getElem?_set_self (List.getElem?_eq_some_iff.mp h).1])
    cases rl with | cons r1 rl => cases rl with | cons r2 rl => cases rl with | cons r3 rl => cases rl with | cons r4 rl => cases rl with | nil =>
    cases r1; cases r2; cases r3; cases r4
    exact ⟨_, _, _, _, e⟩
  · exact s.ob m b o h1 (by rw [List.getElem?_set_ne hm]; exact h2)
theorem fd_take {P : Program} {w : World} {K : PySem.W.Frag} {mg : Str → Option Value} {base : Heap} {g : Gm} {n : Str} {k : Nat} {ps : List Str} (F : FD P w K mg base g n k ps Φ_takeR) : FD P w K mg base g n k ps Φ_take := by
  obtain ⟨mo, f, fd, a, b, c, ok⟩ := F
  refine ⟨mo_take, f, fd, a, b, c, fun hid => (ok hid).imp fun vs H Q E ⟨ι, S, ds, s, r, q⟩ => ?_⟩
  unfold Φ_take at q
  split at q
  · rename_i n m
    obtain ⟨h1, h2, h3, q⟩ := q
    obtain ⟨i, j, k, l, s2⟩ := s.well h3
    refine ⟨ι, S.set n (.lst (wellL i j k l)), _, s2, r, i, j, k, l, h1, h2, by rw [List.getElem?_set_self (List.getElem?_eq_some_iff.mp h3).1], fun r' i' j' k' l' g1 g2 v H' ι' gr s' rr => ?_⟩
    rw [List.set_set] at s'
    exact q r' g1 g2 v H' ι' gr (s'.close h3) rr
  · exact q.elim
theorem pl_cases {k : Nat} {d : D} (h : pl (k + 1) d = true) : d = .non ∨ (∃ b, d = .bl b) ∨ (∃ i, d = .int i) ∨ (∃ x, d = .str x) ∨ (∃ xs, d = .tup xs ∧ plL k xs = true ∧ xs.length ≤ 1000000) ∨ (∃ xs, d = .lst xs ∧ plL k xs = true ∧ xs.length ≤ 1000000) := by
  cases d <;> simp [pl] at h ⊢
  all_goals exact ⟨h.2, h.1⟩
/-! ### ends -/
/-- what a return hands back, where nothing is new -/
theorem ret_same {fo : String → List Str} {S : Sto} {Q : DK} {d : D} (q : Q d S) : ∃ d' S'', Cut fo S S d d' S'' ∧ Q d' S'' := ⟨d, S, .all, q⟩
theorem take_app {S T : Sto} : (S ++ T).take S.length = S := by simp
theorem kept_app {S T : Sto} : Kept S.length S (S ++ T) := ⟨by simp, fun i o hi e => .inl (by rw [List.getElem?_append_left hi] at e; exact e)⟩
/-- .. where what is new goes -/
theorem ret_new {fo : String → List Str} {S T : Sto} {Q : DK} {d : D} (h : D.clo S.length d = true) (q : Q d S) : ∃ d' S'', Cut fo S (S ++ T) d d' S'' ∧ Q d' S'' :=
  ⟨d, S, by have := Cut.fz (fo := fo) (S := S) (S' := S ++ T) (d := d) (d' := d) kept_app (.clo h); rw [take_app] at this; exact this, q⟩
theorem ret_well {fo : String → List Str} {S : Sto} {Q : DK} {i j k l : Int} (q : Q (.ref S.length) (S ++ [.well])) : ∃ d' S'', Cut fo S (S ++ [.lst [.int i, .int j, .int k, .int l]]) (.ref S.length) d' S'' ∧ Q d' S'' :=
  ⟨.ref S.length, S ++ [.well], by have := Cut.wl (fo := fo) (S := S) (S' := S ++ [.lst [.int i, .int j, .int k, .int l]]) (m := S.length) (i := i) (j := j) (k := k) (l := l) kept_app (Nat.le_refl _) (by simp); rw [take_app] at this; exact this, q⟩
/-- .. where some lists of before have changed -/
theorem ret_all {fo : String → List Str} {S S' : Sto} {Q : DK} {d : D} (q : Q d S') : ∃ d' S'', Cut fo S S' d d' S'' ∧ Q d' S'' := ⟨d, S', .all, q⟩
mutual
theorem pl_clo : ∀ {k : Nat} {d : D} {n : Nat}, pl k d = true → D.clo n d = true
  | _, .non, _, _ => rfl
  | _, .bl _, _, _ => rfl
  | _, .int _, _, _ => rfl
  | _, .str _, _, _ => rfl
  | 0, .tup xs, _, h => by simp [pl] at h
  | 0, .lst xs, _, h => by simp [pl] at h
  | k + 1, .tup xs, n, h => by
    simp only [pl, Bool.and_eq_true] at h
    unfold D.clo; exact plL_clo h.2
  | k + 1, .lst xs, n, h => by
    simp only [pl, Bool.and_eq_true] at h
    unfold D.clo; exact plL_clo h.2
  | k, .ref _, _, h => by cases k <;> simp [pl] at h
  | k, .ins _ _, _, h => by cases k <;> simp [pl] at h
  | k, .dic _ _, _, h => by cases k <;> simp [pl] at h
  | k, .adr _, _, h => by cases k <;> simp [pl] at h
  | k, .ty _, _, h => by cases k <;> simp [pl] at h
  | k, .scr _, _, h => by cases k <;> simp [pl] at h
theorem plL_clo : ∀ {k : Nat} {xs : List D} {n : Nat}, plL k xs = true → D.cloL n xs = true
  | _, [], _, _ => rfl
  | k, x :: xs, n, h => by
    simp only [plL, Bool.and_eq_true] at h
    unfold D.cloL
    rw [pl_clo h.1, plL_clo h.2]; rfl
end
theorem frzL_clo {fo : String → List Str} {S : Sto} {n : Nat} : ∀ {ys : List D}, D.cloL n ys = true → FrzL fo n S ys ys
  | [], _ => .nil
  | y :: ys, h => by
    unfold D.cloL at h
    rw [Bool.and_eq_true] at h
    exact .cons (.clo h.1) (frzL_clo h.2)
/-- a new instance, as it stands -/
theorem cut_inst {fo : String → List Str} {S : Sto} {c : String} {vs : List D} (h : D.cloL S.length vs = true) : Cut fo S (S ++ [.inst c (fo c) vs]) (.ref S.length) (.ins c vs) S := by
  have := Cut.fz (fo := fo) (S := S) (S' := S ++ [.inst c (fo c) vs]) (d := .ref S.length) (d' := .ins c vs) kept_app (.ins (Nat.le_refl _) (by simp) (frzL_clo h))
  rwa [take_app] at this
theorem cutx_new {fo : String → List Str} {S T : Sto} {fs : List D} (h : D.cloL S.length fs = true) : CutX fo S (S ++ T) fs fs S := ⟨kept_app, frzL_clo h, take_app.symm⟩
theorem cutx_refl {fo : String → List Str} {S : Sto} {fs : List D} (h : D.cloL S.length fs = true) : CutX fo S S fs fs S := by
  have := cutx_new (fo := fo) (T := []) h
  rwa [List.append_nil] at this
end DL
set_option maxHeartbeats 4000000
/-! DL, eighteenth part: the head's facts; slices; the end. -/
namespace DL
open PySem PySem.Spec L2
open PyProof.Rows (envOfC)
/-! ### slices by numbers -/
theorem cutD_to {xs : List D} {n : Nat} : cutD xs none (some (n : Int)) = xs.take n := by
  unfold cutD
  rw [HT.sIx_none, HT.sIx_nat, Nat.sub_zero, List.drop_zero]
  by_cases h : n ≤ xs.length
  · rw [Nat.min_eq_left h]
  · rw [Nat.min_eq_right (by omega), List.take_of_length_le (Nat.le_refl _), List.take_of_length_le (by omega)]
theorem cutD_from {xs : List D} {n : Nat} : cutD xs (some (n : Int)) none = xs.drop n := by
  unfold cutD
  rw [HT.sIx_none, HT.sIx_nat]
  by_cases h : n ≤ xs.length
  · rw [Nat.min_eq_left h, List.take_of_length_le (by simp)]
  · rw [Nat.min_eq_right (by omega), List.drop_of_length_le (Nat.le_refl _), List.drop_of_length_le (by omega), List.take_nil]
theorem cutD_from1 {xs : List D} {n : Nat} : cutD xs (some ((n : Int) + 1)) none = xs.drop (n + 1) := by
  rw [show ((n : Int) + 1) = ((n + 1 : Nat) : Int) from by omega]; exact cutD_from
section
variable {S : Sto} {Q : DK}
@[simp ↓] theorem u_addlF {i j : List D} : dAddF (.lst i) (.lst j) S Q = (i.length + j.length ≤ sizeLine ∧ Q (.lst (i ++ j)) S) := by
  apply propext; constructor
  · rintro ⟨xs, ys, e1, e2, h, q⟩; cases e1; cases e2; exact ⟨h, q⟩
  · rintro ⟨h, q⟩; exact ⟨_, _, rfl, rfl, h, q⟩
@[simp ↓] theorem u_addlS {i j : List D} : dAddS (.lst i) (.lst j) S Q = (i.length + j.length ≤ sizeLine ∧ Q (.ref S.length) (S ++ [.lst (i ++ j)])) := by
  apply propext; constructor
  · rintro ⟨xs, ys, e1, e2, h, q⟩; cases e1; cases e2; exact ⟨h, q⟩
  · rintro ⟨h, q⟩; exact ⟨_, _, rfl, rfl, h, q⟩
@[simp ↓] theorem u_slFl {xs : List D} {lo hi : Option Int} : dSlF (.lst xs) lo hi S Q = Q (.lst (cutD xs lo hi)) S := by
  apply propext; constructor
  · rintro ⟨ys, e1, q⟩; cases e1; exact q
  · intro q; exact ⟨_, rfl, q⟩
end
theorem sqL_ref {S : Sto} {n : Nat} {xs : List D} (h : S[n]? = some (.lst xs)) : sqL S (.ref n) = some xs := by
  unfold sqL; simp only; rw [h]
theorem sqL_app {S T : Sto} {p : D} {xs : List D} (h : sqL S p = some xs) : sqL (S ++ T) p = some xs := by
  cases p with
  | lst ys => exact h
  | ref n =>
    unfold sqL at h ⊢
    simp only at h ⊢
    split at h
    · rename_i ys e
      cases h
      rw [List.getElem?_append_left (List.getElem?_eq_some_iff.mp e).1, e]
    · cases h
  | _ => simp [sqL] at h
theorem sq_app {S T : Sto} {p : D} {xs : List D} (h : sq S p = some xs) : sq (S ++ T) p = some xs := by
  cases p with
  | lst ys => exact h
  | ref n => exact sqL_app (T := T) (p := .ref n) (show sqL S (.ref n) = some xs from h)
  | tup ys => exact h
  | scr ys => exact h
  | _ => simp [sq, sqL] at h
/-- a list of the store stands where no list is stored -/
theorem sqL_set {S : Sto} {n : Nat} {o : Ob} {p : D} (h0 : ∀ xs, S[n]? ≠ some (.lst xs)) (ho : ∀ xs, o ≠ .lst xs) : sqL (S.set n o) p = sqL S p := by
  cases p with
  | ref m =>
    unfold sqL
    simp only
    by_cases hm : n = m
    · subst hm
      by_cases hl : n < S.length
      · rw [List.getElem?_set_self hl]
        have e2 : S[n]? = some S[n] := List.getElem?_eq_getElem hl
        rw [e2] at h0 ⊢
        cases o <;> cases hh : S[n] <;> first | rfl | exact (ho _ rfl).elim | (rw [hh] at h0; exact (h0 _ rfl).elim)
      · rw [List.set_eq_of_length_le (by omega)]
    · rw [List.getElem?_set_ne hm]
  | _ => rfl
theorem vw_set {S : Sto} {n : Nat} {o : Ob} {p : D} (h0 : ∀ xs, S[n]? ≠ some (.lst xs)) (ho : ∀ xs, o ≠ .lst xs) : vw (S.set n o) p = vw S p := by
  unfold vw; rw [sqL_set h0 ho]
theorem vw_lst {S : Sto} {p : D} {xs : List D} (h : sqL S p = some xs) : vw S p = .lst xs := by unfold vw; rw [h]
@[simp] theorem vw_tupD {S : Sto} {xs : List D} : vw S (.tup xs) = .tup xs := rfl
theorem len_sq {S : Sto} {p : D} {xs : List D} (h : sq S p = some xs) : lenD S p = some xs.length := by
  unfold lenD
  split
  · simp [sq, sqL] at h
  · rw [h]; rfl
theorem listS_sq {S : Sto} {Q : DK} {d : D} {xs : List D} (h : sq S d = some xs) (q : Q (.ref S.length) (S ++ [.lst xs])) : dListS [d] S Q := ⟨_, xs, rfl, h, q⟩
theorem in_sq {S : Sto} {Q : DK} {x y : D} {xs : List D} {neg : Bool} (h : sq S y = some xs) (fx : flatD x = true) (fa : xs.all flatD = true) (q : Q (.bl (if neg then !(xs.any fun z => eqF z x) else xs.any fun z => eqF z x)) S) : dIn neg x y S Q := by
  unfold dIn
  split
  · simp [sq, sqL] at h
  · exact ⟨xs, h, fx, fa, q⟩
theorem any_strs {w : Str} : ∀ {st : List Str}, ((st.map D.str).any fun z => eqF z (.str w)) = decide (w ∈ st)
  | [] => by simp
  | x :: st => by
    rw [List.map_cons, List.any_cons, any_strs]
    show ((x == w) || decide (w ∈ st)) = _
    rw [Bool.eq_iff_iff]
    simp only [Bool.or_eq_true, beq_iff_eq, decide_eq_true_eq, List.mem_cons]
    exact ⟨fun h => h.imp Eq.symm id, fun h => h.imp Eq.symm id⟩
theorem flat_strs {st : List Str} : (st.map D.str).all flatD = true := by rw [List.all_map]; exact List.all_eq_true.mpr fun _ _ => rfl
theorem drop_get {α : Type} {xs : List α} {i : Nat} {x : α} (h : xs[i]? = some x) : xs.drop i = x :: xs.drop (i + 1) := by
  obtain ⟨h1, h2⟩ := List.getElem?_eq_some_iff.mp h
  rw [List.drop_eq_getElem_cons h1, h2]
theorem sq_ref {S : Sto} {n : Nat} {xs : List D} (h : S[n]? = some (.lst xs)) : sq S (.ref n) = some xs := sqL_ref h
theorem tyM_ref {S : Sto} {n : Nat} {xs : List D} (h : S[n]? = some (.lst xs)) : tyM "list" S (.ref n) = true := by
  unfold tyM; simp only; rw [sqL_ref h]; rfl
/-- a new list is handed back, frozen -/
theorem ret_lst {fo : String → List Str} {S : Sto} {Q : DK} {zs : List D} (hc : D.cloL S.length zs = true) (q : Q (.lst zs) S) : ∃ d' S'', Cut fo S (S ++ [.lst zs]) (.ref S.length) d' S'' ∧ Q d' S'' :=
  ⟨.lst zs, S, by have := Cut.fz (fo := fo) (S := S) (S' := S ++ [.lst zs]) (d := .ref S.length) (d' := .lst zs) kept_app (.ref (Nat.le_refl _) (by simp) (frzL_clo hc)); rwa [take_app] at this, q⟩
theorem slF_sq {S : Sto} {Q : DK} {x : D} {xs : List D} {lo hi : Option Int} (h : sqL S x = some xs) (q : Q (.lst (cutD xs lo hi)) S) : dSlF x lo hi S Q := by
  unfold dSlF
  split
  · simp [sqL] at h
  · simp [sqL] at h
  · exact ⟨xs, h, q⟩
theorem get_end {S : Sto} {o : Ob} : (S ++ [o])[S.length]? = some o := by simp
theorem set_end {S : Sto} {o o' : Ob} : (S ++ [o]).set S.length o' = S ++ [o'] := by rw [List.set_append_right _ _ (Nat.le_refl _), Nat.sub_self]; rfl
theorem get_app {S T : Sto} {n : Nat} {o : Ob} (h : S[n]? = some o) : (S ++ T)[n]? = some o := by rw [List.getElem?_append_left (List.getElem?_eq_some_iff.mp h).1]; exact h
theorem sz100 {k : Nat} (h : k ≤ 100) : k ≤ sizeLine := by rw [sizeLine_eq]; omega
theorem sz1000 {k : Nat} (h : k ≤ 1000000) : k < sizeLine := by rw [sizeLine_eq]; omega
theorem plL_app {k : Nat} {ys zs : List D} (a : plL k ys = true) (b : plL k zs = true) : plL k (ys ++ zs) = true := plL_all.mpr fun x hx => (List.mem_append.mp hx).elim (plL_all.mp a x) (plL_all.mp b x)
theorem plL_set {k : Nat} {ys : List D} {v : D} (i : Nat) (a : plL k ys = true) (b : pl k v = true) : plL k (ys.set i v) = true := plL_all.mpr fun x hx => (List.mem_or_eq_of_mem_set hx).elim (plL_all.mp a x) fun e => by rw [e]; exact b
theorem plL_take {k : Nat} {ys : List D} (i : Nat) (a : plL k ys = true) : plL k (ys.take i) = true := plL_all.mpr fun x hx => plL_all.mp a x (List.mem_of_mem_take hx)
theorem plL_drop {k : Nat} {ys : List D} (i : Nat) (a : plL k ys = true) : plL k (ys.drop i) = true := plL_all.mpr fun x hx => plL_all.mp a x (List.mem_of_mem_drop hx)
/-! ### facts as functions of the written part -/
structure FnF where
  at_ : Str × Option Str
  name : Str
  qual : Str
  st : Stmt
def FnF.d (d : FnF) : He.FnD := ⟨d.at_, d.name, d.qual, defArgs d.st, defBody d.st, defScope d.st⟩
abbrev FB : Type := PySem.W.Frag → Bool
abbrev AlF : Type := Bool × List He.FnV × List (Option (List (Option (Str × Int))))
def FnF.ok (K : PySem.W.Frag) (d : FnF) : Bool := (He.Fa.code d.d.at_ d.d.qual).ok K && PySem.W.keepIn K (.ref (He.fAd K d.at_))
def obsF (fa : List FB) (fn : List FnF) (ts : List He.Tab) (K : PySem.W.Frag) : AlF := ((fa.all fun f => f K) && fn.all fun d => d.ok K, fn.map fun d => He.fnObs K d.at_, ts.map fun t => He.dicW K (t.1 K))
def valF (fn : List FnF) (ts : List He.Tab) (w : World) : AlF := (true, fn.map fun d => d.d.val, ts.map fun t => some (He.keysIn w.params t.2))
def SaysF (fa : List FB) (fn : List FnF) (ts : List He.Tab) (w : World) (K : PySem.W.Frag) : Prop := obsF fa fn ts K = valF fn ts w
def obsFG (n : Nat) (fa : List FB) (fn : List FnF) (ts : List He.Tab) (g : Addr → Option Obj) : AlF := obsF fa fn ts (He.frG g (He.asG g n))
def hookF (n : Nat) (fa : List FB) (fn : List FnF) (ts : List He.Tab) : PySem.W.Hook where
  α := AlF
  obs := fun s => obsFG n fa fn ts s.heap.get?
  val := fun w => valF fn ts w
  says := fun w h => ∃ K : PySem.W.Frag, K.In h ∧ SaysF fa fn ts w K
  of := fun _ _ e => ⟨_, He.frG_in, e⟩
  keeps := fun _ _ _ ⟨K, hK, c⟩ k => ⟨K, PySem.W.Frag.In.keeps hK k, c⟩
theorem obsFG_eq {n : Nat} {fa : List FB} {fn : List FnF} {ts : List He.Tab} {g : Addr → Option Obj} {s : Shared} (h : ∀ a, g a = s.heap.get? a) : obsFG n fa fn ts g = (hookF n fa fn ts).obs s := by
  have e : g = s.heap.get? := funext h
  rw [e] <;> rfl
section
variable {fa : List FB} {fn : List FnF} {ts : List He.Tab} {w : World} {K : PySem.W.Frag}
theorem SaysF.fact (c : SaysF fa fn ts w K) (i : Nat) {f : FB} (h : fa[i]? = some f := by rfl) : f K = true := by
  have c1 := (He.ba (show ((fa.all fun f => f K) && fn.all fun d => d.ok K) = true from congrArg (fun z : AlF => z.1) c)).1
  exact List.all_eq_true.mp c1 f (List.mem_of_getElem? h)
theorem SaysF.fun_ (c : SaysF fa fn ts w K) (i : Nat) {d : FnF} (h : fn[i]? = some d := by rfl) : ∃ fd, Fun K d.name d.qual d.st (He.fAd K d.at_) fd := by
  have c2 := (He.ba (show ((fa.all fun f => f K) && fn.all fun d => d.ok K) = true from congrArg (fun z : AlF => z.1) c)).2
  obtain ⟨c3, c4⟩ := He.ba (List.all_eq_true.mp c2 d (List.mem_of_getElem? h))
  have e : fn.map (fun d => He.fnObs K d.at_) = fn.map fun d => d.d.val := congrArg (fun z : AlF => z.2.1) c
  have e2 : (fn.map fun d => He.fnObs K d.at_)[i]? = (fn.map fun d => d.d.val)[i]? := by rw [e]
  rw [List.getElem?_map, List.getElem?_map, h] at e2
  obtain ⟨oc, od, osl, kV, doc, pm, an, cdv, ct, l, q⟩ := He.fn_ok (d := d.d) (Option.some.inj e2) c3
  exact ⟨_, ⟨oc, od, kV, doc, pm, an, cdv, ct, osl, rfl, l, q⟩, c4⟩
theorem SaysF.tab (c : SaysF fa fn ts w K) (i : Nat) {t : He.Tab} (h : ts[i]? = some t := by rfl) : ∃ es n, KDict K w (t.1 K) es n := by
  have e : ts.map (fun t => He.dicW K (t.1 K)) = ts.map fun t => some (He.keysIn w.params t.2) := congrArg (fun z : AlF => z.2.2) c
  have e2 : (ts.map fun t => He.dicW K (t.1 K))[i]? = (ts.map fun t => some (He.keysIn w.params t.2))[i]? := by rw [e]
  rw [List.getElem?_map, List.getElem?_map, h] at e2
  exact He.dicW_ok (Option.some.inj e2)
end
/-! ### the kinds of facts -/
def sd (s : String) : Str := Str.ofString s
def caK (K : PySem.W.Frag) (c : String) : Addr := He.ga K (sd c)
def fFree (x : String) : FB := fun K => (He.Fa.free (sd x)).ok K
def fGlo (x : String) : FB := fun K => (He.Fa.glo (sd x)).ok K
def fInt (x : String) (i : Int) : FB := fun K => (He.Fa.int (sd x) i).ok K
def fStr (x z : String) : FB := fun K => (He.Fa.str (sd x) (sd z)).ok K
def fCls (c : String) : FB := fun K => (He.Fa.cls (sd c)).ok K
def fNone (c f : String) : FB := fun K => He.eqO (PySem.W.findIn K (.ref (caK K c)) (sd f)) (some none)
def fMk (c : String) : FB := fun K => (He.Fa.mkr (sd c)).ok K
def fXf (c : String) : FB := fun K => xfB K (caK K c)
def fKitT (c t : String) (b : Bool) : FB := fun K => decide (PySem.W.kitOne K (.ref (caK K c)) (.type t) = some b)
def fKitO (c c' : String) (b : Bool) : FB := fun K => decide (PySem.W.kitOne K (.ref (caK K c)) (.ref (caK K c')) = some b)
def fExm (c c' : String) (b : Bool) : FB := fun K => decide (PySem.W.exmOne K (.ref (caK K c)) (.ref (caK K c')) = some b)
def isXB (K : PySem.W.Frag) (C : Addr) : Bool := (PySem.W.clsIn K C).isSome && (He.eqO (PySem.W.findIn K (.ref C) "__getattribute__") (some (some (.builtin "BaseException.__getattribute__"))) && (He.eqO (PySem.W.findIn K (.ref C) "__getattr__") (some none) &&
  (decide (PySem.W.subIn K (.ref C) (.type "BaseException") = some true) && (He.eqO (PySem.W.findIn K (.ref C) "__class__") (some (some (.builtin "object.__class__"))) && (He.eqO (PySem.W.specialIn K (.builtin "object.__class__") "__get__") (some (some (.builtin "getset_descriptor.__get__"))) &&
  (decide (PySem.W.takesIn K (.builtin "object.__class__") = some true) && decide (PySem.W.mroIn K C (.type "object") = some true)))))))
theorem isXB_ok {K : PySem.W.Frag} {C : Addr} (h : isXB K C = true) : IsX K C := by
  obtain ⟨h1, h⟩ := He.ba h
  obtain ⟨h2, h⟩ := He.ba h
  obtain ⟨h3, h⟩ := He.ba h
  obtain ⟨h4, h⟩ := He.ba h
  obtain ⟨h5, h⟩ := He.ba h
  obtain ⟨h6, h⟩ := He.ba h
  obtain ⟨h7, h8⟩ := He.ba h
  exact ⟨h1, He.eqO_ok h2, He.eqO_ok h3, of_decide_eq_true h4, He.eqO_ok h5, He.eqO_ok h6, of_decide_eq_true h7, of_decide_eq_true h8⟩
def fIsX (c : String) : FB := fun K => isXB K (caK K c)
def ownB (K : PySem.W.Frag) (cs : List String) : Bool := (cs.all fun c => (He.Fa.cls (sd c)).ok K && (He.eqO (PySem.W.findIn K (.ref (caK K c)) "__class__") (some (some (.builtin "object.__class__"))) && (decide (PySem.W.mroIn K (caK K c) (.type "object") = some true) &&
    ((kinds.all fun T => decide (PySem.W.kitOne K (.ref (caK K c)) (.type T) = some false)) && ((tags.all fun T => decide (PySem.W.kitOne K (.type T) (.ref (caK K c)) = some false)) && cs.all fun c' => decide (PySem.W.kitOne K (.ref (caK K c)) (.ref (caK K c')) = some (c == c'))))))) &&
  (He.eqO (PySem.W.specialIn K (.builtin "object.__class__") "__get__") (some (some (.builtin "getset_descriptor.__get__"))) && decide (PySem.W.takesIn K (.builtin "object.__class__") = some true))
theorem ownB_ok {K : PySem.W.Frag} {cs : List String} {g : Gm} (hg : g.ca = caK K) (h : ownB K cs = true) : OwnK K g cs := by
  obtain ⟨h0, h⟩ := He.ba h
  obtain ⟨h1, h2⟩ := He.ba h
  have H := List.all_eq_true.mp h0
  refine ⟨fun c hc => ?_, fun c hc => ?_, He.eqO_ok h1, of_decide_eq_true h2, fun c hc => ?_, fun c hc T hT => ?_, fun c hc T hT => ?_, fun c hc c' hc' => ?_⟩
  all_goals rw [hg]
  all_goals obtain ⟨a1, b⟩ := He.ba (H c hc)
  all_goals obtain ⟨a2, b⟩ := He.ba b
  all_goals obtain ⟨a3, b⟩ := He.ba b
  all_goals obtain ⟨a4, b⟩ := He.ba b
  all_goals obtain ⟨a5, a6⟩ := He.ba b
  · exact He.cls_ok a1
  · exact He.eqO_ok a2
  · exact of_decide_eq_true a3
  · exact of_decide_eq_true (List.all_eq_true.mp a4 T hT)
  · exact of_decide_eq_true (List.all_eq_true.mp a5 T hT)
  · exact of_decide_eq_true (List.all_eq_true.mp a6 c' hc')
def fOwn (cs : List String) : FB := fun K => ownB K cs
def oexB (K : PySem.W.Frag) (C : Addr) : Bool := (match K.lookup C with
  | some ⟨.type t, _, .cls cd, sl⟩ => decide (t = "type") && (cd.hasDict && (!cd.hasDel && ((match cd.mro with
    | .ref c :: bm => decide (c = C) && PySem.HandSPX.refsVE bm
    | _ => false) && (match sl.toList with
    | [_, _, _, _, some (.builtin n), _] => decide (n = "ValueError.__new__")
    | _ => false))))
  | _ => false) && (He.eqO (PySem.W.findIn K (.ref C) "__setattr__") (some (some (.builtin "object.__setattr__"))) && (decide (PySem.W.subIn K (.ref C) (.type "BaseException") = some true) && (decide (PySem.W.typeIn K (.ref C) = some (.type "type")) && PySem.W.keepIn K (.ref C))))
theorem oexB_ok {K : PySem.W.Frag} {C : Addr} (h : oexB K C = true) : OexC K C := by
  obtain ⟨h0, h⟩ := He.ba h
  obtain ⟨h1, h⟩ := He.ba h
  obtain ⟨h2, h⟩ := He.ba h
  obtain ⟨h3, h4⟩ := He.ba h
  refine ⟨?_, He.eqO_ok h1, of_decide_eq_true h2, of_decide_eq_true h3, h4⟩
  split at h0
  · rename_i t dd cd sl e
    obtain ⟨a1, h0⟩ := He.ba h0
    obtain ⟨a2, h0⟩ := He.ba h0
    obtain ⟨a3, h0⟩ := He.ba h0
    obtain ⟨a4, a5⟩ := He.ba h0
    obtain ⟨nm, bs, mro, ns, q, hd, sn, sub, ab, col, del⟩ := cd
    have e1 : t = "type" := of_decide_eq_true a1
    subst e1
    cases hd with
    | false => cases a2
    | true =>
    cases del with
    | true => cases a3
    | false =>
    clear h0
    cases mro with
    | nil => cases a4
    | cons v bm => cases v with
      | ref c =>
        obtain ⟨b1, b2⟩ := He.ba a4
        have e2 : c = C := of_decide_eq_true b1
        subst e2
        split at a5
        · rename_i k0 k1 k2 k3 n k5 es
          have e3 : n = "ValueError.__new__" := of_decide_eq_true a5
          subst e3
          have : sl = #[k0, k1, k2, k3, some (.builtin "ValueError.__new__"), k5] := by
            apply Array.ext'
            simpa using es
          subst this
          exact ⟨nm, q, ns, bs, bm, sn, sub, ab, col, dd, k0, k1, k2, k3, k5, by rw [e], b2⟩
        · cases a5
      | _ => cases a4
  · cases h0
/-- an exception class of the fields fs -/
def fXC (c : String) (fs : List Str) : FB := fun K => oexB K (caK K c) && ((fs.all fun f => He.eqO (PySem.W.findIn K (.ref (caK K c)) f) (some none)) && (He.eqO (PySem.W.findIn K (.ref (caK K c)) "__init__") (some (some (.ref (He.ma K (caK K c) "__init__")))) && decide (PySem.W.typeIn K (.ref (He.ma K (caK K c) "__init__")) = some (.type "function"))))
def fEq (c : String) : FB := fun K => He.eqO (PySem.W.findIn K (.ref (caK K c)) "__ne__") (some (some (.builtin "object.__ne__"))) && (He.eqO (PySem.W.findIn K (.ref (caK K c)) "__eq__") (some (some (.ref (He.ma K (caK K c) "__eq__")))) && PySem.W.isFn K (.ref (He.ma K (caK K c) "__eq__")))
section
variable {P : Program} {w : World} {K : PySem.W.Frag} {mg : Str → Option Value} {base : Heap}
theorem ok_ex1 {qual f1 a0 : Str} {st : Stmt} {f : Addr} {fd : FuncData} {p0 p1 p2 p3 : Pos} (F : Fun K "__init__" qual st f fd) (Sc : FnScope [a0, f1] [a0, f1] (defScope st)) (hb : defBody st = [.Assign [.Attribute (.Name a0 p0) f1 p1] (.Name f1 p2) p3])
    (v0 : Vis (defScope st) a0) (v1 : Vis (defScope st) f1) (hd0 : (a0 == ("__debug__" : Str)) = false) (hc0 : (a0 == ("__classdict__" : Str)) = false) (hd1 : (f1 == ("__debug__" : Str)) = false) (hc1 : (f1 == ("__classdict__" : Str)) = false) :
    FnOk P w K mg base CX0 1 f fd [a0, f1] (spEx K [f1]) :=
  F.ok Sc (fun vs H Q E h => by rw [spEx_len h]; rfl) fun cdv A outer s H vs Q E hr h => ⟨_, by rw [hb]; exact pss_one (ps_ost (pe_var (i := 0) rfl v0 hd0 hc0) (pe_var (i := 1) rfl v1 hd1 hc1)), ex1_read (N := [a0, f1]) rfl h⟩
theorem ok_ex2 {qual f1 f2 a0 : Str} {st : Stmt} {f : Addr} {fd : FuncData} {p0 p1 p2 p3 q0 q1 q2 q3 : Pos} (F : Fun K "__init__" qual st f fd) (Sc : FnScope [a0, f1, f2] [a0, f1, f2] (defScope st)) (hb : defBody st = [.Assign [.Attribute (.Name a0 p0) f1 p1] (.Name f1 p2) p3, .Assign [.Attribute (.Name a0 q0) f2 q1] (.Name f2 q2) q3])
    (v0 : Vis (defScope st) a0) (v1 : Vis (defScope st) f1) (v2 : Vis (defScope st) f2) (hd0 : (a0 == ("__debug__" : Str)) = false) (hc0 : (a0 == ("__classdict__" : Str)) = false) (hd1 : (f1 == ("__debug__" : Str)) = false) (hc1 : (f1 == ("__classdict__" : Str)) = false)
    (hd2 : (f2 == ("__debug__" : Str)) = false) (hc2 : (f2 == ("__classdict__" : Str)) = false) :
    FnOk P w K mg base CX0 1 f fd [a0, f1, f2] (spEx K [f1, f2]) :=
  F.ok Sc (fun vs H Q E h => by rw [spEx_len h]; rfl) fun cdv A outer s H vs Q E hr h => ⟨_, by rw [hb]; exact pss_cons (ps_ost (pe_var (i := 0) rfl v0 hd0 hc0) (pe_var (i := 1) rfl v1 hd1 hc1)) (pss_one (ps_ost (pe_var (i := 0) rfl v0 hd0 hc0) (pe_var (i := 2) rfl v2 hd2 hc2))), ex2_read (N := [a0, f1, f2]) rfl h⟩
theorem xc_of {g : Gm} {c : String} {n : Str} {fs : List Str} {fd : FuncData} {ps : List Str} (hg : g.ca = caK K) (hn : mg n = some (.ref (g.ca c))) (hfo : g.fo c = fs) (nd : fs.Nodup) (h : fXC c fs K = true) (b : Binds K fd ps []) (ok : FnOk P w K mg base CX0 1 (He.ma K (caK K c) "__init__") fd ps (spEx K fs)) :
    XC P w K mg base g c n := by
  obtain ⟨h1, h⟩ := He.ba h
  obtain ⟨h2, h⟩ := He.ba h
  obtain ⟨h3, h4⟩ := He.ba h
  have e : g.ca c = caK K c := by rw [hg]
  exact ⟨hn, by rw [e]; exact oexB_ok h1, by rw [hfo]; exact nd, fun f hf => by rw [e]; rw [hfo] at hf; exact He.eqO_ok (List.all_eq_true.mp h2 f hf), _, fd, ps, by rw [e]; exact He.eqO_ok h3, of_decide_eq_true h4, b, by rw [hfo]; exact ok⟩
theorem clsF_of {g : Gm} {cs : List String} {f : Str} (hg : g.ca = caK K) (h : ∀ c ∈ cs, (He.Fa.cls (sd c)).ok K = true ∧ He.eqO (PySem.W.findIn K (.ref (caK K c)) f) (some none) = true) : ClsF K g cs f := fun c hc => by
  rw [hg]; exact ⟨He.cls_ok (h c hc).1, He.eqO_ok (h c hc).2⟩
theorem eqc_of {g : Gm} {c : String} {k : Nat} {Φ : DP} {fd : FuncData} {ps : List Str} (hg : g.ca = caK K) (h : fEq c K = true) (mo : MoP Φ) (b : Binds K fd ps []) (ok : ∀ hid, FnOk P w K mg base (L2N.CX P w) k (He.ma K (caK K c) "__eq__") fd ps (lSp K (g.hide hid) Φ)) : EqC P w K mg base g c k Φ := by
  obtain ⟨h1, h⟩ := He.ba h
  obtain ⟨h2, h3⟩ := He.ba h
  have e : g.ca c = caK K c := by rw [hg]
  exact ⟨mo, by rw [e]; exact He.eqO_ok h1, _, fd, ps, by rw [e]; exact He.eqO_ok h2, h3, b, ok⟩
theorem len_takeR {ds : List D} {S : Sto} {Q : DK} {E : String → List D → Sto → Prop} (h : Φ_takeR ds S Q E) : ds.length = 2 := by
  unfold Φ_takeR at h; split at h <;> first | rfl | exact h.elim
/-- nothing is promised -/
def Φ0 : DP := fun _ _ _ _ => False
theorem mo0 : MoP Φ0 := ⟨fun _ _ z => z⟩
theorem fd0 {g : Gm} {n qual : Str} {st : Stmt} {f : Addr} {fd : FuncData} {ps : List Str} {k : Nat} (F : Fun K n qual st f fd) (hm : mg n = some (.ref f)) (b : Binds K fd ps []) : FD P w K mg base g n k ps Φ0 :=
  ⟨mo0, f, fd, hm, F.kp, b, fun hid => ⟨fun _ _ _ _ ⟨_, _, _, _, _, z⟩ => z.elim, fun _ _ _ _ _ _ _ _ _ _ _ _ _ ⟨_, _, _, _, _, z⟩ => z.elim⟩⟩
theorem fdh0 {g : Gm} {n qual : Str} {st : Stmt} {f : Addr} {fd : FuncData} {ps : List Str} {k : Nat} (F : Fun K n qual st f fd) (hm : mg n = some (.ref f)) (b : Binds K fd ps []) : FDH P w K mg base g n k ps Φ0 :=
  ⟨mo0, f, fd, hm, F.kp, b, fun hid => ⟨fun _ _ _ _ ⟨_, _, _, _, _, z⟩ => z.elim, fun _ _ _ _ _ _ _ _ _ _ _ _ _ _ _ _ ⟨_, _, _, _, _, z⟩ => z.elim⟩⟩
theorem kwb_of {x qual : Str} {st : Stmt} {f : Addr} {fd : FuncData} {ps ks : List Str} {n : Nat} {ix : List Nat} (F : Fun K x qual st f fd)
    (h : ∀ (kV doc pm : Value) (an : Option Addr) (cdv ct : Value) (us ws : List Value), us.length = n → ws.length = ks.length → bindArgs (PySem.W.fnOf x qual (defArgs st) (defBody st) (defScope st) .none kV doc pm an cdv ct) ⟨us, ks.zip ws⟩ = pure (ps.zip (us ++ permL ix ws))) : KwB K fd ps n ks ix := by
  obtain ⟨oc, od, kV, doc, pm, an, cdv, ct, osl, rfl, lk, hcd⟩ := F.ex
  exact fun s us ws _ h1 h2 => .of_eq (h kV doc pm an cdv ct us ws h1 h2)
theorem fdk_of {x qual : Str} {st : Stmt} {f : Addr} {fd : FuncData} {ps ks : List Str} {ix : List Nat} {g : Gm} {k : Nat} {Φ : DP} (F : Fun K x qual st f fd) (hm : mg x = some (.ref f)) (mo : MoP Φ)
    (h : ∀ (kV doc pm : Value) (an : Option Addr) (cdv ct : Value) (us ws : List Value), us.length = 0 → ws.length = ks.length → bindArgs (PySem.W.fnOf x qual (defArgs st) (defBody st) (defScope st) .none kV doc pm an cdv ct) ⟨us, ks.zip ws⟩ = pure (ps.zip (us ++ permL ix ws)))
    (ok : ∀ hid, FnOk P w K mg base (L2N.CX P w) k f fd ps (lSp K (g.hide hid) Φ)) : FDK P w K mg base g x k ps ks ix Φ :=
  ⟨mo, f, fd, hm, F.kp, kwb_of F h, ok⟩
end
/-! ### tables of the top -/
def dvOf : D → He.Dv
  | .int i => .int i
  | .str x => .str x
  | _ => .non
def plainD : D → Bool
  | .int _ => true
  | .str _ => true
  | _ => false
def fTab (n : String) (kv : List (Str × D)) : FB := fun K => kv.all (fun p => plainD p.2) && He.valsB K (caK K n) (kv.map fun p => (p.1, dvOf p.2))
theorem lookup_mem {α : Type} {z : Str} {d : α} : ∀ {kv : List (Str × α)}, kv.lookup z = some d → (z, d) ∈ kv
  | [], h => by simp at h
  | (a, b) :: r, h => by
    rw [List.lookup_cons] at h
    split at h
    · rename_i e
      cases h
      rw [beq_iff_eq.mp e]; exact List.mem_cons_self
    · exact List.mem_cons_of_mem _ (lookup_mem h)
theorem kd_of {K : PySem.W.Frag} {w : World} {n : String} {kv : List (Str × D)} (h : ∃ es m, KDict K w (caK K n) es m) (t : fTab n kv K = true) : KD K w (caK K n) kv := by
  obtain ⟨h1, h2⟩ := He.ba t
  obtain ⟨es, m, hl, hk, _⟩ := h
  intro z d hz
  have hm := lookup_mem hz
  have hp := List.all_eq_true.mp h1 _ hm
  obtain ⟨u, e, r⟩ := He.valsB_ok h2 (List.mem_map.mpr ⟨_, hm, rfl⟩)
  refine ⟨(dvOf d).v K, ⟨es, m, u, hl, hk, e, r⟩, fun g ι H => ?_⟩
  cases d with
  | int i => exact .int i
  | str x => exact .str x
  | _ => cases hp
/-! ### the end -/
theorem walk_ofN {l : PySem.W.OpenLaw} {n k : Nat} {q : Program} {loose : List Str} {XP : (Str → Option Value) → Heap → Prop} {YP : World → Heap → Prop} {d : DefRec} {x : Str}
    (hn : l.most = some n) (hn2 : n ≤ sizeLine) (hdf : d.params.defaults = []) (hr : Room k callerA)
    (F : ∀ (w : World) (mg : Str → Option Value) (fa : Addr) (h : Heap), YP w h → h.Ns mainGlobals mg → mg d.name = some (.ref fa) →
      ∃ (K : PySem.W.Frag) (fd : FuncData) (sp : Sp), K.In h ∧ (∀ (s : Shared) (u : Value), BindsTo s fd ⟨[u], []⟩ [(x, u)]) ∧
        (∀ (H : Hp) (a : Addr) (ns : List Int), ns.length ≤ n → Only H → SqL K H a (ns.map V.int) → sp [.ref a] H (fun v _ => v = .bl true) fun _ _ _ => False) ∧
        ∀ base : Heap, K.In base → base.Ns mainGlobals mg → FnOk l.prog w K mg base (L2N.CX l.prog w) k fa fd [x] sp) :
    PySem.W.WalkO q loose XP YP l.row.toRowW d [] (fun f vs => PySem.call f vs) := by
  refine Att.attach_call hn hdf fun w s₀ s₁ mg mb fa o pm cd doc a vs ns G Y ho hd hcd hmg hobj hints hlen hg => ?_
  obtain ⟨K, fd, sp, KX, hb, hsp, hF⟩ := F w mg fa _ Y G.T.g hmg
  exact law_call KX G.T.g G.T.b G.T.builtins G.T.nolimit hg hobj hints (Nat.le_trans hlen hn2) hr hF hb (fun H hO hS => hsp H a ns hlen hO hS) fun H e s' ⟨_, _, _, _, _, _, _, _, _, _, _, _, z⟩ => z
theorem law_in {K : PySem.W.Frag} {g : Gm} {H : Hp} {a : Addr} {ns : List Int} {Q : VK} {E : XK} {Φ : DP} (hg : g.hid = [] := by rfl) (hO : Only H) (hS : SqL K H a (ns.map V.int)) (h : Φ [.scr ns] [] (lK K g [] H Q) fun c fs S' => ∀ cls d H' ι', Grow [] H ι' H' → StoR K g ι' H' S' → ExR K g ι' H' cls d c fs → E cls d H') : lSp K g Φ [.ref a] H Q E := by
  refine ⟨[], [], [.scr ns], ⟨rfl, List.nodup_nil, fun _ _ _ e => by simp at e, fun b hb => by rw [hg] at hb; cases hb⟩, .cons (.scr ?_) .nil, h⟩
  rcases hS with r | ⟨o, its, m, h1, h2, h3, h4, h5, h6⟩
  · exact .inl ⟨⟨by simp, r⟩, by rw [hg]; simp⟩
  · exact .inr ⟨o, its, m, h1, h2, h3, h4, h5, h6⟩
end DL
set_option maxHeartbeats 4000000
/-! DL, nineteenth part: tuple(range(e)). -/
namespace DL
open PySem PySem.Spec L2 L2H
section
variable {K : PySem.W.Frag} {g : Gm} {ι : List Addr} {H : Hp}
theorem rl_rng : ∀ (n : Nat) (lo : Int), RL K g ι H ((List.range n).map fun i => V.int (lo + (i : Nat))) (rngD lo n)
  | 0, _ => .nil
  | n + 1, lo => by
    rw [List.range_succ_eq_map, List.map_cons, List.map_map]
    refine .cons (by simpa using (R.int lo)) ?_
    have := rl_rng n (lo + 1)
    refine (congrArg (fun z => RL K g ι H z (rngD (lo + 1) n)) (List.map_congr_left fun i _ => ?_)).mp this
    show V.int (lo + 1 + (i : Nat)) = V.int (lo + ((i + 1 : Nat) : Int))
    congr 1; omega
end
def dTupRg (f : DE) : DE := fun env S Q => f env S fun d S1 => ∃ j, d = .int j ∧ RgOk 0 j ∧ Q (.tup (rngD 0 j.toNat)) S1
section
variable {X : Cx} {g : Gm} {ι0 : List Addr} {H0 : Hp} {a : Expr} {fa : DE} {p p' pos pos' : Pos}
theorem ped_tupRg (hmT : X.mg "tuple" = none) (hmR : X.mg "range" = none) (ha : PEd X g ι0 H0 a fa) (hc : X.calm = true := by rfl) (hgT : Gl X "tuple" := by rfl) (hgR : Gl X "range" := by rfl)
    (na : starEach [a] X.env = (false, eval a X.env) :: starEach [] X.env := by rfl)
    (nb : starEach [.Call (.Name "range" p') [a] [] pos'] X.env = (false, eval (.Call (.Name "range" p') [a] [] pos') X.env) :: starEach [] X.env := by rfl) :
    PEd X g ι0 H0 (.Call (.Name "tuple" p) [.Call (.Name "range" p') [a] [] pos'] [] pos) (dTupRg fa) :=
  ⟨⟨fun hq q => ha.mono.go (fun _ _ ⟨j, e, ok, q1⟩ => ⟨j, e, ok, hq _ _ q1⟩) q⟩,
    PE.weak (pe_tupRg hc hgT hmT (prg_1 hgR hmR ha.pe na) nb) fun _ _ σ H Q _ ⟨ι, env, S, at0, q⟩ => ⟨ι, env, S, at0, ha.mono.go (fun d S1 ⟨j, e, ok, q1⟩ v H1 ι1 g1 s1 r1 => by
      subst e
      refine ⟨j, r1.int_inv, ok, fun l hl => ?_⟩
      have e : rgV 0 j = (List.range j.toNat).map fun i => V.int (0 + (i : Nat)) := by unfold rgV; rw [Int.sub_zero]
      have := s1.newTup hl (e ▸ rl_rng j.toNat 0 : RL X.K g ι1 H1 (rgV 0 j) (rngD 0 j.toNat)) (lK.on q1 g1 s1.there)
      exact this) q⟩⟩
end
@[simp ↓] theorem u_tupRg {f : DE} {env : En} {S : Sto} {Q : DK} : dTupRg f env S Q = f env S fun d S1 => ∃ j, d = .int j ∧ RgOk 0 j ∧ Q (.tup (rngD 0 j.toNat)) S1 := rfl
end DL
set_option maxHeartbeats 4000000
/-! K04: words, names: what the defs compute, the promises. -/
namespace DL.K04
open PySem PySem.Spec L2 DL
def isNum (m : Int) : D → Bool
  | .int i => decide (0 ≤ i ∧ i < m)
  | _ => false
def lettersS : Str := "abcdefghijklmnopqrstuvwxyz"
def letB (c : Nat) : Bool := decide (97 ≤ c ∧ c ≤ 122)
def wordB (x : Str) : Bool := decide (1 ≤ x.length ∧ x.length ≤ 8) && x.cps.toList.all letB
def isWord : D → Bool
  | .str x => wordB x
  | _ => false
def isSeq : D → Bool
  | .tup _ => true
  | .lst _ => true
  | _ => false
/-- the word of a member -/
def wordOf (pl : Bool) (k : Nat) (row : D) : D := if pl then (match row with
  | .tup [a, b] => if isNon b || isNum k b then a else .non
  | _ => .non) else row
def pn (p : Nat) : Str := match p with
  | 0 => "tags" | 1 => "people" | 2 => "places" | _ => "viewers"
def most (p : Nat) : Nat := match p with
  | 0 => 5 | 1 => 4 | 2 => 8 | _ => 5
def least (p : Nat) : Nat := match p with
  | 0 => 0 | 1 => 0 | 2 => 1 | _ => 1
/-- the first wrong member from k on, the words that stand -/
def wrongFrom (p : Nat) : Nat → List Str → List D → Option Nat × List Str
  | _, st, [] => (none, st)
  | k, st, row :: rows => match wordOf (p == 2) k row with
    | .str w => if wordB w && (decide (k < most p) && !(decide (w ∈ st))) then wrongFrom p (k + 1) (st ++ [w]) rows else (some k, st)
    | _ => (some k, st)
def rowsOf : D → Option (List D)
  | .tup xs => some xs
  | .lst xs => some xs
  | _ => none
/-- the place of a part's fault; the words behind it -/
def partFault (p : Nat) (st : List Str) (v : D) : Option Nat × List Str := match rowsOf v with
  | none => (some 0, st)
  | some rows => match wrongFrom p 0 st rows with
    | (some k, st') => (some k, st')
    | (none, st') => if rows.length < least p then (some rows.length, st') else (none, st')
def faultFrom : Nat → List Str → List D → Option (Nat × Nat)
  | _, _, [] => none
  | p, st, v :: vs => match partFault p st v with
    | (some k, _) => some (p, k)
    | (none, st') => faultFrom (p + 1) st' vs
/-- a tuple of the members -/
def tupOf (v : D) : D := match rowsOf v with
  | some xs => .tup xs
  | none => v
def nmF : List Str := ["tags", "people", "places", "viewers"]
/-! ### good names -/
structure Nm where
  tags : List Str
  people : List Str
  places : List (Str × Option Nat)
  viewers : List Str
def plD (p : Str × Option Nat) : D := .tup [.str p.1, match p.2 with
  | none => .non
  | some j => .int j]
def Nm.ds (N : Nm) : List D := [.tup (N.tags.map D.str), .tup (N.people.map D.str), .tup (N.places.map plD), .tup (N.viewers.map D.str)]
def Nm.words (N : Nm) : List Str := N.tags ++ N.people ++ N.places.map (·.1) ++ N.viewers
structure Nm.Ok (N : Nm) : Prop where
  lt : N.tags.length ≤ 5
  lp : N.people.length ≤ 4
  ll : 1 ≤ N.places.length ∧ N.places.length ≤ 8
  lv : 1 ≤ N.viewers.length ∧ N.viewers.length ≤ 5
  wd : ∀ w ∈ N.words, wordB w = true
  nd : N.words.Nodup
  up : ∀ (i : Nat) w j, N.places[i]? = some (w, some j) → j < i
def Nm.D (N : Nm) : D := .ins "Names" N.ds
/-! ### the promises -/
def Φ_is_number : DP := fun ds S Q _ => match ds with
  | [v, .int m] => (∃ t, tgIn ["Names", "Photo"] S v = some t) ∧ Q (.bl (isNum m v)) S
  | _ => False
def Φ_is_sequence : DP := fun ds S Q _ => match ds with
  | [v] => ∃ t, tgIn ["Names", "Photo"] S v = some t ∧ Q (.bl (isTg t (.b "list") || isTg t (.b "tuple"))) S
  | _ => False
def Φ_is_word : DP := fun ds S Q _ => match ds with
  | [v] => pl 5 v = true ∧ Q (.bl (isWord v)) S
  | _ => False
def Φ_word_of : DP := fun ds S Q _ => match ds with
  | [.str part, row, .int k] => ∃ p n : Nat, p < 4 ∧ part = pn p ∧ k = n ∧ pl 5 row = true ∧ Q (wordOf (p == 2) n row) S
  | _ => False
def Φ_wrong_place : DP := fun ds S Q _ => match ds with
  | [.str part, v, .lst ws] => ∃ (p : Nat) (st : List Str) (rows : List D), p < 4 ∧ part = pn p ∧ ws = st.map D.str ∧ st.length ≤ 1000000 ∧ pl 6 (vw S v) = true ∧ rowsOf (vw S v) = some rows ∧
    Q (match (partFault p st (vw S v)).1 with
      | some k => .int k
      | none => .non) S
  | _ => False
def madeN (vs : List D) (S : Sto) (Q : DK) (E : String → List D → Sto → Prop) (S' : Sto) : Prop := match faultFrom 0 [] vs with
  | some (p, k) => E "BadNames" [.str (pn p), .int k] S
  | none => Q .non S'
theorem madeN_mono {vs : List D} {S S' : Sto} {Q Q' : DK} {E E' : String → List D → Sto → Prop} (hq : ∀ d S, Q d S → Q' d S) (he : ∀ c fs S, E c fs S → E' c fs S) (h : madeN vs S Q E S') : madeN vs S Q' E' S' := by
  unfold madeN at h ⊢; split at h
  · exact he _ _ _ h
  · exact hq _ _ h
def Φ_Names__init__ : DP := fun ds S Q E => match ds with
  | [.ref n, a, b, c, d] => S[n]? = some (.inst "Names" [] []) ∧ plL 6 [vw S a, vw S b, vw S c, vw S d] = true ∧ madeN [vw S a, vw S b, vw S c, vw S d] S Q E (S.set n (.inst "Names" nmF [tupOf (vw S a), tupOf (vw S b), tupOf (vw S c), tupOf (vw S d)]))
  | _ => False
def Φ_Names__eq__ : DP := fun ds S Q _ => match ds with
  | [x, o] => ∃ N : Nm, x = N.D ∧ N.Ok ∧ ((∃ M : Nm, o = M.D ∧ M.Ok ∧ Q (.bl (eqDL N.ds M.ds)) S) ∨ (pl 6 (vw S o) = true ∧ Q (.bl false) S) ∨ ∃ c ys, o = .ins c ys ∧ c ≠ "Names" ∧ ["Names", "Photo"].contains c = true ∧ Q (.bl false) S)
  | _ => False
def Φ__law_well : DP := Φ_well
def Φ__law_take : DP := Φ_take
def Φ__law_same (k : Nat) : DP := fun ds S Q _ => match ds with
  | [a, b] => pl k (vw S a) = true ∧ pl k (vw S b) = true ∧ Q (.bl (eqD (vw S a) (vw S b))) S
  | _ => False
def Φ__law_odd : DP := fun ds S Q _ => match ds with
  | [.ref n] => S[n]? = some .well ∧ ∀ d, pl 3 d = true → Q d S
  | _ => False
def Φ__law_word : DP := fun ds S Q _ => match ds with
  | [.ref n, .ref u] => ∃ st : List Str, S[n]? = some .well ∧ S[u]? = some (.lst (st.map D.str)) ∧ st.length ≤ 25 ∧ (∀ w ∈ st, wordB w = true) ∧ ∀ w, wordB w = true → w ∉ st → Q (.str w) S
  | _ => False
/-- new names, as a list of the store -/
def Φ__law_lists : DP := fun ds S Q _ => match ds with
  | [.ref n] => S[n]? = some .well ∧ ∀ N : Nm, N.Ok → Q (.ref S.length) (S ++ [.lst N.ds])
  | _ => False
def Φ__law_made : DP := fun ds S Q _ => match ds with
  | [p] => ∃ N : Nm, N.Ok ∧ sqL S p = some N.ds ∧ Q N.D S
  | _ => False
def Φ__law_body : DP := fun ds S Q _ => match ds with
  | [.scr ns] => ns.length ≤ 1000 ∧ Q (.bl true) S
  | _ => False
def Φ_law : DP := fun ds S Q _ => match ds with
  | [.scr ns] => ns.length ≤ 1000 ∧ Q (.bl true) S
  | _ => False
end DL.K04
set_option maxHeartbeats 4000000
/-! K04: photos: what the defs compute, the promises. -/
namespace DL.K04
open PySem PySem.Spec L2 DL
def phF : List Str := ["shot", "stars", "place", "owner", "tags", "people", "width", "height"]
def numB (low top : Int) : D → Bool
  | .int i => decide (low ≤ i ∧ i < top)
  | _ => false
/-- ascending from low on, below m -/
def ris (m : Int) : Int → List D → Bool
  | _, [] => true
  | low, x :: xs => match x with
    | .int i => decide (low ≤ i ∧ i < m) && ris m (i + 1) xs
    | _ => false
def ascB (m : Int) : D → Bool
  | .tup xs => ris m 0 xs
  | _ => false
def topsP : List Int := [10000, 6, 8, 5, 5, 4, 10, 10]
/-- the part k is right -/
def okP (k : Nat) (v : D) : Bool := if k = 4 then ascB 5 v else if k = 5 then ascB 4 v else if k = 6 ∨ k = 7 then numB 1 10 v else match topsP[k]? with
  | some m => isNum m v
  | none => false
/-- the first wrong part, from k on -/
def badFrom : Nat → List D → Option Str
  | _, [] => none
  | k, x :: xs => if okP k x = true then badFrom (k + 1) xs else phF[k]?
def bad (xs : List D) : Option Str := badFrom 0 xs
def goodP (xs : List D) : Prop := xs.length = 8 ∧ bad xs = none
/-! ### good photos -/
structure Ph where
  shot : Nat
  stars : Nat
  place : Nat
  owner : Nat
  tags : List Nat
  people : List Nat
  wd : Nat
  ht : Nat
def natD (k : Nat) : D := .int (k : Int)
def Ph.hd (P : Ph) : List D := [natD P.shot, natD P.stars, natD P.place, natD P.owner, .tup (P.tags.map natD), .tup (P.people.map natD)]
def Ph.ds (P : Ph) : List D := [natD P.shot, natD P.stars, natD P.place, natD P.owner, .tup (P.tags.map natD), .tup (P.people.map natD), natD P.wd, natD P.ht]
def Ph.D (P : Ph) : D := .ins "Photo" P.ds
structure Ph.Ok (P : Ph) : Prop where
  shot : P.shot < 10000
  stars : P.stars < 6
  place : P.place < 8
  owner : P.owner < 5
  tags : P.tags.Pairwise (· < ·) ∧ ∀ k ∈ P.tags, k < 5
  people : P.people.Pairwise (· < ·) ∧ ∀ k ∈ P.people, k < 4
  wd : 1 ≤ P.wd ∧ P.wd < 10
  ht : 1 ≤ P.ht ∧ P.ht < 10
/-- a photo of the names -/
def Ph.inB (P : Ph) (N : Nm) : Bool := decide (P.place < N.places.length) && (decide (P.owner < N.viewers.length) && (P.tags.all (fun k => decide (k < N.tags.length)) && P.people.all (fun k => decide (k < N.people.length))))
/-! ### the promises -/
def Φ_is_ascending : DP := fun ds S Q _ => match ds with
  | [v, .int m] => pl 5 v = true ∧ Q (.bl (ascB m v)) S
  | _ => False
def Φ_is_side : DP := fun ds S Q _ => match ds with
  | [v] => pl 5 v = true ∧ Q (.bl (numB 1 10 v)) S
  | _ => False
def Φ_is_field : DP := fun ds S Q _ => match ds with
  | [.str f, v] => ∃ k, phF[k]? = some f ∧ pl 5 v = true ∧ Q (.bl (okP k v)) S
  | _ => False
/-- what Photo(..) does: an exception, or the photo -/
def made (xs : List D) (S : Sto) (Q : D → Sto → Prop) (E : String → List D → Sto → Prop) (d : D) (S' : Sto) : Prop := match bad xs with
  | some f => E "BadPhoto" [.str f] S
  | none => Q d S'
theorem made_mono {xs : List D} {S S' : Sto} {Q Q' : DK} {E E' : String → List D → Sto → Prop} {d : D} (hq : ∀ d S, Q d S → Q' d S) (he : ∀ c fs S, E c fs S → E' c fs S) (h : made xs S Q E d S') : made xs S Q' E' d S' := by
  unfold made at h ⊢; split at h
  · exact he _ _ _ h
  · exact hq _ _ h
def Φ_Photo__init__ : DP := fun ds S Q E => match ds with
  | .ref n :: xs => xs.length = 8 ∧ plL 5 xs = true ∧ S[n]? = some (.inst "Photo" [] []) ∧ made xs S Q E .non (S.set n (.inst "Photo" phF xs))
  | _ => False
def Φ_fields : DP := fun ds S Q _ => match ds with
  | [x] => ∃ P : Ph, x = P.D ∧ Q (.tup P.ds) S
  | _ => False
def Φ_Photo__eq__ : DP := fun ds S Q _ => match ds with
  | [x, o] => ∃ P : Ph, x = P.D ∧ P.Ok ∧ ((∃ R : Ph, o = R.D ∧ R.Ok ∧ Q (.bl (eqDL P.ds R.ds)) S) ∨ (pl 6 (vw S o) = true ∧ Q (.bl false) S))
  | _ => False
def Φ_is_photo_of : DP := fun ds S Q _ => match ds with
  | [x, v] => ∃ N : Nm, x = N.D ∧ N.Ok ∧ ((∃ P : Ph, v = P.D ∧ P.Ok ∧ Q (.bl (P.inB N)) S) ∨ ∃ t, tgIn ["Names", "Photo"] S v = some t ∧ isTg t (.o "Photo") = false ∧ Q (.bl false) S)
  | _ => False
def Φ__law_some : DP := fun ds S Q _ => match ds with
  | [.ref n, .int m] => 0 ≤ m ∧ m ≤ 10 ∧ S[n]? = some .well ∧ ∀ ks : List Nat, ks.Pairwise (· < ·) → (∀ k ∈ ks, (k : Int) < m) → Q (.tup (ks.map natD)) S
  | _ => False
def Φ__law_pic : DP := fun ds S Q _ => match ds with
  | [.ref n, p] => ∃ N : Nm, N.Ok ∧ S[n]? = some .well ∧ sqL S p = some N.ds ∧ ∀ P : Ph, P.Ok → P.inB N = true → Q (.tup P.ds) S
  | _ => False
def Φ__law_photo : DP := fun ds S Q _ => match ds with
  | [v] => ∃ P : Ph, P.Ok ∧ sq S v = some P.ds ∧ Q P.D S
  | _ => False
end DL.K04
set_option maxHeartbeats 4000000
namespace DL.K04
open PySem PySem.Spec L2 DL
def Φ__law_beyond : DP := fun ds S Q _ => match ds with
  | [.ref n, p, v] => ∃ (N : Nm) (P : Ph), N.Ok ∧ P.Ok ∧ P.inB N = true ∧ S[n]? = some .well ∧ sqL S p = some N.ds ∧ sq S v = some P.ds ∧ ∀ Ps : List Ph, (∀ P ∈ Ps, P.Ok ∧ P.inB N = false) → Q (.lst (Ps.map fun P => .tup P.ds)) S
  | _ => False
def Φ__law_fits : DP := fun ds S Q _ => match ds with
  | [p, v] => ∃ (N : Nm) (P : Ph) (r : List D), N.Ok ∧ P.Ok ∧ sqL S p = some N.ds ∧ sq S v = some (P.hd ++ r) ∧ Q (.bl (P.inB N)) S
  | _ => False
end DL.K04
set_option maxHeartbeats 4000000
/-! K04: readings (printed by gen.py). -/
namespace DL.K04
open PySem PySem.Spec L2 L2H DL
open PyProof.Rows (envOfC)
def fo : String → List Str := fun c => if c = "Names" then ["tags", "people", "places", "viewers"] else if c = "Photo" then ["shot", "stars", "place", "owner", "tags", "people", "width", "height"] else if c = "BadNames" then ["part", "place"] else if c = "BadPhoto" then ["part"] else []
abbrev GG (ca : String → Addr) : Gm := ⟨ca, fo, []⟩
-- readings
abbrev OWNL : List String := ["Names", "Photo"]
abbrev fc_viewers : List String := ["Names"]
abbrev fc_places : List String := ["Names"]
abbrev fc_people : List String := ["Names", "Photo"]
abbrev fc_tags : List String := ["Names", "Photo"]
abbrev fc_height : List String := ["Photo"]
abbrev fc_width : List String := ["Photo"]
abbrev fc_owner : List String := ["Photo"]
abbrev fc_place : List String := ["Photo"]
abbrev fc_stars : List String := ["Photo"]
abbrev fc_shot : List String := ["Photo"]
def r_is_number (W : XD) : DS :=
  (dRet (dAndV (dIsi OWNL (.b "int") (dVar 0)) (dAndV (dNotV (dIsi OWNL (.b "bool") (dVar 0))) (dChain dLe dLt (dC (.int 0)) (dVar 0) (dVar 1)))))
def r_is_sequence (W : XD) : DS :=
  (dRet (dIsiT OWNL [(.b "list"), (.b "tuple")] (dVar 0)))
def r_is_ascending (W : XD) : DS :=
  (dSeq (dIf (dOr (dNot (dTest (dIsi OWNL (.b "tuple") (dVar 0)))) (dNot (dTest (dCB dAll (dCons (dLcF (diAny (dVar 0)) (.nm 2) [2] dYes (dCall Φ_is_number W0 (dCons (dVar 2) (dCons (dVar 1) dNil)))) dNil)))))
  (dRet (dC (.bl false)))
  dNext)
  (dRet (dCB dAll (dCons (dLcF (diZip (dCons (dVar 0) (dCons (dSliceF (dVar 0) (dPart (dC (.int 1))) dNoPart) dNil))) (.tp [3, 4]) [3, 4] dYes (dOp dLt (dVar 3) (dVar 4))) dNil))))
def r_is_word (W : XD) : DS :=
  (dRet (dAndV (dIsi OWNL (.b "str") (dVar 0)) (dAndV (dChain dLe dLe (dC (.int 1)) (dCB dLen (dCons (dVar 0) dNil)) (dC (.int 8))) (dCB dAll (dCons (dLcF (diAny (dVar 0)) (.nm 1) [1] dYes (dOp (dIn false) (dVar 1) (dC (.str "abcdefghijklmnopqrstuvwxyz")))) dNil)))))
def r_word_of (W : XD) : DS :=
  (dSeq (dIf (dTest (dOp (dEqD true) (dVar 0) (dC (.str "places"))))
  (dRet (dVar 1))
  dNext)
  (dSeq (dIf (dAnd (dTest (dIsi OWNL (.b "tuple") (dVar 1))) (dAnd (dTest (dOp (dEqD false) (dCB dLen (dCons (dVar 1) dNil)) (dC (.int 2)))) (dOr (dTest (dOp (dIs false) (dOp dIx (dVar 1) (dC (.int 1))) (dC .non))) (dTest (dCall Φ_is_number W (dCons (dOp dIx (dVar 1) (dC (.int 1))) (dCons (dVar 2) dNil)))))))
  (dRet (dOp dIx (dVar 1) (dC (.int 0))))
  dNext)
  (dRet (dC .non))))
def r_wrong_place (W : XD) : DS :=
  (dSeq (dSet 3 (dCB dListS (dCons (dVar 2) dNil)))
  (dSeq (dFor (diEnum (dCons (dVar 1) dNil)) (dgTup [4, 5])
  (dSeq (dSet 6 (dCall Φ_word_of W (dCons (dVar 0) (dCons (dVar 5) (dCons (dVar 4) dNil)))))
  (dSeq (dIf (dOr (dTest (dOp dGe (dVar 4) (dKget [("tags", (.int 5)), ("people", (.int 4)), ("places", (.int 8)), ("viewers", (.int 5))] (dVar 0)))) (dOr (dNot (dTest (dCall Φ_is_word W (dCons (dVar 6) dNil)))) (dTest (dOp (dIn false) (dVar 6) (dVar 3)))))
  (dRet (dVar 4))
  dNext)
  (dDrop (dBM "list" dAppend (dVar 3) (dCons (dVar 6) dNil))))))
  (dRet (dIfE (dTest (dOp dLt (dCB dLen (dCons (dVar 1) dNil)) (dKget [("tags", (.int 0)), ("people", (.int 0)), ("places", (.int 1)), ("viewers", (.int 1))] (dVar 0)))) (dCB dLen (dCons (dVar 1) dNil)) (dC .non)))))
def r_Names__init__ (W : XD) : DS :=
  (dSeq (dSet 5 (dLstF dNil))
  (dSeq (dFor (diAny (dTup (dCons (dTup (dCons (dC (.str "tags")) (dCons (dVar 1) dNil))) (dCons (dTup (dCons (dC (.str "people")) (dCons (dVar 2) dNil))) (dCons (dTup (dCons (dC (.str "places")) (dCons (dVar 3) dNil))) (dCons (dTup (dCons (dC (.str "viewers")) (dCons (dVar 4) dNil))) dNil)))))) (dgTup [6, 7])
  (dSeq (dIf (dNot (dTest (dCall Φ_is_sequence W (dCons (dVar 7) dNil))))
  (dRaise fo "BadNames" W (dCons (dVar 6) (dCons (dC (.int 0)) dNil)))
  dNext)
  (dSeq (dSet 8 (dCall Φ_wrong_place W (dCons (dVar 6) (dCons (dVar 7) (dCons (dVar 5) dNil)))))
  (dSeq (dIf (dTest (dOp (dIs true) (dVar 8) (dC .non)))
  (dRaise fo "BadNames" W (dCons (dVar 6) (dCons (dVar 8) dNil)))
  dNext)
  (dSet 5 (dOp dAddF (dVar 5) (dLcF (diEnum (dCons (dVar 7) dNil)) (.tp [9, 10]) [9, 10] dYes (dCall Φ_word_of W0 (dCons (dVar 6) (dCons (dVar 10) (dCons (dVar 9) dNil)))))))))))
  (dSeq (dFldS "Names" "tags" (dVar 0) (dCB dTuple (dCons (dVar 1) dNil)))
  (dSeq (dFldS "Names" "people" (dVar 0) (dCB dTuple (dCons (dVar 2) dNil)))
  (dSeq (dFldS "Names" "places" (dVar 0) (dCB dTuple (dCons (dVar 3) dNil)))
  (dFldS "Names" "viewers" (dVar 0) (dCB dTuple (dCons (dVar 4) dNil))))))))
def r_Names__eq__ (W : XD) : DS :=
  (dRet (dAndV (dIsi OWNL (.o "Names") (dVar 1)) (dAndV (dOp (dEqD false) (dFld fo fc_tags "tags" (dVar 0)) (dFld fo fc_tags "tags" (dVar 1))) (dAndV (dOp (dEqD false) (dFld fo fc_people "people" (dVar 0)) (dFld fo fc_people "people" (dVar 1))) (dAndV (dOp (dEqD false) (dFld fo fc_places "places" (dVar 0)) (dFld fo fc_places "places" (dVar 1))) (dOp (dEqD false) (dFld fo fc_viewers "viewers" (dVar 0)) (dFld fo fc_viewers "viewers" (dVar 1))))))))
def r_is_side (W : XD) : DS :=
  (dRet (dAndV (dCall Φ_is_number W (dCons (dVar 0) (dCons (dC (.int 10)) dNil))) (dOp dGt (dVar 0) (dC (.int 0)))))
def r_is_field (W : XD) : DS :=
  (dSeq (dIf (dTest (dOp (dEqD false) (dVar 0) (dC (.str "tags"))))
  (dRet (dCall Φ_is_ascending W (dCons (dVar 1) (dCons (dC (.int 5)) dNil))))
  dNext)
  (dSeq (dIf (dTest (dOp (dEqD false) (dVar 0) (dC (.str "people"))))
  (dRet (dCall Φ_is_ascending W (dCons (dVar 1) (dCons (dC (.int 4)) dNil))))
  dNext)
  (dSeq (dIf (dTest (dOp (dIn false) (dVar 0) (dTup (dCons (dC (.str "width")) (dCons (dC (.str "height")) dNil)))))
  (dRet (dCall Φ_is_side W (dCons (dVar 1) dNil)))
  dNext)
  (dSeq (dSet 2 (dDic ["shot", "stars", "place", "owner"] (dCons (dC (.int 10000)) (dCons (dC (.int 6)) (dCons (dC (.int 8)) (dCons (dC (.int 5)) dNil))))))
  (dRet (dCall Φ_is_number W (dCons (dVar 1) (dCons (dOp dDget (dVar 2) (dVar 0)) dNil))))))))
def r_Photo__init__ (W : XD) : DS :=
  (dSeq (dSet 9 (dTup (dCons (dTup (dCons (dC (.str "shot")) (dCons (dVar 1) dNil))) (dCons (dTup (dCons (dC (.str "stars")) (dCons (dVar 2) dNil))) (dCons (dTup (dCons (dC (.str "place")) (dCons (dVar 3) dNil))) (dCons (dTup (dCons (dC (.str "owner")) (dCons (dVar 4) dNil))) (dCons (dTup (dCons (dC (.str "tags")) (dCons (dVar 5) dNil))) (dCons (dTup (dCons (dC (.str "people")) (dCons (dVar 6) dNil))) (dCons (dTup (dCons (dC (.str "width")) (dCons (dVar 7) dNil))) (dCons (dTup (dCons (dC (.str "height")) (dCons (dVar 8) dNil))) dNil))))))))))
  (dSeq (dFor (diAny (dVar 9)) (dgTup [10, 11])
  (dIf (dNot (dTest (dCall Φ_is_field W (dCons (dVar 10) (dCons (dVar 11) dNil)))))
  (dRaise fo "BadPhoto" W (dCons (dVar 10) dNil))
  dNext))
  (dSeq (dFldS "Photo" "shot" (dVar 0) (dVar 1))
  (dSeq (dFldS "Photo" "stars" (dVar 0) (dVar 2))
  (dSeq (dFldS "Photo" "place" (dVar 0) (dVar 3))
  (dSeq (dFldS "Photo" "owner" (dVar 0) (dVar 4))
  (dSeq (dFldS "Photo" "tags" (dVar 0) (dVar 5))
  (dSeq (dFldS "Photo" "people" (dVar 0) (dVar 6))
  (dSeq (dFldS "Photo" "width" (dVar 0) (dVar 7))
  (dFldS "Photo" "height" (dVar 0) (dVar 8)))))))))))
def r_Photo__eq__ (W : XD) : DS :=
  (dRet (dAndV (dIsi OWNL (.o "Photo") (dVar 1)) (dOp (dEqD false) (dCall Φ_fields W (dCons (dVar 0) dNil)) (dCall Φ_fields W (dCons (dVar 1) dNil)))))
def r_fields (W : XD) : DS :=
  (dRet (dTup (dCons (dFld fo fc_shot "shot" (dVar 0)) (dCons (dFld fo fc_stars "stars" (dVar 0)) (dCons (dFld fo fc_place "place" (dVar 0)) (dCons (dFld fo fc_owner "owner" (dVar 0)) (dCons (dFld fo fc_tags "tags" (dVar 0)) (dCons (dFld fo fc_people "people" (dVar 0)) (dCons (dFld fo fc_width "width" (dVar 0)) (dCons (dFld fo fc_height "height" (dVar 0)) dNil))))))))))
def r_is_photo_of (W : XD) : DS :=
  (dRet (dAndV (dIsi OWNL (.o "Photo") (dVar 1)) (dAndV (dOp dLt (dFld fo fc_place "place" (dVar 1)) (dCB dLen (dCons (dFld fo fc_places "places" (dVar 0)) dNil))) (dAndV (dOp dLt (dFld fo fc_owner "owner" (dVar 1)) (dCB dLen (dCons (dFld fo fc_viewers "viewers" (dVar 0)) dNil))) (dAndV (dCall Φ_is_ascending W (dCons (dFld fo fc_tags "tags" (dVar 1)) (dCons (dCB dLen (dCons (dFld fo fc_tags "tags" (dVar 0)) dNil)) dNil))) (dCall Φ_is_ascending W (dCons (dFld fo fc_people "people" (dVar 1)) (dCons (dCB dLen (dCons (dFld fo fc_people "people" (dVar 0)) dNil)) dNil))))))))
def r__law_well (W : XD) : DS :=
  (dSeq (dSet 2 (dC (.int 0)))
  (dSeq (dIf (dTest (dOp dLt (dVar 1) (dCB dLen (dCons (dVar 0) dNil))))
  (dSet 2 (dCB dAbs (dCons (dCB dInt (dCons (dOp dIx (dVar 0) (dVar 1)) dNil)) dNil)))
  dNext)
  (dRet (dLstS (dCons (dVar 2) (dCons (dCB dInt (dCons (dOp dGe (dVar 2) (dOp dPow (dC (.int 10)) (dC (.int 18)))) dNil)) (dCons (dVar 1) (dCons (dOp dAddF (dOp dMod (dCB dInt (dCons (dVar 2) dNil)) (dC (.int 2147483629))) (dOp dMul (dC (.int 104729)) (dOp dAddF (dVar 1) (dC (.int 1))))) dNil))))))))
def r__law_take (W : XD) : DS :=
  (dSeq (dAsg (dOp dAddF (dOp dIx (dVar 0) (dC (.int 2))) (dC (.int 1))) (dgSub (dVar 0) (dC (.int 2))))
  (dSeq (dIf (dAnd (dTest (dOp (dEqD false) (dOp dIx (dVar 0) (dC (.int 1))) (dC (.int 1)))) (dTest (dOp dGt (dOp dIx (dVar 0) (dC (.int 0))) (dC (.int 0)))))
  (dSeq (dSet 2 (dOp dMod (dCB dInt (dCons (dOp dIx (dVar 0) (dC (.int 0))) dNil)) (dVar 1)))
  (dSeq (dAsg (dOp dDivv (dOp dIx (dVar 0) (dC (.int 0))) (dVar 1)) (dgSub (dVar 0) (dC (.int 0))))
  (dRet (dVar 2))))
  dNext)
  (dSeq (dAsg (dOp dMod (dCB dInt (dCons (dOp dAddF (dOp dAddF (dOp dMul (dOp dIx (dVar 0) (dC (.int 3))) (dC (.int 48271))) (dOp dMul (dOp dIx (dVar 0) (dC (.int 2))) (dC (.int 69621)))) (dC (.int 7))) dNil)) (dC (.int 2147483647))) (dgSub (dVar 0) (dC (.int 3))))
  (dRet (dOp dMod (dCB dInt (dCons (dOp dDivv (dOp dMod (dCB dInt (dCons (dOp dAddF (dOp dMul (dOp dIx (dVar 0) (dC (.int 3))) (dC (.int 16807))) (dOp dIx (dVar 0) (dC (.int 2)))) dNil)) (dC (.int 2147483629))) (dC (.int 5))) dNil)) (dVar 1))))))
def r__law_same (Φr : DP) (W : XD) : DS :=
  (dSeq (dIf (dTest (dOp (dIs false) (dVar 0) (dC .non)))
  (dRet (dOp (dIs false) (dVar 1) (dC .non)))
  dNext)
  (dSeq (dIf (dTest (dOp (dIs false) (dVar 0) (dC (.bl true))))
  (dRet (dOp (dIs false) (dVar 1) (dC (.bl true))))
  dNext)
  (dSeq (dIf (dTest (dOp (dIs false) (dVar 0) (dC (.bl false))))
  (dRet (dOp (dIs false) (dVar 1) (dC (.bl false))))
  dNext)
  (dSeq (dIf (dTest (dIsi OWNL (.b "int") (dVar 0)))
  (dRet (dAndV (dIsi OWNL (.b "int") (dVar 1)) (dAndV (dNotV (dIsi OWNL (.b "bool") (dVar 1))) (dOp (dEqD false) (dVar 0) (dVar 1)))))
  dNext)
  (dSeq (dIf (dTest (dIsi OWNL (.b "str") (dVar 0)))
  (dRet (dAndV (dIsi OWNL (.b "str") (dVar 1)) (dOp (dEqD false) (dVar 0) (dVar 1))))
  dNext)
  (dSeq (dIf (dAnd (dNot (dTest (dIsi OWNL (.b "tuple") (dVar 0)))) (dNot (dTest (dIsi OWNL (.b "list") (dVar 0)))))
  (dRet (dOp (dIs false) (dOp (dEqD false) (dVar 0) (dVar 1)) (dC (.bl true))))
  dNext)
  (dSeq (dIf (dOr (dTest (dOp (dEqD true) (dIsi OWNL (.b "tuple") (dVar 0)) (dIsi OWNL (.b "tuple") (dVar 1)))) (dTest (dOp (dEqD true) (dIsi OWNL (.b "list") (dVar 0)) (dIsi OWNL (.b "list") (dVar 1)))))
  (dRet (dC (.bl false)))
  dNext)
  (dSeq (dIf (dTest (dOp (dEqD true) (dCB dLen (dCons (dVar 0) dNil)) (dCB dLen (dCons (dVar 1) dNil))))
  (dRet (dC (.bl false)))
  dNext)
  (dSeq (dFor (diRng1 (dCons (dCB dLen (dCons (dVar 0) dNil)) dNil)) (dgName 2)
  (dIf (dNot (dTest (dCall Φr W (dCons (dOp dIx (dVar 0) (dVar 2)) (dCons (dOp dIx (dVar 1) (dVar 2)) dNil)))))
  (dRet (dC (.bl false)))
  dNext))
  (dRet (dC (.bl true))))))))))))
def rh__law_same (Φr : DP) : DS :=
  (dSeq (dIf (dTest (dOp (dIs false) (dVar 0) (dC .non)))
  (dRet (dOp (dIs false) (dVar 1) (dC .non)))
  dNext)
  (dSeq (dIf (dTest (dOp (dIs false) (dVar 0) (dC (.bl true))))
  (dRet (dOp (dIs false) (dVar 1) (dC (.bl true))))
  dNext)
  (dSeq (dIf (dTest (dOp (dIs false) (dVar 0) (dC (.bl false))))
  (dRet (dOp (dIs false) (dVar 1) (dC (.bl false))))
  dNext)
  (dSeq (dIf (dTest (dIsi OWNL (.b "int") (dVar 0)))
  (dRet (dAndV (dIsi OWNL (.b "int") (dVar 1)) (dAndV (dNotV (dIsi OWNL (.b "bool") (dVar 1))) (dOp (dEqD false) (dVar 0) (dVar 1)))))
  dNext)
  (dSeq (dIf (dTest (dIsi OWNL (.b "str") (dVar 0)))
  (dRet (dAndV (dIsi OWNL (.b "str") (dVar 1)) (dOp (dEqD false) (dVar 0) (dVar 1))))
  dNext)
  (dSeq (dIf (dAnd (dNot (dTest (dIsi OWNL (.b "tuple") (dVar 0)))) (dNot (dTest (dIsi OWNL (.b "list") (dVar 0)))))
  (dRet (dOp (dIs false) (dOp (dEqD false) (dVar 0) (dVar 1)) (dC (.bl true))))
  dNext)
  (dSeq (dIf (dOr (dTest (dOp (dEqD true) (dIsi OWNL (.b "tuple") (dVar 0)) (dIsi OWNL (.b "tuple") (dVar 1)))) (dTest (dOp (dEqD true) (dIsi OWNL (.b "list") (dVar 0)) (dIsi OWNL (.b "list") (dVar 1)))))
  (dRet (dC (.bl false)))
  dNext)
  (dSeq (dIf (dTest (dOp (dEqD true) (dCB dLen (dCons (dVar 0) dNil)) (dCB dLen (dCons (dVar 1) dNil))))
  (dRet (dC (.bl false)))
  dNext)
  (dSeq (dFor (diRng1 (dCons (dCB dLen (dCons (dVar 0) dNil)) dNil)) (dgName 2)
  (dIf (dNot (dTest (dCall Φr W0 (dCons (dOp dIx (dVar 0) (dVar 2)) (dCons (dOp dIx (dVar 1) (dVar 2)) dNil)))))
  (dRet (dC (.bl false)))
  dNext))
  (dRet (dC (.bl true))))))))))))
def r__law_word (W : XD) : DS :=
  (dSeq (dSet 2 (dC (.str "abcdefghijklmnopqrstuvwxyz")))
  (dSeq (dSet 3 (dCall Φ__law_take W (dCons (dVar 0) (dCons (dC (.int 5)) dNil))))
  (dSeq (dSet 4 (dC (.str "")))
  (dSeq (dIf (dTest (dOp (dEqD false) (dVar 3) (dC (.int 0))))
  (dSet 4 (dOp dIx (dLstF (dCons (dC (.str "all")) (dCons (dC (.str "none")) (dCons (dC (.str "not")) (dCons (dC (.str "and")) (dCons (dC (.str "or")) (dCons (dC (.str "tag")) (dCons (dC (.str "in")) (dCons (dC (.str "by")) (dCons (dC (.str "x")) (dCons (dC (.str "wide")) (dCons (dC (.str "stars")) (dCons (dC (.str "tags")) (dCons (dC (.str "people")) (dCons (dC (.str "before")) (dCons (dC (.str "person")) (dCons (dC (.str "tall")) (dCons (dC (.str "places")) (dCons (dC (.str "viewers")) dNil))))))))))))))))))) (dCall Φ__law_take W (dCons (dVar 0) (dCons (dC (.int 18)) dNil)))))
  (dIf (dAnd (dTest (dOp (dEqD false) (dVar 3) (dC (.int 1)))) (dTest (dOp dGt (dCB dLen (dCons (dVar 1) dNil)) (dC (.int 0)))))
  (dSeq (dSet 4 (dOp dIx (dVar 1) (dCall Φ__law_take W (dCons (dVar 0) (dCons (dCB dLen (dCons (dVar 1) dNil)) dNil)))))
  (dSeq (dSet 5 (dCall Φ__law_take W (dCons (dVar 0) (dCons (dCB dLen (dCons (dVar 4) dNil)) dNil))))
  (dSeq (dSet 4 (dOp dAddF (dOp dAddF (dSliceF (dVar 4) dNoPart (dPart (dVar 5))) (dOp dIx (dVar 2) (dCall Φ__law_take W (dCons (dVar 0) (dCons (dC (.int 26)) dNil))))) (dSliceF (dVar 4) (dPart (dOp dAddF (dVar 5) (dCall Φ__law_take W (dCons (dVar 0) (dCons (dC (.int 2)) dNil))))) dNoPart)))
  (dSet 4 (dSliceF (dVar 4) dNoPart (dPart (dC (.int 8))))))))
  (dFor (diRng1 (dCons (dOp dAddF (dC (.int 1)) (dCall Φ__law_take W (dCons (dVar 0) (dCons (dC (.int 8)) dNil)))) dNil)) (dgName 6)
  (dSet 4 (dOp dAddF (dVar 4) (dOp dIx (dVar 2) (dCall Φ__law_take W (dCons (dVar 0) (dCons (dC (.int 26)) dNil)))))))))
  (dSeq (dIf (dTest (dOp (dIn true) (dVar 4) (dVar 1)))
  (dRet (dVar 4))
  dNext)
  (dSeq (dFor (diAny (dVar 2)) (dgName 7)
  (dIf (dTest (dOp (dIn true) (dOp dAddF (dC (.str "zq")) (dVar 7)) (dVar 1)))
  (dRet (dOp dAddF (dC (.str "zq")) (dVar 7)))
  dNext))
  (dRet (dC (.str "zqzqzqzq")))))))))
def r__law_lists (W : XD) : DS :=
  (dSeq (dSet 1 (dLstS dNil))
  (dSeq (dSet 2 (dLstF (dCons (dOp dIx (dLstF (dCons (dC (.int 0)) (dCons (dC (.int 5)) (dCons (dCall Φ__law_take W (dCons (dVar 0) (dCons (dC (.int 6)) dNil))) dNil)))) (dCall Φ__law_take W (dCons (dVar 0) (dCons (dC (.int 3)) dNil)))) (dCons (dOp dIx (dLstF (dCons (dC (.int 0)) (dCons (dC (.int 4)) (dCons (dCall Φ__law_take W (dCons (dVar 0) (dCons (dC (.int 5)) dNil))) dNil)))) (dCall Φ__law_take W (dCons (dVar 0) (dCons (dC (.int 3)) dNil)))) (dCons (dOp dIx (dLstF (dCons (dC (.int 1)) (dCons (dC (.int 8)) (dCons (dOp dAddF (dC (.int 1)) (dCall Φ__law_take W (dCons (dVar 0) (dCons (dC (.int 8)) dNil)))) dNil)))) (dCall Φ__law_take W (dCons (dVar 0) (dCons (dC (.int 3)) dNil)))) (dCons (dOp dIx (dLstF (dCons (dC (.int 1)) (dCons (dC (.int 5)) (dCons (dOp dAddF (dC (.int 1)) (dCall Φ__law_take W (dCons (dVar 0) (dCons (dC (.int 5)) dNil)))) dNil)))) (dCall Φ__law_take W (dCons (dVar 0) (dCons (dC (.int 3)) dNil)))) dNil))))))
  (dSeq (dSet 3 (dLstS dNil))
  (dSeq (dFor (diRng1 (dCons (dC (.int 4)) dNil)) (dgName 4)
  (dSeq (dSet 5 (dLstS dNil))
  (dSeq (dFor (diRng1 (dCons (dOp dIx (dVar 2) (dVar 4)) dNil)) (dgName 6)
  (dSeq (dDrop (dBM "list" dAppend (dVar 1) (dCons (dCall Φ__law_word W (dCons (dVar 0) (dCons (dVar 1) dNil))) dNil)))
  (dSeq (dSet 7 (dC .non))
  (dSeq (dIf (dAnd (dTest (dOp (dEqD false) (dVar 4) (dC (.int 2)))) (dAnd (dTest (dOp dGt (dVar 6) (dC (.int 0)))) (dTest (dOp dGt (dCall Φ__law_take W (dCons (dVar 0) (dCons (dC (.int 4)) dNil))) (dC (.int 0))))))
  (dSet 7 (dOp dIx (dLstF (dCons (dOp dSub (dVar 6) (dC (.int 1))) (dCons (dCall Φ__law_take W (dCons (dVar 0) (dCons (dVar 6) dNil))) dNil))) (dCall Φ__law_take W (dCons (dVar 0) (dCons (dC (.int 2)) dNil)))))
  dNext)
  (dDrop (dBM "list" dAppend (dVar 5) (dCons (dOp dIx (dLstF (dCons (dOp dIx (dVar 1) (dUn dNeg (dC (.int 1)))) (dCons (dTup (dCons (dOp dIx (dVar 1) (dUn dNeg (dC (.int 1)))) (dCons (dVar 7) dNil))) dNil))) (dCB dInt (dCons (dOp (dEqD false) (dVar 4) (dC (.int 2))) dNil))) dNil)))))))
  (dDrop (dBM "list" dAppend (dVar 3) (dCons (dCB dTuple (dCons (dVar 5) dNil)) dNil))))))
  (dRet (dVar 3))))))
def r__law_made (W : XD) : DS :=
  (dRet (dMake fo "Names" Φ_Names__init__ W (dCons (dCB dListF (dCons (dOp dIx (dVar 0) (dC (.int 0))) dNil)) (dCons (dOp dIx (dVar 0) (dC (.int 1))) (dCons (dCB dListF (dCons (dOp dIx (dVar 0) (dC (.int 2))) dNil)) (dCons (dOp dIx (dVar 0) (dC (.int 3))) dNil))))))
def r__law_some (W : XD) : DS :=
  (dRet (dCB dTuple (dCons (dLcF (diRng1 (dCons (dVar 1) dNil)) (.nm 2) [2] (dTest (dOp (dEqD false) (dCall Φ__law_take W0 (dCons (dVar 0) (dCons (dC (.int 2)) dNil))) (dC (.int 1)))) (dVar 2)) dNil)))
def r__law_pic (W : XD) : DS :=
  (dSeq (dSet 2 (dOp dIx (dLstF (dCons (dC (.int 0)) (dCons (dC (.int 9999)) (dCons (dCall Φ__law_take W (dCons (dVar 0) (dCons (dC (.int 10000)) dNil))) (dCons (dCall Φ__law_take W (dCons (dVar 0) (dCons (dC (.int 9)) dNil))) dNil))))) (dCall Φ__law_take W (dCons (dVar 0) (dCons (dC (.int 4)) dNil)))))
  (dSeq (dSet 3 (dTup (dCons (dVar 2) (dCons (dCall Φ__law_take W (dCons (dVar 0) (dCons (dC (.int 6)) dNil))) (dCons (dCall Φ__law_take W (dCons (dVar 0) (dCons (dCB dLen (dCons (dOp dIx (dVar 1) (dC (.int 2))) dNil)) dNil))) (dCons (dCall Φ__law_take W (dCons (dVar 0) (dCons (dCB dLen (dCons (dOp dIx (dVar 1) (dC (.int 3))) dNil)) dNil))) dNil))))))
  (dSeq (dSet 4 (dTup (dCons (dOp dAddF (dC (.int 1)) (dCall Φ__law_take W (dCons (dVar 0) (dCons (dC (.int 9)) dNil)))) (dCons (dOp dAddF (dC (.int 1)) (dCall Φ__law_take W (dCons (dVar 0) (dCons (dC (.int 9)) dNil)))) dNil))))
  (dRet (dOp dAddF (dOp dAddF (dVar 3) (dTup (dCons (dCall Φ__law_some W (dCons (dVar 0) (dCons (dCB dLen (dCons (dOp dIx (dVar 1) (dC (.int 0))) dNil)) dNil))) (dCons (dCall Φ__law_some W (dCons (dVar 0) (dCons (dCB dLen (dCons (dOp dIx (dVar 1) (dC (.int 1))) dNil)) dNil))) dNil)))) (dVar 4))))))
def r__law_photo (W : XD) : DS :=
  (dRet (dMake fo "Photo" Φ_Photo__init__ W (dCons (dOp dIx (dVar 0) (dC (.int 0))) (dCons (dOp dIx (dVar 0) (dC (.int 1))) (dCons (dOp dIx (dVar 0) (dC (.int 2))) (dCons (dOp dIx (dVar 0) (dC (.int 3))) (dCons (dOp dIx (dVar 0) (dC (.int 4))) (dCons (dOp dIx (dVar 0) (dC (.int 5))) (dCons (dOp dIx (dVar 0) (dC (.int 6))) (dCons (dOp dIx (dVar 0) (dC (.int 7))) dNil))))))))))
def r__law_odd (W : XD) : DS :=
  (dSeq (dSet 1 (dOp dAddF (dOp dPow (dC (.int 10)) (dC (.int 12))) (dCall Φ__law_take W (dCons (dVar 0) (dCons (dOp dPow (dC (.int 10)) (dC (.int 9))) dNil)))))
  (dRet (dOp dIx (dLstF (dCons (dC .non) (dCons (dC (.bl true)) (dCons (dC (.bl false)) (dCons (dC (.str "")) (dCons (dC (.str "a")) (dCons (dC (.str "0")) (dCons (dUn dNeg (dC (.int 1))) (dCons (dC (.int 0)) (dCons (dC (.int 3)) (dCons (dVar 1) (dCons (dUn dNeg (dVar 1)) (dCons (dTup dNil) (dCons (dLstF dNil) (dCons (dTup (dCons (dC (.int 0)) dNil)) (dCons (dLstF (dCons (dC (.int 0)) dNil)) (dCons (dTup (dCons (dC (.str "all")) dNil)) (dCons (dTup (dCons (dC (.str "stars")) (dCons (dC (.int 3)) dNil))) (dCons (dLstF (dCons (dTup (dCons (dC (.str "all")) dNil)) dNil)) (dCons (dTup (dCons (dTup dNil) dNil)) (dCons (dC (.str "photo")) (dCons (dTup (dCons (dC .non) (dCons (dC (.str "a")) dNil))) dNil)))))))))))))))))))))) (dCall Φ__law_take W (dCons (dVar 0) (dCons (dC (.int 21)) dNil))))))
def r__law_beyond (W : XD) : DS :=
  (dSeq (dSet 3 (dLstS dNil))
  (dSeq (dSet 4 (dLstF (dCons (dCB dLen (dCons (dOp dIx (dVar 1) (dC (.int 2))) dNil)) (dCons (dCB dLen (dCons (dOp dIx (dVar 1) (dC (.int 3))) dNil)) (dCons (dCB dLen (dCons (dOp dIx (dVar 1) (dC (.int 0))) dNil)) (dCons (dCB dLen (dCons (dOp dIx (dVar 1) (dC (.int 1))) dNil)) dNil))))))
  (dSeq (dSet 5 (dLstF (dCons (dC (.int 8)) (dCons (dC (.int 5)) (dCons (dC (.int 5)) (dCons (dC (.int 4)) dNil))))))
  (dSeq (dFor (diRng1 (dCons (dC (.int 4)) dNil)) (dgName 6)
  (dIf (dTest (dOp dLt (dOp dIx (dVar 4) (dVar 6)) (dOp dIx (dVar 5) (dVar 6))))
  (dSeq (dSet 7 (dOp dAddF (dOp dIx (dVar 4) (dVar 6)) (dCall Φ__law_take W (dCons (dVar 0) (dCons (dOp dSub (dOp dIx (dVar 5) (dVar 6)) (dOp dIx (dVar 4) (dVar 6))) dNil)))))
  (dSeq (dSet 8 (dLcS (diAny (dVar 2)) (.nm 9) [9] dYes (dVar 9)))
  (dSeq (dIf (dTest (dOp dLt (dVar 6) (dC (.int 2))))
  (dAsg (dVar 7) (dgSub (dVar 8) (dOp dAddF (dC (.int 2)) (dVar 6))))
  (dAsg (dOp dAddF (dOp dIx (dVar 2) (dOp dAddF (dC (.int 2)) (dVar 6))) (dTup (dCons (dVar 7) dNil))) (dgSub (dVar 8) (dOp dAddF (dC (.int 2)) (dVar 6)))))
  (dSeq (dDrop (dBM "list" dAppend (dVar 3) (dCons (dCB dTuple (dCons (dVar 8) dNil)) dNil)))
  (dIf (dTest (dOp dGt (dVar 6) (dC (.int 1))))
  (dSeq (dAsg (dTup (dCons (dVar 7) dNil)) (dgSub (dVar 8) (dOp dAddF (dC (.int 2)) (dVar 6))))
  (dDrop (dBM "list" dAppend (dVar 3) (dCons (dCB dTuple (dCons (dVar 8) dNil)) dNil))))
  dNext)))))
  dNext))
  (dRet (dVar 3))))))
def r__law_fits (W : XD) : DS :=
  (dSeq (dFor (diAny (dOp dIx (dVar 1) (dC (.int 4)))) (dgName 2)
  (dIf (dTest (dOp dGe (dVar 2) (dCB dLen (dCons (dOp dIx (dVar 0) (dC (.int 0))) dNil))))
  (dRet (dC (.bl false)))
  dNext))
  (dSeq (dFor (diAny (dOp dIx (dVar 1) (dC (.int 5)))) (dgName 3)
  (dIf (dTest (dOp dGe (dVar 3) (dCB dLen (dCons (dOp dIx (dVar 0) (dC (.int 1))) dNil))))
  (dRet (dC (.bl false)))
  dNext))
  (dRet (dAndV (dOp dLt (dOp dIx (dVar 1) (dC (.int 2))) (dCB dLen (dCons (dOp dIx (dVar 0) (dC (.int 2))) dNil))) (dOp dLt (dOp dIx (dVar 1) (dC (.int 3))) (dCB dLen (dCons (dOp dIx (dVar 0) (dC (.int 3))) dNil)))))))
def r__law_body (W : XD) : DS :=
  (dSeq (dSet 1 (dCall Φ__law_well W (dCons (dVar 0) (dCons (dC (.int 0)) dNil))))
  (dSeq (dSet 2 (dCall Φ__law_lists W (dCons (dCall Φ__law_well W (dCons (dVar 0) (dCons (dC (.int 1)) dNil))) dNil)))
  (dSeq (dSet 3 (dCall Φ__law_lists W (dCons (dCall Φ__law_well W (dCons (dVar 0) (dCons (dC (.int 2)) dNil))) dNil)))
  (dSeq (dSet 4 (dCall Φ__law_made W (dCons (dVar 2) dNil)))
  (dSeq (dSet 5 (dCall Φ__law_made W (dCons (dVar 3) dNil)))
  (dSeq (dSet 6 (dCall Φ__law_pic W (dCons (dCall Φ__law_well W (dCons (dVar 0) (dCons (dC (.int 3)) dNil))) (dCons (dVar 2) dNil))))
  (dSeq (dSet 7 (dCall Φ__law_photo W (dCons (dVar 6) dNil)))
  (dSeq (dIf (dOr (dTest (dOp (dIs true) (dCall Φ_is_photo_of W (dCons (dVar 4) (dCons (dVar 7) dNil))) (dC (.bl true)))) (dNot (dTest (dCall (Φ__law_same 6) W (dCons (dCall Φ__law_fits W (dCons (dVar 3) (dCons (dVar 6) dNil))) (dCons (dCall Φ_is_photo_of W (dCons (dVar 5) (dCons (dVar 7) dNil))) dNil))))))
  (dRet (dC (.bl false)))
  dNext)
  (dSeq (dFor (diAny (dCall Φ__law_beyond W (dCons (dVar 1) (dCons (dVar 2) (dCons (dVar 6) dNil))))) (dgName 8)
  (dSeq (dIf (dTest (dOp (dIs true) (dCall Φ_is_photo_of W (dCons (dVar 4) (dCons (dCall Φ__law_photo W (dCons (dVar 8) dNil)) dNil))) (dC (.bl false))))
  (dRet (dC (.bl false)))
  dNext)
  (dIf (dNot (dTest (dCall (Φ__law_same 6) W (dCons (dCall Φ__law_fits W (dCons (dVar 3) (dCons (dVar 8) dNil))) (dCons (dCall Φ_is_photo_of W (dCons (dVar 5) (dCons (dCall Φ__law_photo W (dCons (dVar 8) dNil)) dNil))) dNil)))))
  (dRet (dC (.bl false)))
  dNext)))
  (dSeq (dSet 9 (dTup (dCons (dC (.int 9999)) (dCons (dC (.int 5)) (dCons (dOp dSub (dCB dLen (dCons (dOp dIx (dVar 2) (dC (.int 2))) dNil)) (dC (.int 1))) (dCons (dOp dSub (dCB dLen (dCons (dOp dIx (dVar 2) (dC (.int 3))) dNil)) (dC (.int 1))) (dCons (dTupRg (dCB dLen (dCons (dOp dIx (dVar 2) (dC (.int 0))) dNil))) (dCons (dTupRg (dCB dLen (dCons (dOp dIx (dVar 2) (dC (.int 1))) dNil))) dNil))))))))
  (dSeq (dSet 10 (dCall Φ__law_photo W (dCons (dOp dAddF (dVar 9) (dTup (dCons (dC (.int 9)) (dCons (dC (.int 9)) dNil)))) dNil)))
  (dSeq (dSet 11 (dCall Φ__law_fits W (dCons (dVar 3) (dCons (dVar 9) dNil))))
  (dSeq (dIf (dOr (dTest (dOp (dIs true) (dCallK Φ_is_photo_of W 2 [0, 1] (dCons (dVar 4) (dCons (dVar 10) dNil))) (dC (.bl true)))) (dNot (dTest (dCall (Φ__law_same 6) W (dCons (dVar 11) (dCons (dCall Φ_is_photo_of W (dCons (dVar 5) (dCons (dVar 10) dNil))) dNil))))))
  (dRet (dC (.bl false)))
  dNext)
  (dSeq (dSet 12 (dOp dIx (dLstF (dCons (dC .non) (dCons (dVar 6) (dCons (dCB dListF (dCons (dVar 6) dNil)) (dCons (dOp dIx (dVar 6) (dC (.int 0))) (dCons (dC (.str "photo")) (dCons (dVar 4) (dCons (dCall Φ__law_odd W (dCons (dVar 1) dNil)) (dCons (dTup (dCons (dVar 7) dNil)) (dCons (dLstF (dCons (dVar 7) dNil)) (dCons (dC (.bl true)) dNil))))))))))) (dCall Φ__law_take W (dCons (dVar 1) (dCons (dC (.int 10)) dNil)))))
  (dSeq (dIf (dTest (dOp (dIs true) (dCall Φ_is_photo_of W (dCons (dVar 4) (dCons (dVar 12) dNil))) (dC (.bl false))))
  (dRet (dC (.bl false)))
  dNext)
  (dRet (dAndV (dOp (dIs false) (dCall Φ_is_photo_of W (dCons (dVar 4) (dCons (dVar 7) dNil))) (dC (.bl true))) (dCall (Φ__law_same 6) W (dCons (dVar 6) (dCons (dCall Φ_fields W (dCons (dVar 7) dNil)) dNil))))))))))))))))))))
def r_law (W : XD) : DS :=
  (dRet (dCall Φ__law_body W0 (dCons (dVar 0) dNil)))

end DL.K04
set_option maxHeartbeats 4000000
/-! K04: the text by places, its slots, what the top has written, derivations (printed by gen.py). -/
namespace DL.K04
open PySem PySem.Spec L2 L2H DL
open PyProof.Rows (envOfC)
def top (i : Nat) : Stmt := PySem.Challenge.pw_keptlight_k04_photos_of_some_names.main.body.getD i (.Pass ⟨0, 0, 0, 0⟩)
-- heads
abbrev s_is_number : Stmt := top 9
theorem sc_is_number : FnScope ["value", "many"] ["value", "many"] (defScope s_is_number) := ⟨rfl, rfl, rfl, by decide +kernel, rfl, by decide +kernel, by decide +kernel⟩
abbrev s_is_sequence : Stmt := top 10
theorem sc_is_sequence : FnScope ["value"] ["value"] (defScope s_is_sequence) := ⟨rfl, rfl, rfl, by decide +kernel, rfl, by decide +kernel, by decide +kernel⟩
abbrev s_is_ascending : Stmt := top 11
theorem sc_is_ascending : FnScope ["value", "many", "member", "one", "other"] ["value", "many"] (defScope s_is_ascending) := ⟨rfl, rfl, rfl, by decide +kernel, rfl, by decide +kernel, by decide +kernel⟩
abbrev s_is_word : Stmt := top 12
theorem sc_is_word : FnScope ["value", "sign"] ["value"] (defScope s_is_word) := ⟨rfl, rfl, rfl, by decide +kernel, rfl, by decide +kernel, by decide +kernel⟩
abbrev s_word_of : Stmt := top 13
theorem sc_word_of : FnScope ["part", "row", "at"] ["part", "row", "at"] (defScope s_word_of) := ⟨rfl, rfl, rfl, by decide +kernel, rfl, by decide +kernel, by decide +kernel⟩
abbrev s_wrong_place : Stmt := top 14
theorem sc_wrong_place : FnScope ["part", "rows", "earlier", "known", "at", "row", "word"] ["part", "rows", "earlier"] (defScope s_wrong_place) := ⟨rfl, rfl, rfl, by decide +kernel, rfl, by decide +kernel, by decide +kernel⟩
abbrev s_Names__init__ : Stmt := inClass (top 15) 0
theorem sc_Names__init__ : FnScope ["self", "tags", "people", "places", "viewers", "known", "part", "rows", "wrong", "at", "row"] ["self", "tags", "people", "places", "viewers"] (defScope s_Names__init__) := ⟨rfl, rfl, rfl, by decide +kernel, rfl, by decide +kernel, by decide +kernel⟩
abbrev s_Names__eq__ : Stmt := inClass (top 15) 1
theorem sc_Names__eq__ : FnScope ["self", "other"] ["self", "other"] (defScope s_Names__eq__) := ⟨rfl, rfl, rfl, by decide +kernel, rfl, by decide +kernel, by decide +kernel⟩
abbrev s_is_side : Stmt := top 24
theorem sc_is_side : FnScope ["value"] ["value"] (defScope s_is_side) := ⟨rfl, rfl, rfl, by decide +kernel, rfl, by decide +kernel, by decide +kernel⟩
abbrev s_is_field : Stmt := top 25
theorem sc_is_field : FnScope ["field", "value", "many"] ["field", "value"] (defScope s_is_field) := ⟨rfl, rfl, rfl, by decide +kernel, rfl, by decide +kernel, by decide +kernel⟩
abbrev s_Photo__init__ : Stmt := inClass (top 26) 0
theorem sc_Photo__init__ : FnScope ["self", "shot", "stars", "place", "owner", "tags", "people", "width", "height", "rows", "part", "value"] ["self", "shot", "stars", "place", "owner", "tags", "people", "width", "height"] (defScope s_Photo__init__) := ⟨rfl, rfl, rfl, by decide +kernel, rfl, by decide +kernel, by decide +kernel⟩
abbrev s_Photo__eq__ : Stmt := inClass (top 26) 1
theorem sc_Photo__eq__ : FnScope ["self", "other"] ["self", "other"] (defScope s_Photo__eq__) := ⟨rfl, rfl, rfl, by decide +kernel, rfl, by decide +kernel, by decide +kernel⟩
abbrev s_fields : Stmt := top 27
theorem sc_fields : FnScope ["photo"] ["photo"] (defScope s_fields) := ⟨rfl, rfl, rfl, by decide +kernel, rfl, by decide +kernel, by decide +kernel⟩
abbrev s_is_photo_of : Stmt := top 28
theorem sc_is_photo_of : FnScope ["names", "value"] ["names", "value"] (defScope s_is_photo_of) := ⟨rfl, rfl, rfl, by decide +kernel, rfl, by decide +kernel, by decide +kernel⟩
abbrev s__law_well : Stmt := top 30
theorem sc__law_well : FnScope ["script", "k", "cell"] ["script", "k"] (defScope s__law_well) := ⟨rfl, rfl, rfl, by decide +kernel, rfl, by decide +kernel, by decide +kernel⟩
abbrev s__law_take : Stmt := top 31
theorem sc__law_take : FnScope ["well", "many", "got"] ["well", "many"] (defScope s__law_take) := ⟨rfl, rfl, rfl, by decide +kernel, rfl, by decide +kernel, by decide +kernel⟩
abbrev s__law_same : Stmt := top 32
theorem sc__law_same : FnScope ["due", "got", "k"] ["due", "got"] (defScope s__law_same) := ⟨rfl, rfl, rfl, by decide +kernel, rfl, by decide +kernel, by decide +kernel⟩
abbrev s__law_word : Stmt := top 33
theorem sc__law_word : FnScope ["well", "used", "signs", "turn", "out", "spot", "k", "sign"] ["well", "used"] (defScope s__law_word) := ⟨rfl, rfl, rfl, by decide +kernel, rfl, by decide +kernel, by decide +kernel⟩
abbrev s__law_lists : Stmt := top 34
theorem sc__law_lists : FnScope ["well", "used", "sizes", "whole", "at", "row", "k", "up"] ["well"] (defScope s__law_lists) := ⟨rfl, rfl, rfl, by decide +kernel, rfl, by decide +kernel, by decide +kernel⟩
abbrev s__law_made : Stmt := top 35
theorem sc__law_made : FnScope ["lists"] ["lists"] (defScope s__law_made) := ⟨rfl, rfl, rfl, by decide +kernel, rfl, by decide +kernel, by decide +kernel⟩
abbrev s__law_some : Stmt := top 36
theorem sc__law_some : FnScope ["well", "size", "k"] ["well", "size"] (defScope s__law_some) := ⟨rfl, rfl, rfl, by decide +kernel, rfl, by decide +kernel, by decide +kernel⟩
abbrev s__law_pic : Stmt := top 37
theorem sc__law_pic : FnScope ["well", "lists", "shot", "head", "tail"] ["well", "lists"] (defScope s__law_pic) := ⟨rfl, rfl, rfl, by decide +kernel, rfl, by decide +kernel, by decide +kernel⟩
abbrev s__law_photo : Stmt := top 38
theorem sc__law_photo : FnScope ["pic"] ["pic"] (defScope s__law_photo) := ⟨rfl, rfl, rfl, by decide +kernel, rfl, by decide +kernel, by decide +kernel⟩
abbrev s__law_odd : Stmt := top 39
theorem sc__law_odd : FnScope ["well", "great"] ["well"] (defScope s__law_odd) := ⟨rfl, rfl, rfl, by decide +kernel, rfl, by decide +kernel, by decide +kernel⟩
abbrev s__law_beyond : Stmt := top 40
theorem sc__law_beyond : FnScope ["well", "lists", "pic", "out", "sizes", "tops", "k", "far", "other", "part"] ["well", "lists", "pic"] (defScope s__law_beyond) := ⟨rfl, rfl, rfl, by decide +kernel, rfl, by decide +kernel, by decide +kernel⟩
abbrev s__law_fits : Stmt := top 41
theorem sc__law_fits : FnScope ["lists", "pic", "tag", "one"] ["lists", "pic"] (defScope s__law_fits) := ⟨rfl, rfl, rfl, by decide +kernel, rfl, by decide +kernel, by decide +kernel⟩
abbrev s__law_body : Stmt := top 42
theorem sc__law_body : FnScope ["script", "well", "lists", "others", "nam", "two", "pic", "photo", "far", "edge", "whole", "due", "value"] ["script"] (defScope s__law_body) := ⟨rfl, rfl, rfl, by decide +kernel, rfl, by decide +kernel, by decide +kernel⟩
abbrev s_law : Stmt := top 43
theorem sc_law : FnScope ["script"] ["script"] (defScope s_law) := ⟨rfl, rfl, rfl, by decide +kernel, rfl, by decide +kernel, by decide +kernel⟩
-- facts
structure Tx (P : Program) (w : World) (K : PySem.W.Frag) (mg : Str → Option Value) (base : Heap) (ca : String → Addr) : Prop where
  n_isinstance : mg "isinstance" = none
  n_bool : mg "bool" = none
  n_int : mg "int" = none
  n_list : mg "list" = none
  n_tuple : mg "tuple" = none
  n_zip : mg "zip" = none
  n_all : mg "all" = none
  k_LETTERS : ∃ t, mg "LETTERS" = some (.str "abcdefghijklmnopqrstuvwxyz" t)
  n_len : mg "len" = none
  k_LONGEST : ∃ t, mg "LONGEST" = some (.int 8 t)
  n_str : mg "str" = none
  d_LEAST : ∃ p, mg "LEAST" = some (.ref p) ∧ KD K w p [("tags", (.int 0)), ("people", (.int 0)), ("places", (.int 1)), ("viewers", (.int 1))]
  n_enumerate : mg "enumerate" = none
  d_MOST : ∃ p, mg "MOST" = some (.ref p) ∧ KD K w p [("tags", (.int 5)), ("people", (.int 4)), ("places", (.int 8)), ("viewers", (.int 5))]
  f1_Names_viewers : ClsF K (GG ca) ["Names"] "viewers"
  f1_Names_places : ClsF K (GG ca) ["Names"] "places"
  f1_Names_people : ClsF K (GG ca) ["Names"] "people"
  f1_Names_tags : ClsF K (GG ca) ["Names"] "tags"
  x_BadNames : XC P w K mg base (GG ca) "BadNames" "BadNames"
  f_viewers : ClsF K (GG ca) fc_viewers "viewers"
  f_places : ClsF K (GG ca) fc_places "places"
  f_people : ClsF K (GG ca) fc_people "people"
  f_tags : ClsF K (GG ca) fc_tags "tags"
  c_Names : mg "Names" = some (.ref (ca "Names"))
  k_SIDES : ∃ t, mg "SIDES" = some (.int 10 t)
  k_VIEWERS : ∃ t, mg "VIEWERS" = some (.int 5 t)
  k_PLACES : ∃ t, mg "PLACES" = some (.int 8 t)
  k_STARS : ∃ t, mg "STARS" = some (.int 6 t)
  k_SHOTS : ∃ t, mg "SHOTS" = some (.int 10000 t)
  k_PEOPLE : ∃ t, mg "PEOPLE" = some (.int 4 t)
  k_TAGS : ∃ t, mg "TAGS" = some (.int 5 t)
  f1_Photo_height : ClsF K (GG ca) ["Photo"] "height"
  f1_Photo_width : ClsF K (GG ca) ["Photo"] "width"
  f1_Photo_people : ClsF K (GG ca) ["Photo"] "people"
  f1_Photo_tags : ClsF K (GG ca) ["Photo"] "tags"
  f1_Photo_owner : ClsF K (GG ca) ["Photo"] "owner"
  f1_Photo_place : ClsF K (GG ca) ["Photo"] "place"
  f1_Photo_stars : ClsF K (GG ca) ["Photo"] "stars"
  f1_Photo_shot : ClsF K (GG ca) ["Photo"] "shot"
  x_BadPhoto : XC P w K mg base (GG ca) "BadPhoto" "BadPhoto"
  c_Photo : mg "Photo" = some (.ref (ca "Photo"))
  f_height : ClsF K (GG ca) fc_height "height"
  f_width : ClsF K (GG ca) fc_width "width"
  f_owner : ClsF K (GG ca) fc_owner "owner"
  f_place : ClsF K (GG ca) fc_place "place"
  f_stars : ClsF K (GG ca) fc_stars "stars"
  f_shot : ClsF K (GG ca) fc_shot "shot"
  n_abs : mg "abs" = none
  n_range : mg "range" = none
  own : OwnK K (GG ca) OWNL
-- derivations
theorem b_is_number {P : Program} {w : World} {K : PySem.W.Frag} {mg : Str → Option Value} {base : Heap} {ca : String → Addr} (T : Tx P w K mg base ca)
    {f : Addr} {cdv : Value} {A : Around} {outer : List Env} {s : Shared} {H : Hp} {E : XK} {hid ι0 : List Addr} {H0 : Hp} {W : XD} (hr : Room 0 (A.deeper (envOfC "is_number" (defScope s_is_number) s.heap.objs.size f cdv)))
    (tk : Tk (cxOf (L2N.CX P w) P w K mg base ["value", "many"] "is_number" (defScope s_is_number) f cdv A outer s H E) ((GG ca).hide hid) ι0 H0 W) :
    PSsd (cxOf (L2N.CX P w) P w K mg base ["value", "many"] "is_number" (defScope s_is_number) f cdv A outer s H E) ((GG ca).hide hid) ι0 H0 (defBody s_is_number) (r_is_number W) :=
  (pssd_one (psd_ret (ped_and (ped_isi (T.own.hide hid) (ped_var (i := 0)) (.b T.n_int (by decide +kernel) (by decide)) T.n_isinstance) (ped_and (ped_not (ped_isi (T.own.hide hid) (ped_var (i := 0)) (.b T.n_bool (by decide +kernel) (by decide)) T.n_isinstance)) (ped_one (ped_chain op_le op_lt lk_le lk_lt ped_int (ped_var (i := 0)) (ped_var (i := 1))))))))
theorem b_is_sequence {P : Program} {w : World} {K : PySem.W.Frag} {mg : Str → Option Value} {base : Heap} {ca : String → Addr} (T : Tx P w K mg base ca)
    {f : Addr} {cdv : Value} {A : Around} {outer : List Env} {s : Shared} {H : Hp} {E : XK} {hid ι0 : List Addr} {H0 : Hp} {W : XD} (hr : Room 0 (A.deeper (envOfC "is_sequence" (defScope s_is_sequence) s.heap.objs.size f cdv)))
    (tk : Tk (cxOf (L2N.CX P w) P w K mg base ["value"] "is_sequence" (defScope s_is_sequence) f cdv A outer s H E) ((GG ca).hide hid) ι0 H0 W) :
    PSsd (cxOf (L2N.CX P w) P w K mg base ["value"] "is_sequence" (defScope s_is_sequence) f cdv A outer s H E) ((GG ca).hide hid) ι0 H0 (defBody s_is_sequence) (r_is_sequence W) :=
  (pssd_one (psd_ret (ped_isiT2 (T.own.hide hid) (ped_var (i := 0)) (.b T.n_list (by decide +kernel) (by decide)) (.b T.n_tuple (by decide +kernel) (by decide)) T.n_isinstance)))
theorem b_is_ascending {P : Program} {w : World} {K : PySem.W.Frag} {mg : Str → Option Value} {base : Heap} {ca : String → Addr} (T : Tx P w K mg base ca) (F_is_number : FD P w K mg base (GG ca) "is_number" 1 ["value", "many"] Φ_is_number)
    {f : Addr} {cdv : Value} {A : Around} {outer : List Env} {s : Shared} {H : Hp} {E : XK} {hid ι0 : List Addr} {H0 : Hp} {W : XD} (hr : Room 1 (A.deeper (envOfC "is_ascending" (defScope s_is_ascending) s.heap.objs.size f cdv)))
    (tk : Tk (cxOf (L2N.CX P w) P w K mg base ["value", "many", "member", "one", "other"] "is_ascending" (defScope s_is_ascending) f cdv A outer s H E) ((GG ca).hide hid) ι0 H0 W) :
    PSsd (cxOf (L2N.CX P w) P w K mg base ["value", "many", "member", "one", "other"] "is_ascending" (defScope s_is_ascending) f cdv A outer s H E) ((GG ca).hide hid) ι0 H0 (defBody s_is_ascending) (r_is_ascending W) :=
  (pssd_cons (psd_if (PWd.pt (pwd_or (ptd_not (ptd_val (ped_isi (T.own.hide hid) (ped_var (i := 0)) (.b T.n_tuple (by decide +kernel) (by decide)) T.n_isinstance))) (pwd_or1 (ptd_not (ptd_val (ped_callB (cr_all rfl) lk_all T.n_all (pad_cons (ped_lcF (l := (.nm 2)) [("member", 2)] rfl sc_is_ascending.nd (pid_any (ped_var (i := 0))) (blk_ok (N := ["value", "many", "member", "one", "other"]) (sc := defScope s_is_ascending) (by decide +kernel)) (by decide) (fun _ _ _ _ _ => pg_name sc_is_ascending.nd (by rfl) (by first | exact .inl rfl | exact .inr rfl) (by first | exact .inl rfl | exact .inr rfl)) (fun _ _ _ _ _ hid1 => ptsd_nil) (fun _ _ _ _ _ hid1 => (ped_call (F_is_number.hide hid1) (hr.mono (by omega)) tk0 (pad_cons (ped_var (i := 2)) (pad_cons (ped_var (i := 1)) pad_nil))))) pad_nil)))))))
  (pssd_one (psd_ret ped_bl))
  pssd_nil)
  (pssd_one (psd_ret (ped_callB (cr_all rfl) lk_all T.n_all (pad_cons (ped_lcF (l := (.tp [3, 4])) [("one", 3), ("other", 4)] rfl sc_is_ascending.nd (pid_zip T.n_zip (pad_cons (ped_var (i := 0)) (pad_cons (ped_sliceF (ped_var (i := 0)) (pod_some ped_int) pod_none) pad_nil))) (blk_ok (N := ["value", "many", "member", "one", "other"]) (sc := defScope s_is_ascending) (by decide +kernel)) (by decide) (fun _ _ _ _ _ => pg_tup (by rfl) (pgns_cons sc_is_ascending.nd (pgns_cons sc_is_ascending.nd pgns_nil)) (by rfl) (by rfl)) (fun _ _ _ _ _ hid1 => ptsd_nil) (fun _ _ _ _ _ hid1 => (ped_cmp op_lt lk_lt (ped_var (i := 3)) (ped_var (i := 4))))) pad_nil)))))
theorem b_is_word {P : Program} {w : World} {K : PySem.W.Frag} {mg : Str → Option Value} {base : Heap} {ca : String → Addr} (T : Tx P w K mg base ca)
    {f : Addr} {cdv : Value} {A : Around} {outer : List Env} {s : Shared} {H : Hp} {E : XK} {hid ι0 : List Addr} {H0 : Hp} {W : XD} (hr : Room 0 (A.deeper (envOfC "is_word" (defScope s_is_word) s.heap.objs.size f cdv)))
    (tk : Tk (cxOf (L2N.CX P w) P w K mg base ["value", "sign"] "is_word" (defScope s_is_word) f cdv A outer s H E) ((GG ca).hide hid) ι0 H0 W) :
    PSsd (cxOf (L2N.CX P w) P w K mg base ["value", "sign"] "is_word" (defScope s_is_word) f cdv A outer s H E) ((GG ca).hide hid) ι0 H0 (defBody s_is_word) (r_is_word W) :=
  (pssd_one (psd_ret (ped_and (ped_isi (T.own.hide hid) (ped_var (i := 0)) (.b T.n_str (by decide +kernel) (by decide)) T.n_isinstance) (ped_and (ped_chain op_le op_le lk_le lk_le ped_int (ped_callB call_len lk_len T.n_len (pad_cons (ped_var (i := 0)) pad_nil)) (ped_glob (v := .int 8) T.k_LONGEST.choose_spec ⟨_, rfl⟩ fun _ _ => .int _)) (ped_one (ped_callB (cr_all rfl) lk_all T.n_all (pad_cons (ped_lcF (l := (.nm 1)) [("sign", 1)] rfl sc_is_word.nd (pid_any (ped_var (i := 0))) (blk_ok (N := ["value", "sign"]) (sc := defScope s_is_word) (by decide +kernel)) (by decide) (fun _ _ _ _ _ => pg_name sc_is_word.nd (by rfl) (by first | exact .inl rfl | exact .inr rfl) (by first | exact .inl rfl | exact .inr rfl)) (fun _ _ _ _ _ hid1 => ptsd_nil) (fun _ _ _ _ _ hid1 => (ped_cmp op_inA lk_in (ped_var (i := 1)) (ped_glob (v := .str "abcdefghijklmnopqrstuvwxyz") T.k_LETTERS.choose_spec ⟨_, rfl⟩ fun _ _ => .str _)))) pad_nil)))))))
theorem b_word_of {P : Program} {w : World} {K : PySem.W.Frag} {mg : Str → Option Value} {base : Heap} {ca : String → Addr} (T : Tx P w K mg base ca) (F_is_number : FD P w K mg base (GG ca) "is_number" 1 ["value", "many"] Φ_is_number)
    {f : Addr} {cdv : Value} {A : Around} {outer : List Env} {s : Shared} {H : Hp} {E : XK} {hid ι0 : List Addr} {H0 : Hp} {W : XD} (hr : Room 1 (A.deeper (envOfC "word_of" (defScope s_word_of) s.heap.objs.size f cdv)))
    (tk : Tk (cxOf (L2N.CX P w) P w K mg base ["part", "row", "at"] "word_of" (defScope s_word_of) f cdv A outer s H E) ((GG ca).hide hid) ι0 H0 W) :
    PSsd (cxOf (L2N.CX P w) P w K mg base ["part", "row", "at"] "word_of" (defScope s_word_of) f cdv A outer s H E) ((GG ca).hide hid) ι0 H0 (defBody s_word_of) (r_word_of W) :=
  (pssd_cons (psd_if (ptd_cmp (op_neA (hu64 hr)) lk_ne (ped_var (i := 0)) ped_str)
  (pssd_one (psd_ret (ped_var (i := 1))))
  pssd_nil)
  (pssd_cons (psd_if (PWd.pt (pwd_and (ptd_val (ped_isi (T.own.hide hid) (ped_var (i := 1)) (.b T.n_tuple (by decide +kernel) (by decide)) T.n_isinstance)) (pwd_and (ptd_cmp (op_eqA (hu64 hr)) lk_eq (ped_callB call_len lk_len T.n_len (pad_cons (ped_var (i := 1)) pad_nil)) ped_int) (pwd_and1 (PWd.pt (pwd_or (ptd_cmp op_isA lk_is (ped_ix ix_seq lk_ix (ped_var (i := 1)) ped_int) ped_non) (pwd_or1 (ptd_val (ped_call (F_is_number.hide hid) (hr.mono (by omega)) tk (pad_cons (ped_ix ix_seq lk_ix (ped_var (i := 1)) ped_int) (pad_cons (ped_var (i := 2)) pad_nil)))))))))))
  (pssd_one (psd_ret (ped_ix ix_seq lk_ix (ped_var (i := 1)) ped_int)))
  pssd_nil)
  (pssd_one (psd_ret ped_non))))
theorem b_wrong_place {P : Program} {w : World} {K : PySem.W.Frag} {mg : Str → Option Value} {base : Heap} {ca : String → Addr} (T : Tx P w K mg base ca) (F_is_word : FD P w K mg base (GG ca) "is_word" 1 ["value"] Φ_is_word) (F_word_of : FD P w K mg base (GG ca) "word_of" 2 ["part", "row", "at"] Φ_word_of)
    {f : Addr} {cdv : Value} {A : Around} {outer : List Env} {s : Shared} {H : Hp} {E : XK} {hid ι0 : List Addr} {H0 : Hp} {W : XD} (hr : Room 2 (A.deeper (envOfC "wrong_place" (defScope s_wrong_place) s.heap.objs.size f cdv)))
    (tk : Tk (cxOf (L2N.CX P w) P w K mg base ["part", "rows", "earlier", "known", "at", "row", "word"] "wrong_place" (defScope s_wrong_place) f cdv A outer s H E) ((GG ca).hide hid) ι0 H0 W) :
    PSsd (cxOf (L2N.CX P w) P w K mg base ["part", "rows", "earlier", "known", "at", "row", "word"] "wrong_place" (defScope s_wrong_place) f cdv A outer s H E) ((GG ca).hide hid) ι0 H0 (defBody s_wrong_place) (r_wrong_place W) :=
  (pssd_cons (psd_set sc_wrong_place.nd (ped_callTy call_list_of lk_listS T.n_list (pad_cons (ped_var (i := 2)) pad_nil)))
  (pssd_cons (psd_for (passes_of rfl) rfl (pid_enum T.n_enumerate (pad_cons (ped_var (i := 1)) pad_nil)) (pgd_tup rfl (pgns_cons sc_wrong_place.nd (pgns_cons sc_wrong_place.nd pgns_nil)))
  (pssd_cons (psd_set sc_wrong_place.nd (ped_call (F_word_of.hide hid) (hr.mono (by omega)) tk (pad_cons (ped_var (i := 0)) (pad_cons (ped_var (i := 5)) (pad_cons (ped_var (i := 4)) pad_nil)))))
  (pssd_cons (psd_if (PWd.pt (pwd_or (ptd_cmp op_ge lk_ge (ped_var (i := 4)) (ped_kget T.d_MOST.choose_spec.2 T.d_MOST.choose_spec.1 (ped_var (i := 0)))) (pwd_or (ptd_not (ptd_val (ped_call (F_is_word.hide hid) (hr.mono (by omega)) tk (pad_cons (ped_var (i := 6)) pad_nil)))) (pwd_or1 (ptd_cmp op_inA lk_in (ped_var (i := 6)) (ped_var (i := 3)))))))
  (pssd_one (psd_ret (ped_var (i := 4))))
  pssd_nil)
  (pssd_one (psd_expr (ped_append (ped_var (i := 3)) (pad_cons (ped_var (i := 6)) pad_nil)))))))
  (pssd_one (psd_ret (ped_ifExp (ptd_cmp op_lt lk_lt (ped_callB call_len lk_len T.n_len (pad_cons (ped_var (i := 1)) pad_nil)) (ped_kget T.d_LEAST.choose_spec.2 T.d_LEAST.choose_spec.1 (ped_var (i := 0)))) (ped_callB call_len lk_len T.n_len (pad_cons (ped_var (i := 1)) pad_nil)) ped_non)))))
theorem b_Names__init__ {P : Program} {w : World} {K : PySem.W.Frag} {mg : Str → Option Value} {base : Heap} {ca : String → Addr} (T : Tx P w K mg base ca) (F_word_of : FD P w K mg base (GG ca) "word_of" 2 ["part", "row", "at"] Φ_word_of) (F_wrong_place : FD P w K mg base (GG ca) "wrong_place" 3 ["part", "rows", "earlier"] Φ_wrong_place) (F_is_sequence : FD P w K mg base (GG ca) "is_sequence" 1 ["value"] Φ_is_sequence)
    {f : Addr} {cdv : Value} {A : Around} {outer : List Env} {s : Shared} {H : Hp} {E : XK} {hid ι0 : List Addr} {H0 : Hp} {W : XD} (hr : Room 3 (A.deeper (envOfC "Names.__init__" (defScope s_Names__init__) s.heap.objs.size f cdv)))
    (tk : Tk (cxOf (L2N.CX P w) P w K mg base ["self", "tags", "people", "places", "viewers", "known", "part", "rows", "wrong", "at", "row"] "Names.__init__" (defScope s_Names__init__) f cdv A outer s H E) ((GG ca).hide hid) ι0 H0 W) :
    PSsd (cxOf (L2N.CX P w) P w K mg base ["self", "tags", "people", "places", "viewers", "known", "part", "rows", "wrong", "at", "row"] "Names.__init__" (defScope s_Names__init__) f cdv A outer s H E) ((GG ca).hide hid) ι0 H0 (defBody s_Names__init__) (r_Names__init__ W) :=
  (pssd_cons (psd_set sc_Names__init__.nd (ped_lstF pad_nil))
  (pssd_cons (psd_for (passes_of rfl) rfl (pid_any (ped_tup (pad_cons (ped_tup (pad_cons ped_str (pad_cons (ped_var (i := 1)) pad_nil))) (pad_cons (ped_tup (pad_cons ped_str (pad_cons (ped_var (i := 2)) pad_nil))) (pad_cons (ped_tup (pad_cons ped_str (pad_cons (ped_var (i := 3)) pad_nil))) (pad_cons (ped_tup (pad_cons ped_str (pad_cons (ped_var (i := 4)) pad_nil))) pad_nil)))))) (pgd_tup rfl (pgns_cons sc_Names__init__.nd (pgns_cons sc_Names__init__.nd pgns_nil)))
  (pssd_cons (psd_if (ptd_not (ptd_val (ped_call (F_is_sequence.hide hid) (hr.mono (by omega)) tk (pad_cons (ped_var (i := 7)) pad_nil))))
  (pssd_one (psd_raise (T.x_BadNames.hide hid) hr (by omega) rfl tk (pad_cons (ped_var (i := 6)) (pad_cons ped_int pad_nil)) (by show 2 ≤ 1000; decide)))
  pssd_nil)
  (pssd_cons (psd_set sc_Names__init__.nd (ped_call (F_wrong_place.hide hid) (hr.mono (by omega)) tk (pad_cons (ped_var (i := 6)) (pad_cons (ped_var (i := 7)) (pad_cons (ped_var (i := 5)) pad_nil)))))
  (pssd_cons (psd_if (ptd_cmp op_isnotA lk_is (ped_var (i := 8)) ped_non)
  (pssd_one (psd_raise (T.x_BadNames.hide hid) hr (by omega) rfl tk (pad_cons (ped_var (i := 6)) (pad_cons (ped_var (i := 8)) pad_nil)) (by show 2 ≤ 1000; decide)))
  pssd_nil)
  (pssd_one (psd_set sc_Names__init__.nd (ped_bin op_addA lk_addF (ped_var (i := 5)) (ped_lcF (l := (.tp [9, 10])) [("at", 9), ("row", 10)] rfl sc_Names__init__.nd (pid_enum T.n_enumerate (pad_cons (ped_var (i := 7)) pad_nil)) (blk_ok (N := ["self", "tags", "people", "places", "viewers", "known", "part", "rows", "wrong", "at", "row"]) (sc := defScope s_Names__init__) (by decide +kernel)) (by decide) (fun _ _ _ _ _ => pg_tup (by rfl) (pgns_cons sc_Names__init__.nd (pgns_cons sc_Names__init__.nd pgns_nil)) (by rfl) (by rfl)) (fun _ _ _ _ _ hid1 => ptsd_nil) (fun _ _ _ _ _ hid1 => (ped_call (F_word_of.hide hid1) (hr.mono (by omega)) tk0 (pad_cons (ped_var (i := 6)) (pad_cons (ped_var (i := 10)) (pad_cons (ped_var (i := 9)) pad_nil)))))))))))))
  (pssd_cons (psd_fld T.f1_Names_tags (ped_var (i := 0)) (ped_callTy call_tuple_of lk_tuple T.n_tuple (pad_cons (ped_var (i := 1)) pad_nil)))
  (pssd_cons (psd_fld T.f1_Names_people (ped_var (i := 0)) (ped_callTy call_tuple_of lk_tuple T.n_tuple (pad_cons (ped_var (i := 2)) pad_nil)))
  (pssd_cons (psd_fld T.f1_Names_places (ped_var (i := 0)) (ped_callTy call_tuple_of lk_tuple T.n_tuple (pad_cons (ped_var (i := 3)) pad_nil)))
  (pssd_one (psd_fld T.f1_Names_viewers (ped_var (i := 0)) (ped_callTy call_tuple_of lk_tuple T.n_tuple (pad_cons (ped_var (i := 4)) pad_nil)))))))))
theorem b_Names__eq__ {P : Program} {w : World} {K : PySem.W.Frag} {mg : Str → Option Value} {base : Heap} {ca : String → Addr} (T : Tx P w K mg base ca)
    {f : Addr} {cdv : Value} {A : Around} {outer : List Env} {s : Shared} {H : Hp} {E : XK} {hid ι0 : List Addr} {H0 : Hp} {W : XD} (hr : Room 0 (A.deeper (envOfC "Names.__eq__" (defScope s_Names__eq__) s.heap.objs.size f cdv)))
    (tk : Tk (cxOf (L2N.CX P w) P w K mg base ["self", "other"] "Names.__eq__" (defScope s_Names__eq__) f cdv A outer s H E) ((GG ca).hide hid) ι0 H0 W) :
    PSsd (cxOf (L2N.CX P w) P w K mg base ["self", "other"] "Names.__eq__" (defScope s_Names__eq__) f cdv A outer s H E) ((GG ca).hide hid) ι0 H0 (defBody s_Names__eq__) (r_Names__eq__ W) :=
  (pssd_one (psd_ret (ped_and (ped_isi (T.own.hide hid) (ped_var (i := 1)) (.o T.c_Names) T.n_isinstance) (ped_and (ped_cmp (op_eqA (hu64 hr)) lk_eq (ped_fld T.f_tags (ped_var (i := 0))) (ped_fld T.f_tags (ped_var (i := 1)))) (ped_and (ped_cmp (op_eqA (hu64 hr)) lk_eq (ped_fld T.f_people (ped_var (i := 0))) (ped_fld T.f_people (ped_var (i := 1)))) (ped_and (ped_cmp (op_eqA (hu64 hr)) lk_eq (ped_fld T.f_places (ped_var (i := 0))) (ped_fld T.f_places (ped_var (i := 1)))) (ped_one (ped_cmp (op_eqA (hu64 hr)) lk_eq (ped_fld T.f_viewers (ped_var (i := 0))) (ped_fld T.f_viewers (ped_var (i := 1)))))))))))
theorem b_is_side {P : Program} {w : World} {K : PySem.W.Frag} {mg : Str → Option Value} {base : Heap} {ca : String → Addr} (T : Tx P w K mg base ca) (F_is_number : FD P w K mg base (GG ca) "is_number" 1 ["value", "many"] Φ_is_number)
    {f : Addr} {cdv : Value} {A : Around} {outer : List Env} {s : Shared} {H : Hp} {E : XK} {hid ι0 : List Addr} {H0 : Hp} {W : XD} (hr : Room 1 (A.deeper (envOfC "is_side" (defScope s_is_side) s.heap.objs.size f cdv)))
    (tk : Tk (cxOf (L2N.CX P w) P w K mg base ["value"] "is_side" (defScope s_is_side) f cdv A outer s H E) ((GG ca).hide hid) ι0 H0 W) :
    PSsd (cxOf (L2N.CX P w) P w K mg base ["value"] "is_side" (defScope s_is_side) f cdv A outer s H E) ((GG ca).hide hid) ι0 H0 (defBody s_is_side) (r_is_side W) :=
  (pssd_one (psd_ret (ped_and (ped_call (F_is_number.hide hid) (hr.mono (by omega)) tk (pad_cons (ped_var (i := 0)) (pad_cons (ped_glob (v := .int 10) T.k_SIDES.choose_spec ⟨_, rfl⟩ fun _ _ => .int _) pad_nil))) (ped_one (ped_cmp op_gt lk_gt (ped_var (i := 0)) ped_int)))))
theorem b_is_field {P : Program} {w : World} {K : PySem.W.Frag} {mg : Str → Option Value} {base : Heap} {ca : String → Addr} (T : Tx P w K mg base ca) (F_is_number : FD P w K mg base (GG ca) "is_number" 1 ["value", "many"] Φ_is_number) (F_is_side : FD P w K mg base (GG ca) "is_side" 2 ["value"] Φ_is_side) (F_is_ascending : FD P w K mg base (GG ca) "is_ascending" 2 ["value", "many"] Φ_is_ascending)
    {f : Addr} {cdv : Value} {A : Around} {outer : List Env} {s : Shared} {H : Hp} {E : XK} {hid ι0 : List Addr} {H0 : Hp} {W : XD} (hr : Room 2 (A.deeper (envOfC "is_field" (defScope s_is_field) s.heap.objs.size f cdv)))
    (tk : Tk (cxOf (L2N.CX P w) P w K mg base ["field", "value", "many"] "is_field" (defScope s_is_field) f cdv A outer s H E) ((GG ca).hide hid) ι0 H0 W) :
    PSsd (cxOf (L2N.CX P w) P w K mg base ["field", "value", "many"] "is_field" (defScope s_is_field) f cdv A outer s H E) ((GG ca).hide hid) ι0 H0 (defBody s_is_field) (r_is_field W) :=
  (pssd_cons (psd_if (ptd_cmp (op_eqA (hu64 hr)) lk_eq (ped_var (i := 0)) ped_str)
  (pssd_one (psd_ret (ped_call (F_is_ascending.hide hid) (hr.mono (by omega)) tk (pad_cons (ped_var (i := 1)) (pad_cons (ped_glob (v := .int 5) T.k_TAGS.choose_spec ⟨_, rfl⟩ fun _ _ => .int _) pad_nil)))))
  pssd_nil)
  (pssd_cons (psd_if (ptd_cmp (op_eqA (hu64 hr)) lk_eq (ped_var (i := 0)) ped_str)
  (pssd_one (psd_ret (ped_call (F_is_ascending.hide hid) (hr.mono (by omega)) tk (pad_cons (ped_var (i := 1)) (pad_cons (ped_glob (v := .int 4) T.k_PEOPLE.choose_spec ⟨_, rfl⟩ fun _ _ => .int _) pad_nil)))))
  pssd_nil)
  (pssd_cons (psd_if (ptd_cmp op_inA lk_in (ped_var (i := 0)) (ped_tup (pad_cons ped_str (pad_cons ped_str pad_nil))))
  (pssd_one (psd_ret (ped_call (F_is_side.hide hid) (hr.mono (by omega)) tk (pad_cons (ped_var (i := 1)) pad_nil))))
  pssd_nil)
  (pssd_cons (psd_set sc_is_field.nd (ped_dict (pds_cons (ped_glob (v := .int 10000) T.k_SHOTS.choose_spec ⟨_, rfl⟩ fun _ _ => .int _) (pds_cons (ped_glob (v := .int 6) T.k_STARS.choose_spec ⟨_, rfl⟩ fun _ _ => .int _) (pds_cons (ped_glob (v := .int 8) T.k_PLACES.choose_spec ⟨_, rfl⟩ fun _ _ => .int _) (pds_cons (ped_glob (v := .int 5) T.k_VIEWERS.choose_spec ⟨_, rfl⟩ fun _ _ => .int _) pds_nil))))))
  (pssd_one (psd_ret (ped_call (F_is_number.hide hid) (hr.mono (by omega)) tk (pad_cons (ped_var (i := 1)) (pad_cons (ped_dget (hu1 hr) (ped_var (i := 2)) (ped_var (i := 0))) pad_nil)))))))))
theorem b_Photo__init__ {P : Program} {w : World} {K : PySem.W.Frag} {mg : Str → Option Value} {base : Heap} {ca : String → Addr} (T : Tx P w K mg base ca) (F_is_field : FD P w K mg base (GG ca) "is_field" 3 ["field", "value"] Φ_is_field)
    {f : Addr} {cdv : Value} {A : Around} {outer : List Env} {s : Shared} {H : Hp} {E : XK} {hid ι0 : List Addr} {H0 : Hp} {W : XD} (hr : Room 3 (A.deeper (envOfC "Photo.__init__" (defScope s_Photo__init__) s.heap.objs.size f cdv)))
    (tk : Tk (cxOf (L2N.CX P w) P w K mg base ["self", "shot", "stars", "place", "owner", "tags", "people", "width", "height", "rows", "part", "value"] "Photo.__init__" (defScope s_Photo__init__) f cdv A outer s H E) ((GG ca).hide hid) ι0 H0 W) :
    PSsd (cxOf (L2N.CX P w) P w K mg base ["self", "shot", "stars", "place", "owner", "tags", "people", "width", "height", "rows", "part", "value"] "Photo.__init__" (defScope s_Photo__init__) f cdv A outer s H E) ((GG ca).hide hid) ι0 H0 (defBody s_Photo__init__) (r_Photo__init__ W) :=
  (pssd_cons (psd_set sc_Photo__init__.nd (ped_tup (pad_cons (ped_tup (pad_cons ped_str (pad_cons (ped_var (i := 1)) pad_nil))) (pad_cons (ped_tup (pad_cons ped_str (pad_cons (ped_var (i := 2)) pad_nil))) (pad_cons (ped_tup (pad_cons ped_str (pad_cons (ped_var (i := 3)) pad_nil))) (pad_cons (ped_tup (pad_cons ped_str (pad_cons (ped_var (i := 4)) pad_nil))) (pad_cons (ped_tup (pad_cons ped_str (pad_cons (ped_var (i := 5)) pad_nil))) (pad_cons (ped_tup (pad_cons ped_str (pad_cons (ped_var (i := 6)) pad_nil))) (pad_cons (ped_tup (pad_cons ped_str (pad_cons (ped_var (i := 7)) pad_nil))) (pad_cons (ped_tup (pad_cons ped_str (pad_cons (ped_var (i := 8)) pad_nil))) pad_nil))))))))))
  (pssd_cons (psd_for (passes_of rfl) rfl (pid_any (ped_var (i := 9))) (pgd_tup rfl (pgns_cons sc_Photo__init__.nd (pgns_cons sc_Photo__init__.nd pgns_nil)))
  (pssd_one (psd_if (ptd_not (ptd_val (ped_call (F_is_field.hide hid) (hr.mono (by omega)) tk (pad_cons (ped_var (i := 10)) (pad_cons (ped_var (i := 11)) pad_nil)))))
  (pssd_one (psd_raise (T.x_BadPhoto.hide hid) hr (by omega) rfl tk (pad_cons (ped_var (i := 10)) pad_nil) (by show 1 ≤ 1000; decide)))
  pssd_nil)))
  (pssd_cons (psd_fld T.f1_Photo_shot (ped_var (i := 0)) (ped_var (i := 1)))
  (pssd_cons (psd_fld T.f1_Photo_stars (ped_var (i := 0)) (ped_var (i := 2)))
  (pssd_cons (psd_fld T.f1_Photo_place (ped_var (i := 0)) (ped_var (i := 3)))
  (pssd_cons (psd_fld T.f1_Photo_owner (ped_var (i := 0)) (ped_var (i := 4)))
  (pssd_cons (psd_fld T.f1_Photo_tags (ped_var (i := 0)) (ped_var (i := 5)))
  (pssd_cons (psd_fld T.f1_Photo_people (ped_var (i := 0)) (ped_var (i := 6)))
  (pssd_cons (psd_fld T.f1_Photo_width (ped_var (i := 0)) (ped_var (i := 7)))
  (pssd_one (psd_fld T.f1_Photo_height (ped_var (i := 0)) (ped_var (i := 8)))))))))))))
theorem b_Photo__eq__ {P : Program} {w : World} {K : PySem.W.Frag} {mg : Str → Option Value} {base : Heap} {ca : String → Addr} (T : Tx P w K mg base ca) (F_fields : FD P w K mg base (GG ca) "fields" 1 ["photo"] Φ_fields)
    {f : Addr} {cdv : Value} {A : Around} {outer : List Env} {s : Shared} {H : Hp} {E : XK} {hid ι0 : List Addr} {H0 : Hp} {W : XD} (hr : Room 1 (A.deeper (envOfC "Photo.__eq__" (defScope s_Photo__eq__) s.heap.objs.size f cdv)))
    (tk : Tk (cxOf (L2N.CX P w) P w K mg base ["self", "other"] "Photo.__eq__" (defScope s_Photo__eq__) f cdv A outer s H E) ((GG ca).hide hid) ι0 H0 W) :
    PSsd (cxOf (L2N.CX P w) P w K mg base ["self", "other"] "Photo.__eq__" (defScope s_Photo__eq__) f cdv A outer s H E) ((GG ca).hide hid) ι0 H0 (defBody s_Photo__eq__) (r_Photo__eq__ W) :=
  (pssd_one (psd_ret (ped_and (ped_isi (T.own.hide hid) (ped_var (i := 1)) (.o T.c_Photo) T.n_isinstance) (ped_one (ped_cmp (op_eqA (hu64 hr)) lk_eq (ped_call (F_fields.hide hid) (hr.mono (by omega)) tk (pad_cons (ped_var (i := 0)) pad_nil)) (ped_call (F_fields.hide hid) (hr.mono (by omega)) tk (pad_cons (ped_var (i := 1)) pad_nil)))))))
theorem b_fields {P : Program} {w : World} {K : PySem.W.Frag} {mg : Str → Option Value} {base : Heap} {ca : String → Addr} (T : Tx P w K mg base ca)
    {f : Addr} {cdv : Value} {A : Around} {outer : List Env} {s : Shared} {H : Hp} {E : XK} {hid ι0 : List Addr} {H0 : Hp} {W : XD} (hr : Room 0 (A.deeper (envOfC "fields" (defScope s_fields) s.heap.objs.size f cdv)))
    (tk : Tk (cxOf (L2N.CX P w) P w K mg base ["photo"] "fields" (defScope s_fields) f cdv A outer s H E) ((GG ca).hide hid) ι0 H0 W) :
    PSsd (cxOf (L2N.CX P w) P w K mg base ["photo"] "fields" (defScope s_fields) f cdv A outer s H E) ((GG ca).hide hid) ι0 H0 (defBody s_fields) (r_fields W) :=
  (pssd_one (psd_ret (ped_tup (pad_cons (ped_fld T.f_shot (ped_var (i := 0))) (pad_cons (ped_fld T.f_stars (ped_var (i := 0))) (pad_cons (ped_fld T.f_place (ped_var (i := 0))) (pad_cons (ped_fld T.f_owner (ped_var (i := 0))) (pad_cons (ped_fld T.f_tags (ped_var (i := 0))) (pad_cons (ped_fld T.f_people (ped_var (i := 0))) (pad_cons (ped_fld T.f_width (ped_var (i := 0))) (pad_cons (ped_fld T.f_height (ped_var (i := 0))) pad_nil)))))))))))
theorem b_is_photo_of {P : Program} {w : World} {K : PySem.W.Frag} {mg : Str → Option Value} {base : Heap} {ca : String → Addr} (T : Tx P w K mg base ca) (F_is_ascending : FD P w K mg base (GG ca) "is_ascending" 2 ["value", "many"] Φ_is_ascending)
    {f : Addr} {cdv : Value} {A : Around} {outer : List Env} {s : Shared} {H : Hp} {E : XK} {hid ι0 : List Addr} {H0 : Hp} {W : XD} (hr : Room 2 (A.deeper (envOfC "is_photo_of" (defScope s_is_photo_of) s.heap.objs.size f cdv)))
    (tk : Tk (cxOf (L2N.CX P w) P w K mg base ["names", "value"] "is_photo_of" (defScope s_is_photo_of) f cdv A outer s H E) ((GG ca).hide hid) ι0 H0 W) :
    PSsd (cxOf (L2N.CX P w) P w K mg base ["names", "value"] "is_photo_of" (defScope s_is_photo_of) f cdv A outer s H E) ((GG ca).hide hid) ι0 H0 (defBody s_is_photo_of) (r_is_photo_of W) :=
  (pssd_one (psd_ret (ped_and (ped_isi (T.own.hide hid) (ped_var (i := 1)) (.o T.c_Photo) T.n_isinstance) (ped_and (ped_cmp op_lt lk_lt (ped_fld T.f_place (ped_var (i := 1))) (ped_callB call_len lk_len T.n_len (pad_cons (ped_fld T.f_places (ped_var (i := 0))) pad_nil))) (ped_and (ped_cmp op_lt lk_lt (ped_fld T.f_owner (ped_var (i := 1))) (ped_callB call_len lk_len T.n_len (pad_cons (ped_fld T.f_viewers (ped_var (i := 0))) pad_nil))) (ped_and (ped_call (F_is_ascending.hide hid) (hr.mono (by omega)) tk (pad_cons (ped_fld T.f_tags (ped_var (i := 1))) (pad_cons (ped_callB call_len lk_len T.n_len (pad_cons (ped_fld T.f_tags (ped_var (i := 0))) pad_nil)) pad_nil))) (ped_one (ped_call (F_is_ascending.hide hid) (hr.mono (by omega)) tk (pad_cons (ped_fld T.f_people (ped_var (i := 1))) (pad_cons (ped_callB call_len lk_len T.n_len (pad_cons (ped_fld T.f_people (ped_var (i := 0))) pad_nil)) pad_nil))))))))))
theorem b__law_well {P : Program} {w : World} {K : PySem.W.Frag} {mg : Str → Option Value} {base : Heap} {ca : String → Addr} (T : Tx P w K mg base ca)
    {f : Addr} {cdv : Value} {A : Around} {outer : List Env} {s : Shared} {H : Hp} {E : XK} {hid ι0 : List Addr} {H0 : Hp} {W : XD} (hr : Room 0 (A.deeper (envOfC "_law_well" (defScope s__law_well) s.heap.objs.size f cdv)))
    (tk : Tk (cxOf (L2N.CX P w) P w K mg base ["script", "k", "cell"] "_law_well" (defScope s__law_well) f cdv A outer s H E) ((GG ca).hide hid) ι0 H0 W) :
    PSsd (cxOf (L2N.CX P w) P w K mg base ["script", "k", "cell"] "_law_well" (defScope s__law_well) f cdv A outer s H E) ((GG ca).hide hid) ι0 H0 (defBody s__law_well) (r__law_well W) :=
  (pssd_cons (psd_set sc__law_well.nd ped_int)
  (pssd_cons (psd_if (ptd_cmp op_lt lk_lt (ped_var (i := 1)) (ped_callB call_len lk_len T.n_len (pad_cons (ped_var (i := 0)) pad_nil)))
  (pssd_one (psd_set sc__law_well.nd (ped_callB call_abs lk_abs T.n_abs (pad_cons (ped_callTy call_int1 lk_int1 T.n_int (pad_cons (ped_ix ix_seq lk_ix (ped_var (i := 0)) (ped_var (i := 1))) pad_nil)) pad_nil))))
  pssd_nil)
  (pssd_one (psd_ret (ped_lstS (pad_cons (ped_var (i := 2)) (pad_cons (ped_callTy call_int1 lk_int1 T.n_int (pad_cons (ped_cmp op_ge lk_ge (ped_var (i := 2)) (ped_bin op_pow lk_pow ped_int ped_int)) pad_nil)) (pad_cons (ped_var (i := 1)) (pad_cons (ped_bin op_addA lk_addF (ped_bin op_mod lk_mod (ped_callTy call_int1 lk_int1 T.n_int (pad_cons (ped_var (i := 2)) pad_nil)) ped_int) (ped_bin op_mul lk_mul ped_int (ped_bin op_addA lk_addF (ped_var (i := 1)) ped_int))) pad_nil)))))))))
theorem b__law_take {P : Program} {w : World} {K : PySem.W.Frag} {mg : Str → Option Value} {base : Heap} {ca : String → Addr} (T : Tx P w K mg base ca)
    {f : Addr} {cdv : Value} {A : Around} {outer : List Env} {s : Shared} {H : Hp} {E : XK} {hid ι0 : List Addr} {H0 : Hp} {W : XD} (hr : Room 0 (A.deeper (envOfC "_law_take" (defScope s__law_take) s.heap.objs.size f cdv)))
    (tk : Tk (cxOf (L2N.CX P w) P w K mg base ["well", "many", "got"] "_law_take" (defScope s__law_take) f cdv A outer s H E) ((GG ca).hide hid) ι0 H0 W) :
    PSsd (cxOf (L2N.CX P w) P w K mg base ["well", "many", "got"] "_law_take" (defScope s__law_take) f cdv A outer s H E) ((GG ca).hide hid) ι0 H0 (defBody s__law_take) (r__law_take W) :=
  (pssd_cons (psd_asg (ped_bin op_addA lk_addF (ped_ix ix_seq lk_ix (ped_var (i := 0)) ped_int) ped_int) (pgd_sub (ped_var (i := 0)) ped_int))
  (pssd_cons (psd_if (PWd.pt (pwd_and (ptd_cmp (op_eqA (hu64 hr)) lk_eq (ped_ix ix_seq lk_ix (ped_var (i := 0)) ped_int) ped_int) (pwd_and1 (ptd_cmp op_gt lk_gt (ped_ix ix_seq lk_ix (ped_var (i := 0)) ped_int) ped_int))))
  (pssd_cons (psd_set sc__law_take.nd (ped_bin op_mod lk_mod (ped_callTy call_int1 lk_int1 T.n_int (pad_cons (ped_ix ix_seq lk_ix (ped_var (i := 0)) ped_int) pad_nil)) (ped_var (i := 1))))
  (pssd_cons (psd_asg (ped_bin op_fdiv lk_divv (ped_ix ix_seq lk_ix (ped_var (i := 0)) ped_int) (ped_var (i := 1))) (pgd_sub (ped_var (i := 0)) ped_int))
  (pssd_one (psd_ret (ped_var (i := 2))))))
  pssd_nil)
  (pssd_cons (psd_asg (ped_bin op_mod lk_mod (ped_callTy call_int1 lk_int1 T.n_int (pad_cons (ped_bin op_addA lk_addF (ped_bin op_addA lk_addF (ped_bin op_mul lk_mul (ped_ix ix_seq lk_ix (ped_var (i := 0)) ped_int) ped_int) (ped_bin op_mul lk_mul (ped_ix ix_seq lk_ix (ped_var (i := 0)) ped_int) ped_int)) ped_int) pad_nil)) ped_int) (pgd_sub (ped_var (i := 0)) ped_int))
  (pssd_one (psd_ret (ped_bin op_mod lk_mod (ped_callTy call_int1 lk_int1 T.n_int (pad_cons (ped_bin op_fdiv lk_divv (ped_bin op_mod lk_mod (ped_callTy call_int1 lk_int1 T.n_int (pad_cons (ped_bin op_addA lk_addF (ped_bin op_mul lk_mul (ped_ix ix_seq lk_ix (ped_var (i := 0)) ped_int) ped_int) (ped_ix ix_seq lk_ix (ped_var (i := 0)) ped_int)) pad_nil)) ped_int) ped_int) pad_nil)) (ped_var (i := 1))))))))
theorem b__law_same {P : Program} {w : World} {K : PySem.W.Frag} {mg : Str → Option Value} {base : Heap} {ca : String → Addr} {Φr : DP} {k : Nat} (T : Tx P w K mg base ca) (F__law_same : FD P w K mg base (GG ca) "_law_same" k ["due", "got"] Φr)
    {f : Addr} {cdv : Value} {A : Around} {outer : List Env} {s : Shared} {H : Hp} {E : XK} {hid ι0 : List Addr} {H0 : Hp} {W : XD} (hr : Room k (A.deeper (envOfC "_law_same" (defScope s__law_same) s.heap.objs.size f cdv)))
    (tk : Tk (cxOf (L2N.CX P w) P w K mg base ["due", "got", "k"] "_law_same" (defScope s__law_same) f cdv A outer s H E) ((GG ca).hide hid) ι0 H0 W) :
    PSsd (cxOf (L2N.CX P w) P w K mg base ["due", "got", "k"] "_law_same" (defScope s__law_same) f cdv A outer s H E) ((GG ca).hide hid) ι0 H0 (defBody s__law_same) (r__law_same Φr W) :=
  (pssd_cons (psd_if (ptd_cmp op_isA lk_is (ped_var (i := 0)) ped_non)
  (pssd_one (psd_ret (ped_cmp op_isA lk_is (ped_var (i := 1)) ped_non)))
  pssd_nil)
  (pssd_cons (psd_if (ptd_cmp op_isA lk_is (ped_var (i := 0)) ped_bl)
  (pssd_one (psd_ret (ped_cmp op_isA lk_is (ped_var (i := 1)) ped_bl)))
  pssd_nil)
  (pssd_cons (psd_if (ptd_cmp op_isA lk_is (ped_var (i := 0)) ped_bl)
  (pssd_one (psd_ret (ped_cmp op_isA lk_is (ped_var (i := 1)) ped_bl)))
  pssd_nil)
  (pssd_cons (psd_if (ptd_val (ped_isi (T.own.hide hid) (ped_var (i := 0)) (.b T.n_int (by decide +kernel) (by decide)) T.n_isinstance))
  (pssd_one (psd_ret (ped_and (ped_isi (T.own.hide hid) (ped_var (i := 1)) (.b T.n_int (by decide +kernel) (by decide)) T.n_isinstance) (ped_and (ped_not (ped_isi (T.own.hide hid) (ped_var (i := 1)) (.b T.n_bool (by decide +kernel) (by decide)) T.n_isinstance)) (ped_one (ped_cmp (op_eqA (hu64 hr)) lk_eq (ped_var (i := 0)) (ped_var (i := 1))))))))
  pssd_nil)
  (pssd_cons (psd_if (ptd_val (ped_isi (T.own.hide hid) (ped_var (i := 0)) (.b T.n_str (by decide +kernel) (by decide)) T.n_isinstance))
  (pssd_one (psd_ret (ped_and (ped_isi (T.own.hide hid) (ped_var (i := 1)) (.b T.n_str (by decide +kernel) (by decide)) T.n_isinstance) (ped_one (ped_cmp (op_eqA (hu64 hr)) lk_eq (ped_var (i := 0)) (ped_var (i := 1)))))))
  pssd_nil)
  (pssd_cons (psd_if (PWd.pt (pwd_and (ptd_not (ptd_val (ped_isi (T.own.hide hid) (ped_var (i := 0)) (.b T.n_tuple (by decide +kernel) (by decide)) T.n_isinstance))) (pwd_and1 (ptd_not (ptd_val (ped_isi (T.own.hide hid) (ped_var (i := 0)) (.b T.n_list (by decide +kernel) (by decide)) T.n_isinstance))))))
  (pssd_one (psd_ret (ped_cmp op_isA lk_is (ped_cmp (op_eqA (hu64 hr)) lk_eq (ped_var (i := 0)) (ped_var (i := 1))) ped_bl)))
  pssd_nil)
  (pssd_cons (psd_if (PWd.pt (pwd_or (ptd_cmp (op_neA (hu64 hr)) lk_ne (ped_isi (T.own.hide hid) (ped_var (i := 0)) (.b T.n_tuple (by decide +kernel) (by decide)) T.n_isinstance) (ped_isi (T.own.hide hid) (ped_var (i := 1)) (.b T.n_tuple (by decide +kernel) (by decide)) T.n_isinstance)) (pwd_or1 (ptd_cmp (op_neA (hu64 hr)) lk_ne (ped_isi (T.own.hide hid) (ped_var (i := 0)) (.b T.n_list (by decide +kernel) (by decide)) T.n_isinstance) (ped_isi (T.own.hide hid) (ped_var (i := 1)) (.b T.n_list (by decide +kernel) (by decide)) T.n_isinstance)))))
  (pssd_one (psd_ret ped_bl))
  pssd_nil)
  (pssd_cons (psd_if (ptd_cmp (op_neA (hu64 hr)) lk_ne (ped_callB call_len lk_len T.n_len (pad_cons (ped_var (i := 0)) pad_nil)) (ped_callB call_len lk_len T.n_len (pad_cons (ped_var (i := 1)) pad_nil)))
  (pssd_one (psd_ret ped_bl))
  pssd_nil)
  (pssd_cons (psd_for (passes_of rfl) rfl (pid_rng1 T.n_range (pad_cons (ped_callB call_len lk_len T.n_len (pad_cons (ped_var (i := 0)) pad_nil)) pad_nil)) (pgd_name sc__law_same.nd)
  (pssd_one (psd_if (ptd_not (ptd_val (ped_call (F__law_same.hide hid) hr tk (pad_cons (ped_ix ix_seq lk_ix (ped_var (i := 0)) (ped_var (i := 2))) (pad_cons (ped_ix ix_seq lk_ix (ped_var (i := 1)) (ped_var (i := 2))) pad_nil)))))
  (pssd_one (psd_ret ped_bl))
  pssd_nil)))
  (pssd_one (psd_ret ped_bl)))))))))))
theorem bh__law_same {P : Program} {w : World} {K : PySem.W.Frag} {mg : Str → Option Value} {base : Heap} {ca : String → Addr} {Φr : DP} {k : Nat} (T : Tx P w K mg base ca) (H__law_same : FDH P w K mg base (GG ca) "_law_same" k ["due", "got"] Φr)
    {f : Addr} {cdv : Value} {A : Around} {outer : List Env} {s : Shared} {H : Hp} {E : XK} {p : Addr × Obj} {hid ι0 : List Addr} {H0 : Hp} (hr : RoomH k (A.deeper (envOfC "_law_same" (defScope s__law_same) s.heap.objs.size f cdv)))
    (hot : HotC (cxH (L2N.CX P w) P w K mg base ["due", "got", "k"] "_law_same" (defScope s__law_same) f cdv A outer s H E p)) :
    PSsd (cxH (L2N.CX P w) P w K mg base ["due", "got", "k"] "_law_same" (defScope s__law_same) f cdv A outer s H E p) ((GG ca).hide hid) ι0 H0 (defBody s__law_same) (rh__law_same Φr) :=
  (pssd_cons (psd_if (ptd_cmp op_isA lk_is (ped_var (i := 0)) ped_non)
  (pssd_one (psd_ret (ped_cmp op_isA lk_is (ped_var (i := 1)) ped_non)))
  pssd_nil)
  (pssd_cons (psd_if (ptd_cmp op_isA lk_is (ped_var (i := 0)) ped_bl)
  (pssd_one (psd_ret (ped_cmp op_isA lk_is (ped_var (i := 1)) ped_bl)))
  pssd_nil)
  (pssd_cons (psd_if (ptd_cmp op_isA lk_is (ped_var (i := 0)) ped_bl)
  (pssd_one (psd_ret (ped_cmp op_isA lk_is (ped_var (i := 1)) ped_bl)))
  pssd_nil)
  (pssd_cons (psd_if (ptd_val (ped_isi (T.own.hide hid) (ped_var (i := 0)) (.b T.n_int (by decide +kernel) (by decide)) T.n_isinstance))
  (pssd_one (psd_ret (ped_and (ped_isi (T.own.hide hid) (ped_var (i := 1)) (.b T.n_int (by decide +kernel) (by decide)) T.n_isinstance) (ped_and (ped_not (ped_isi (T.own.hide hid) (ped_var (i := 1)) (.b T.n_bool (by decide +kernel) (by decide)) T.n_isinstance)) (ped_one (ped_cmp (op_eqA (hu64H hr)) lk_eq (ped_var (i := 0)) (ped_var (i := 1))))))))
  pssd_nil)
  (pssd_cons (psd_if (ptd_val (ped_isi (T.own.hide hid) (ped_var (i := 0)) (.b T.n_str (by decide +kernel) (by decide)) T.n_isinstance))
  (pssd_one (psd_ret (ped_and (ped_isi (T.own.hide hid) (ped_var (i := 1)) (.b T.n_str (by decide +kernel) (by decide)) T.n_isinstance) (ped_one (ped_cmp (op_eqA (hu64H hr)) lk_eq (ped_var (i := 0)) (ped_var (i := 1)))))))
  pssd_nil)
  (pssd_cons (psd_if (PWd.pt (pwd_and (ptd_not (ptd_val (ped_isi (T.own.hide hid) (ped_var (i := 0)) (.b T.n_tuple (by decide +kernel) (by decide)) T.n_isinstance))) (pwd_and1 (ptd_not (ptd_val (ped_isi (T.own.hide hid) (ped_var (i := 0)) (.b T.n_list (by decide +kernel) (by decide)) T.n_isinstance))))))
  (pssd_one (psd_ret (ped_cmp op_isA lk_is (ped_cmp (op_eqA (hu64H hr)) lk_eq (ped_var (i := 0)) (ped_var (i := 1))) ped_bl)))
  pssd_nil)
  (pssd_cons (psd_if (PWd.pt (pwd_or (ptd_cmp (op_neA (hu64H hr)) lk_ne (ped_isi (T.own.hide hid) (ped_var (i := 0)) (.b T.n_tuple (by decide +kernel) (by decide)) T.n_isinstance) (ped_isi (T.own.hide hid) (ped_var (i := 1)) (.b T.n_tuple (by decide +kernel) (by decide)) T.n_isinstance)) (pwd_or1 (ptd_cmp (op_neA (hu64H hr)) lk_ne (ped_isi (T.own.hide hid) (ped_var (i := 0)) (.b T.n_list (by decide +kernel) (by decide)) T.n_isinstance) (ped_isi (T.own.hide hid) (ped_var (i := 1)) (.b T.n_list (by decide +kernel) (by decide)) T.n_isinstance)))))
  (pssd_one (psd_ret ped_bl))
  pssd_nil)
  (pssd_cons (psd_if (ptd_cmp (op_neA (hu64H hr)) lk_ne (ped_callB call_len lk_len T.n_len (pad_cons (ped_var (i := 0)) pad_nil)) (ped_callB call_len lk_len T.n_len (pad_cons (ped_var (i := 1)) pad_nil)))
  (pssd_one (psd_ret ped_bl))
  pssd_nil)
  (pssd_cons (psd_forH (passes_of rfl) hot T.n_range (pad_cons (ped_callB call_len lk_len T.n_len (pad_cons (ped_var (i := 0)) pad_nil)) pad_nil) (pgd_name sc__law_same.nd)
  (pssd_one (psd_if (ptd_not (ptd_val (ped_callH (H__law_same.hide hid) hr hot tk0 (pad_cons (ped_ix ix_seq lk_ix (ped_var (i := 0)) (ped_var (i := 2))) (pad_cons (ped_ix ix_seq lk_ix (ped_var (i := 1)) (ped_var (i := 2))) pad_nil)))))
  (pssd_one (psd_ret ped_bl))
  pssd_nil)))
  (pssd_one (psd_ret ped_bl)))))))))))
theorem b__law_word {P : Program} {w : World} {K : PySem.W.Frag} {mg : Str → Option Value} {base : Heap} {ca : String → Addr} (T : Tx P w K mg base ca) (F__law_take : FD P w K mg base (GG ca) "_law_take" 1 ["well", "many"] Φ__law_take)
    {f : Addr} {cdv : Value} {A : Around} {outer : List Env} {s : Shared} {H : Hp} {E : XK} {hid ι0 : List Addr} {H0 : Hp} {W : XD} (hr : Room 1 (A.deeper (envOfC "_law_word" (defScope s__law_word) s.heap.objs.size f cdv)))
    (tk : Tk (cxOf (L2N.CX P w) P w K mg base ["well", "used", "signs", "turn", "out", "spot", "k", "sign"] "_law_word" (defScope s__law_word) f cdv A outer s H E) ((GG ca).hide hid) ι0 H0 W) :
    PSsd (cxOf (L2N.CX P w) P w K mg base ["well", "used", "signs", "turn", "out", "spot", "k", "sign"] "_law_word" (defScope s__law_word) f cdv A outer s H E) ((GG ca).hide hid) ι0 H0 (defBody s__law_word) (r__law_word W) :=
  (pssd_cons (psd_set sc__law_word.nd ped_str)
  (pssd_cons (psd_set sc__law_word.nd (ped_call (F__law_take.hide hid) (hr.mono (by omega)) tk (pad_cons (ped_var (i := 0)) (pad_cons ped_int pad_nil))))
  (pssd_cons (psd_set sc__law_word.nd ped_str)
  (pssd_cons (psd_if (ptd_cmp (op_eqA (hu64 hr)) lk_eq (ped_var (i := 3)) ped_int)
  (pssd_one (psd_set sc__law_word.nd (ped_ix ix_seq lk_ix (ped_lstF (pad_cons ped_str (pad_cons ped_str (pad_cons ped_str (pad_cons ped_str (pad_cons ped_str (pad_cons ped_str (pad_cons ped_str (pad_cons ped_str (pad_cons ped_str (pad_cons ped_str (pad_cons ped_str (pad_cons ped_str (pad_cons ped_str (pad_cons ped_str (pad_cons ped_str (pad_cons ped_str (pad_cons ped_str (pad_cons ped_str pad_nil))))))))))))))))))) (ped_call (F__law_take.hide hid) (hr.mono (by omega)) tk (pad_cons (ped_var (i := 0)) (pad_cons ped_int pad_nil))))))
  (pssd_one (psd_if (PWd.pt (pwd_and (ptd_cmp (op_eqA (hu64 hr)) lk_eq (ped_var (i := 3)) ped_int) (pwd_and1 (ptd_cmp op_gt lk_gt (ped_callB call_len lk_len T.n_len (pad_cons (ped_var (i := 1)) pad_nil)) ped_int))))
  (pssd_cons (psd_set sc__law_word.nd (ped_ix ix_seq lk_ix (ped_var (i := 1)) (ped_call (F__law_take.hide hid) (hr.mono (by omega)) tk (pad_cons (ped_var (i := 0)) (pad_cons (ped_callB call_len lk_len T.n_len (pad_cons (ped_var (i := 1)) pad_nil)) pad_nil)))))
  (pssd_cons (psd_set sc__law_word.nd (ped_call (F__law_take.hide hid) (hr.mono (by omega)) tk (pad_cons (ped_var (i := 0)) (pad_cons (ped_callB call_len lk_len T.n_len (pad_cons (ped_var (i := 4)) pad_nil)) pad_nil))))
  (pssd_cons (psd_set sc__law_word.nd (ped_bin op_addA lk_addF (ped_bin op_addA lk_addF (ped_sliceF (ped_var (i := 4)) pod_none (pod_some (ped_var (i := 5)))) (ped_ix ix_seq lk_ix (ped_var (i := 2)) (ped_call (F__law_take.hide hid) (hr.mono (by omega)) tk (pad_cons (ped_var (i := 0)) (pad_cons ped_int pad_nil))))) (ped_sliceF (ped_var (i := 4)) (pod_some (ped_bin op_addA lk_addF (ped_var (i := 5)) (ped_call (F__law_take.hide hid) (hr.mono (by omega)) tk (pad_cons (ped_var (i := 0)) (pad_cons ped_int pad_nil))))) pod_none)))
  (pssd_one (psd_set sc__law_word.nd (ped_sliceF (ped_var (i := 4)) pod_none (pod_some ped_int)))))))
  (pssd_one (psd_for (passes_of rfl) rfl (pid_rng1 T.n_range (pad_cons (ped_bin op_addA lk_addF ped_int (ped_call (F__law_take.hide hid) (hr.mono (by omega)) tk (pad_cons (ped_var (i := 0)) (pad_cons ped_int pad_nil)))) pad_nil)) (pgd_name sc__law_word.nd)
  (pssd_one (psd_set sc__law_word.nd (ped_bin op_addA lk_addF (ped_var (i := 4)) (ped_ix ix_seq lk_ix (ped_var (i := 2)) (ped_call (F__law_take.hide hid) (hr.mono (by omega)) tk (pad_cons (ped_var (i := 0)) (pad_cons ped_int pad_nil))))))))))))
  (pssd_cons (psd_if (ptd_cmp op_notInA lk_notin (ped_var (i := 4)) (ped_var (i := 1)))
  (pssd_one (psd_ret (ped_var (i := 4))))
  pssd_nil)
  (pssd_cons (psd_for (passes_of rfl) rfl (pid_any (ped_var (i := 2))) (pgd_name sc__law_word.nd)
  (pssd_one (psd_if (ptd_cmp op_notInA lk_notin (ped_bin op_addA lk_addF ped_str (ped_var (i := 7))) (ped_var (i := 1)))
  (pssd_one (psd_ret (ped_bin op_addA lk_addF ped_str (ped_var (i := 7)))))
  pssd_nil)))
  (pssd_one (psd_ret ped_str))))))))
theorem b__law_lists {P : Program} {w : World} {K : PySem.W.Frag} {mg : Str → Option Value} {base : Heap} {ca : String → Addr} (T : Tx P w K mg base ca) (F__law_take : FD P w K mg base (GG ca) "_law_take" 1 ["well", "many"] Φ__law_take) (F__law_word : FD P w K mg base (GG ca) "_law_word" 2 ["well", "used"] Φ__law_word)
    {f : Addr} {cdv : Value} {A : Around} {outer : List Env} {s : Shared} {H : Hp} {E : XK} {hid ι0 : List Addr} {H0 : Hp} {W : XD} (hr : Room 2 (A.deeper (envOfC "_law_lists" (defScope s__law_lists) s.heap.objs.size f cdv)))
    (tk : Tk (cxOf (L2N.CX P w) P w K mg base ["well", "used", "sizes", "whole", "at", "row", "k", "up"] "_law_lists" (defScope s__law_lists) f cdv A outer s H E) ((GG ca).hide hid) ι0 H0 W) :
    PSsd (cxOf (L2N.CX P w) P w K mg base ["well", "used", "sizes", "whole", "at", "row", "k", "up"] "_law_lists" (defScope s__law_lists) f cdv A outer s H E) ((GG ca).hide hid) ι0 H0 (defBody s__law_lists) (r__law_lists W) :=
  (pssd_cons (psd_set sc__law_lists.nd (ped_lstS pad_nil))
  (pssd_cons (psd_set sc__law_lists.nd (ped_lstF (pad_cons (ped_ix ix_seq lk_ix (ped_lstF (pad_cons ped_int (pad_cons ped_int (pad_cons (ped_call (F__law_take.hide hid) (hr.mono (by omega)) tk (pad_cons (ped_var (i := 0)) (pad_cons ped_int pad_nil))) pad_nil)))) (ped_call (F__law_take.hide hid) (hr.mono (by omega)) tk (pad_cons (ped_var (i := 0)) (pad_cons ped_int pad_nil)))) (pad_cons (ped_ix ix_seq lk_ix (ped_lstF (pad_cons ped_int (pad_cons ped_int (pad_cons (ped_call (F__law_take.hide hid) (hr.mono (by omega)) tk (pad_cons (ped_var (i := 0)) (pad_cons ped_int pad_nil))) pad_nil)))) (ped_call (F__law_take.hide hid) (hr.mono (by omega)) tk (pad_cons (ped_var (i := 0)) (pad_cons ped_int pad_nil)))) (pad_cons (ped_ix ix_seq lk_ix (ped_lstF (pad_cons ped_int (pad_cons ped_int (pad_cons (ped_bin op_addA lk_addF ped_int (ped_call (F__law_take.hide hid) (hr.mono (by omega)) tk (pad_cons (ped_var (i := 0)) (pad_cons ped_int pad_nil)))) pad_nil)))) (ped_call (F__law_take.hide hid) (hr.mono (by omega)) tk (pad_cons (ped_var (i := 0)) (pad_cons ped_int pad_nil)))) (pad_cons (ped_ix ix_seq lk_ix (ped_lstF (pad_cons ped_int (pad_cons ped_int (pad_cons (ped_bin op_addA lk_addF ped_int (ped_call (F__law_take.hide hid) (hr.mono (by omega)) tk (pad_cons (ped_var (i := 0)) (pad_cons ped_int pad_nil)))) pad_nil)))) (ped_call (F__law_take.hide hid) (hr.mono (by omega)) tk (pad_cons (ped_var (i := 0)) (pad_cons ped_int pad_nil)))) pad_nil))))))
  (pssd_cons (psd_set sc__law_lists.nd (ped_lstS pad_nil))
  (pssd_cons (psd_for (passes_of rfl) rfl (pid_rng1 T.n_range (pad_cons ped_int pad_nil)) (pgd_name sc__law_lists.nd)
  (pssd_cons (psd_set sc__law_lists.nd (ped_lstS pad_nil))
  (pssd_cons (psd_for (passes_of rfl) rfl (pid_rng1 T.n_range (pad_cons (ped_ix ix_seq lk_ix (ped_var (i := 2)) (ped_var (i := 4))) pad_nil)) (pgd_name sc__law_lists.nd)
  (pssd_cons (psd_expr (ped_append (ped_var (i := 1)) (pad_cons (ped_call (F__law_word.hide hid) (hr.mono (by omega)) tk (pad_cons (ped_var (i := 0)) (pad_cons (ped_var (i := 1)) pad_nil))) pad_nil)))
  (pssd_cons (psd_set sc__law_lists.nd ped_non)
  (pssd_cons (psd_if (PWd.pt (pwd_and (ptd_cmp (op_eqA (hu64 hr)) lk_eq (ped_var (i := 4)) ped_int) (pwd_and (ptd_cmp op_gt lk_gt (ped_var (i := 6)) ped_int) (pwd_and1 (ptd_cmp op_gt lk_gt (ped_call (F__law_take.hide hid) (hr.mono (by omega)) tk (pad_cons (ped_var (i := 0)) (pad_cons ped_int pad_nil))) ped_int)))))
  (pssd_one (psd_set sc__law_lists.nd (ped_ix ix_seq lk_ix (ped_lstF (pad_cons (ped_bin op_sub lk_sub (ped_var (i := 6)) ped_int) (pad_cons (ped_call (F__law_take.hide hid) (hr.mono (by omega)) tk (pad_cons (ped_var (i := 0)) (pad_cons (ped_var (i := 6)) pad_nil))) pad_nil))) (ped_call (F__law_take.hide hid) (hr.mono (by omega)) tk (pad_cons (ped_var (i := 0)) (pad_cons ped_int pad_nil))))))
  pssd_nil)
  (pssd_one (psd_expr (ped_append (ped_var (i := 5)) (pad_cons (ped_ix ix_seq lk_ix (ped_lstF (pad_cons (ped_ix ix_seq lk_ix (ped_var (i := 1)) (ped_un un_neg lk_neg ped_int)) (pad_cons (ped_tup (pad_cons (ped_ix ix_seq lk_ix (ped_var (i := 1)) (ped_un un_neg lk_neg ped_int)) (pad_cons (ped_var (i := 7)) pad_nil))) pad_nil))) (ped_callTy call_int1 lk_int1 T.n_int (pad_cons (ped_cmp (op_eqA (hu64 hr)) lk_eq (ped_var (i := 4)) ped_int) pad_nil))) pad_nil))))))))
  (pssd_one (psd_expr (ped_append (ped_var (i := 3)) (pad_cons (ped_callTy call_tuple_of lk_tuple T.n_tuple (pad_cons (ped_var (i := 5)) pad_nil)) pad_nil)))))))
  (pssd_one (psd_ret (ped_var (i := 3))))))))
theorem b__law_made {P : Program} {w : World} {K : PySem.W.Frag} {mg : Str → Option Value} {base : Heap} {ca : String → Addr} (T : Tx P w K mg base ca) (M_Names__init__ : CD P w K mg base (GG ca) "Names" "Names" 4 ["self", "tags", "people", "places", "viewers"] Φ_Names__init__)
    {f : Addr} {cdv : Value} {A : Around} {outer : List Env} {s : Shared} {H : Hp} {E : XK} {hid ι0 : List Addr} {H0 : Hp} {W : XD} (hr : Room 5 (A.deeper (envOfC "_law_made" (defScope s__law_made) s.heap.objs.size f cdv)))
    (tk : Tk (cxOf (L2N.CX P w) P w K mg base ["lists"] "_law_made" (defScope s__law_made) f cdv A outer s H E) ((GG ca).hide hid) ι0 H0 W) :
    PSsd (cxOf (L2N.CX P w) P w K mg base ["lists"] "_law_made" (defScope s__law_made) f cdv A outer s H E) ((GG ca).hide hid) ι0 H0 (defBody s__law_made) (r__law_made W) :=
  (pssd_one (psd_ret (ped_make (M_Names__init__.hide hid) (hr.mono (by omega)) tk (pad_cons (ped_callTy call_list_of lk_listF T.n_list (pad_cons (ped_ix ix_seq lk_ix (ped_var (i := 0)) ped_int) pad_nil)) (pad_cons (ped_ix ix_seq lk_ix (ped_var (i := 0)) ped_int) (pad_cons (ped_callTy call_list_of lk_listF T.n_list (pad_cons (ped_ix ix_seq lk_ix (ped_var (i := 0)) ped_int) pad_nil)) (pad_cons (ped_ix ix_seq lk_ix (ped_var (i := 0)) ped_int) pad_nil)))))))
theorem b__law_some {P : Program} {w : World} {K : PySem.W.Frag} {mg : Str → Option Value} {base : Heap} {ca : String → Addr} (T : Tx P w K mg base ca) (F__law_take : FD P w K mg base (GG ca) "_law_take" 1 ["well", "many"] Φ__law_take)
    {f : Addr} {cdv : Value} {A : Around} {outer : List Env} {s : Shared} {H : Hp} {E : XK} {hid ι0 : List Addr} {H0 : Hp} {W : XD} (hr : Room 1 (A.deeper (envOfC "_law_some" (defScope s__law_some) s.heap.objs.size f cdv)))
    (tk : Tk (cxOf (L2N.CX P w) P w K mg base ["well", "size", "k"] "_law_some" (defScope s__law_some) f cdv A outer s H E) ((GG ca).hide hid) ι0 H0 W) :
    PSsd (cxOf (L2N.CX P w) P w K mg base ["well", "size", "k"] "_law_some" (defScope s__law_some) f cdv A outer s H E) ((GG ca).hide hid) ι0 H0 (defBody s__law_some) (r__law_some W) :=
  (pssd_one (psd_ret (ped_callTy call_tuple_of lk_tuple T.n_tuple (pad_cons (ped_lcF (l := (.nm 2)) [("k", 2)] rfl sc__law_some.nd (pid_rng1 T.n_range (pad_cons (ped_var (i := 1)) pad_nil)) (blk_ok (N := ["well", "size", "k"]) (sc := defScope s__law_some) (by decide +kernel)) (by decide) (fun _ _ _ _ _ => pg_name sc__law_some.nd (by rfl) (by first | exact .inl rfl | exact .inr rfl) (by first | exact .inl rfl | exact .inr rfl)) (fun _ _ _ _ _ hid1 => (ptsd_one (ptd_cmp (op_eqA (hu64 hr)) lk_eq (ped_call (F__law_take.hide hid1) (hr.mono (by omega)) tk0 (pad_cons (ped_var (i := 0)) (pad_cons ped_int pad_nil))) ped_int))) (fun _ _ _ _ _ hid1 => (ped_var (i := 2)))) pad_nil))))
theorem b__law_pic {P : Program} {w : World} {K : PySem.W.Frag} {mg : Str → Option Value} {base : Heap} {ca : String → Addr} (T : Tx P w K mg base ca) (F__law_some : FD P w K mg base (GG ca) "_law_some" 2 ["well", "size"] Φ__law_some) (F__law_take : FD P w K mg base (GG ca) "_law_take" 1 ["well", "many"] Φ__law_take)
    {f : Addr} {cdv : Value} {A : Around} {outer : List Env} {s : Shared} {H : Hp} {E : XK} {hid ι0 : List Addr} {H0 : Hp} {W : XD} (hr : Room 2 (A.deeper (envOfC "_law_pic" (defScope s__law_pic) s.heap.objs.size f cdv)))
    (tk : Tk (cxOf (L2N.CX P w) P w K mg base ["well", "lists", "shot", "head", "tail"] "_law_pic" (defScope s__law_pic) f cdv A outer s H E) ((GG ca).hide hid) ι0 H0 W) :
    PSsd (cxOf (L2N.CX P w) P w K mg base ["well", "lists", "shot", "head", "tail"] "_law_pic" (defScope s__law_pic) f cdv A outer s H E) ((GG ca).hide hid) ι0 H0 (defBody s__law_pic) (r__law_pic W) :=
  (pssd_cons (psd_set sc__law_pic.nd (ped_ix ix_seq lk_ix (ped_lstF (pad_cons ped_int (pad_cons ped_int (pad_cons (ped_call (F__law_take.hide hid) (hr.mono (by omega)) tk (pad_cons (ped_var (i := 0)) (pad_cons ped_int pad_nil))) (pad_cons (ped_call (F__law_take.hide hid) (hr.mono (by omega)) tk (pad_cons (ped_var (i := 0)) (pad_cons ped_int pad_nil))) pad_nil))))) (ped_call (F__law_take.hide hid) (hr.mono (by omega)) tk (pad_cons (ped_var (i := 0)) (pad_cons ped_int pad_nil)))))
  (pssd_cons (psd_set sc__law_pic.nd (ped_tup (pad_cons (ped_var (i := 2)) (pad_cons (ped_call (F__law_take.hide hid) (hr.mono (by omega)) tk (pad_cons (ped_var (i := 0)) (pad_cons ped_int pad_nil))) (pad_cons (ped_call (F__law_take.hide hid) (hr.mono (by omega)) tk (pad_cons (ped_var (i := 0)) (pad_cons (ped_callB call_len lk_len T.n_len (pad_cons (ped_ix ix_seq lk_ix (ped_var (i := 1)) ped_int) pad_nil)) pad_nil))) (pad_cons (ped_call (F__law_take.hide hid) (hr.mono (by omega)) tk (pad_cons (ped_var (i := 0)) (pad_cons (ped_callB call_len lk_len T.n_len (pad_cons (ped_ix ix_seq lk_ix (ped_var (i := 1)) ped_int) pad_nil)) pad_nil))) pad_nil))))))
  (pssd_cons (psd_set sc__law_pic.nd (ped_tup (pad_cons (ped_bin op_addA lk_addF ped_int (ped_call (F__law_take.hide hid) (hr.mono (by omega)) tk (pad_cons (ped_var (i := 0)) (pad_cons ped_int pad_nil)))) (pad_cons (ped_bin op_addA lk_addF ped_int (ped_call (F__law_take.hide hid) (hr.mono (by omega)) tk (pad_cons (ped_var (i := 0)) (pad_cons ped_int pad_nil)))) pad_nil))))
  (pssd_one (psd_ret (ped_bin op_addA lk_addF (ped_bin op_addA lk_addF (ped_var (i := 3)) (ped_tup (pad_cons (ped_call (F__law_some.hide hid) (hr.mono (by omega)) tk (pad_cons (ped_var (i := 0)) (pad_cons (ped_callB call_len lk_len T.n_len (pad_cons (ped_ix ix_seq lk_ix (ped_var (i := 1)) ped_int) pad_nil)) pad_nil))) (pad_cons (ped_call (F__law_some.hide hid) (hr.mono (by omega)) tk (pad_cons (ped_var (i := 0)) (pad_cons (ped_callB call_len lk_len T.n_len (pad_cons (ped_ix ix_seq lk_ix (ped_var (i := 1)) ped_int) pad_nil)) pad_nil))) pad_nil)))) (ped_var (i := 4))))))))
theorem b__law_photo {P : Program} {w : World} {K : PySem.W.Frag} {mg : Str → Option Value} {base : Heap} {ca : String → Addr} (T : Tx P w K mg base ca) (M_Photo__init__ : CD P w K mg base (GG ca) "Photo" "Photo" 4 ["self", "shot", "stars", "place", "owner", "tags", "people", "width", "height"] Φ_Photo__init__)
    {f : Addr} {cdv : Value} {A : Around} {outer : List Env} {s : Shared} {H : Hp} {E : XK} {hid ι0 : List Addr} {H0 : Hp} {W : XD} (hr : Room 5 (A.deeper (envOfC "_law_photo" (defScope s__law_photo) s.heap.objs.size f cdv)))
    (tk : Tk (cxOf (L2N.CX P w) P w K mg base ["pic"] "_law_photo" (defScope s__law_photo) f cdv A outer s H E) ((GG ca).hide hid) ι0 H0 W) :
    PSsd (cxOf (L2N.CX P w) P w K mg base ["pic"] "_law_photo" (defScope s__law_photo) f cdv A outer s H E) ((GG ca).hide hid) ι0 H0 (defBody s__law_photo) (r__law_photo W) :=
  (pssd_one (psd_ret (ped_make (M_Photo__init__.hide hid) (hr.mono (by omega)) tk (pad_cons (ped_ix ix_seq lk_ix (ped_var (i := 0)) ped_int) (pad_cons (ped_ix ix_seq lk_ix (ped_var (i := 0)) ped_int) (pad_cons (ped_ix ix_seq lk_ix (ped_var (i := 0)) ped_int) (pad_cons (ped_ix ix_seq lk_ix (ped_var (i := 0)) ped_int) (pad_cons (ped_ix ix_seq lk_ix (ped_var (i := 0)) ped_int) (pad_cons (ped_ix ix_seq lk_ix (ped_var (i := 0)) ped_int) (pad_cons (ped_ix ix_seq lk_ix (ped_var (i := 0)) ped_int) (pad_cons (ped_ix ix_seq lk_ix (ped_var (i := 0)) ped_int) pad_nil)))))))))))
theorem b__law_odd {P : Program} {w : World} {K : PySem.W.Frag} {mg : Str → Option Value} {base : Heap} {ca : String → Addr} (T : Tx P w K mg base ca) (F__law_take : FD P w K mg base (GG ca) "_law_take" 1 ["well", "many"] Φ__law_take)
    {f : Addr} {cdv : Value} {A : Around} {outer : List Env} {s : Shared} {H : Hp} {E : XK} {hid ι0 : List Addr} {H0 : Hp} {W : XD} (hr : Room 1 (A.deeper (envOfC "_law_odd" (defScope s__law_odd) s.heap.objs.size f cdv)))
    (tk : Tk (cxOf (L2N.CX P w) P w K mg base ["well", "great"] "_law_odd" (defScope s__law_odd) f cdv A outer s H E) ((GG ca).hide hid) ι0 H0 W) :
    PSsd (cxOf (L2N.CX P w) P w K mg base ["well", "great"] "_law_odd" (defScope s__law_odd) f cdv A outer s H E) ((GG ca).hide hid) ι0 H0 (defBody s__law_odd) (r__law_odd W) :=
  (pssd_cons (psd_set sc__law_odd.nd (ped_bin op_addA lk_addF (ped_bin op_pow lk_pow ped_int ped_int) (ped_call (F__law_take.hide hid) (hr.mono (by omega)) tk (pad_cons (ped_var (i := 0)) (pad_cons (ped_bin op_pow lk_pow ped_int ped_int) pad_nil)))))
  (pssd_one (psd_ret (ped_ix ix_seq lk_ix (ped_lstF (pad_cons ped_non (pad_cons ped_bl (pad_cons ped_bl (pad_cons ped_str (pad_cons ped_str (pad_cons ped_str (pad_cons (ped_un un_neg lk_neg ped_int) (pad_cons ped_int (pad_cons ped_int (pad_cons (ped_var (i := 1)) (pad_cons (ped_un un_neg lk_neg (ped_var (i := 1))) (pad_cons (ped_tup pad_nil) (pad_cons (ped_lstF pad_nil) (pad_cons (ped_tup (pad_cons ped_int pad_nil)) (pad_cons (ped_lstF (pad_cons ped_int pad_nil)) (pad_cons (ped_tup (pad_cons ped_str pad_nil)) (pad_cons (ped_tup (pad_cons ped_str (pad_cons ped_int pad_nil))) (pad_cons (ped_lstF (pad_cons (ped_tup (pad_cons ped_str pad_nil)) pad_nil)) (pad_cons (ped_tup (pad_cons (ped_tup pad_nil) pad_nil)) (pad_cons ped_str (pad_cons (ped_tup (pad_cons ped_non (pad_cons ped_str pad_nil))) pad_nil)))))))))))))))))))))) (ped_call (F__law_take.hide hid) (hr.mono (by omega)) tk (pad_cons (ped_var (i := 0)) (pad_cons ped_int pad_nil)))))))
theorem b__law_beyond {P : Program} {w : World} {K : PySem.W.Frag} {mg : Str → Option Value} {base : Heap} {ca : String → Addr} (T : Tx P w K mg base ca) (F__law_take : FD P w K mg base (GG ca) "_law_take" 1 ["well", "many"] Φ__law_take)
    {f : Addr} {cdv : Value} {A : Around} {outer : List Env} {s : Shared} {H : Hp} {E : XK} {hid ι0 : List Addr} {H0 : Hp} {W : XD} (hr : Room 1 (A.deeper (envOfC "_law_beyond" (defScope s__law_beyond) s.heap.objs.size f cdv)))
    (tk : Tk (cxOf (L2N.CX P w) P w K mg base ["well", "lists", "pic", "out", "sizes", "tops", "k", "far", "other", "part"] "_law_beyond" (defScope s__law_beyond) f cdv A outer s H E) ((GG ca).hide hid) ι0 H0 W) :
    PSsd (cxOf (L2N.CX P w) P w K mg base ["well", "lists", "pic", "out", "sizes", "tops", "k", "far", "other", "part"] "_law_beyond" (defScope s__law_beyond) f cdv A outer s H E) ((GG ca).hide hid) ι0 H0 (defBody s__law_beyond) (r__law_beyond W) :=
  (pssd_cons (psd_set sc__law_beyond.nd (ped_lstS pad_nil))
  (pssd_cons (psd_set sc__law_beyond.nd (ped_lstF (pad_cons (ped_callB call_len lk_len T.n_len (pad_cons (ped_ix ix_seq lk_ix (ped_var (i := 1)) ped_int) pad_nil)) (pad_cons (ped_callB call_len lk_len T.n_len (pad_cons (ped_ix ix_seq lk_ix (ped_var (i := 1)) ped_int) pad_nil)) (pad_cons (ped_callB call_len lk_len T.n_len (pad_cons (ped_ix ix_seq lk_ix (ped_var (i := 1)) ped_int) pad_nil)) (pad_cons (ped_callB call_len lk_len T.n_len (pad_cons (ped_ix ix_seq lk_ix (ped_var (i := 1)) ped_int) pad_nil)) pad_nil))))))
  (pssd_cons (psd_set sc__law_beyond.nd (ped_lstF (pad_cons ped_int (pad_cons ped_int (pad_cons ped_int (pad_cons ped_int pad_nil))))))
  (pssd_cons (psd_for (passes_of rfl) rfl (pid_rng1 T.n_range (pad_cons ped_int pad_nil)) (pgd_name sc__law_beyond.nd)
  (pssd_one (psd_if (ptd_cmp op_lt lk_lt (ped_ix ix_seq lk_ix (ped_var (i := 4)) (ped_var (i := 6))) (ped_ix ix_seq lk_ix (ped_var (i := 5)) (ped_var (i := 6))))
  (pssd_cons (psd_set sc__law_beyond.nd (ped_bin op_addA lk_addF (ped_ix ix_seq lk_ix (ped_var (i := 4)) (ped_var (i := 6))) (ped_call (F__law_take.hide hid) (hr.mono (by omega)) tk (pad_cons (ped_var (i := 0)) (pad_cons (ped_bin op_sub lk_sub (ped_ix ix_seq lk_ix (ped_var (i := 5)) (ped_var (i := 6))) (ped_ix ix_seq lk_ix (ped_var (i := 4)) (ped_var (i := 6)))) pad_nil)))))
  (pssd_cons (psd_setLcS (l := (.nm 9)) [("part", 9)] rfl sc__law_beyond.nd (pid_any (ped_var (i := 2))) (blk_ok (N := ["well", "lists", "pic", "out", "sizes", "tops", "k", "far", "other", "part"]) (sc := defScope s__law_beyond) (by decide +kernel)) (by decide) (fun _ _ _ _ _ => pg_name sc__law_beyond.nd (by rfl) (by first | exact .inl rfl | exact .inr rfl) (by first | exact .inl rfl | exact .inr rfl)) (fun _ _ _ _ _ hid1 => ptsd_nil) (fun _ _ _ _ _ hid1 => (ped_var (i := 9))))
  (pssd_cons (psd_if (ptd_cmp op_lt lk_lt (ped_var (i := 6)) ped_int)
  (pssd_one (psd_asg (ped_var (i := 7)) (pgd_sub (ped_var (i := 8)) (ped_bin op_addA lk_addF ped_int (ped_var (i := 6))))))
  (pssd_one (psd_asg (ped_bin op_addA lk_addF (ped_ix ix_seq lk_ix (ped_var (i := 2)) (ped_bin op_addA lk_addF ped_int (ped_var (i := 6)))) (ped_tup (pad_cons (ped_var (i := 7)) pad_nil))) (pgd_sub (ped_var (i := 8)) (ped_bin op_addA lk_addF ped_int (ped_var (i := 6)))))))
  (pssd_cons (psd_expr (ped_append (ped_var (i := 3)) (pad_cons (ped_callTy call_tuple_of lk_tuple T.n_tuple (pad_cons (ped_var (i := 8)) pad_nil)) pad_nil)))
  (pssd_one (psd_if (ptd_cmp op_gt lk_gt (ped_var (i := 6)) ped_int)
  (pssd_cons (psd_asg (ped_tup (pad_cons (ped_var (i := 7)) pad_nil)) (pgd_sub (ped_var (i := 8)) (ped_bin op_addA lk_addF ped_int (ped_var (i := 6)))))
  (pssd_one (psd_expr (ped_append (ped_var (i := 3)) (pad_cons (ped_callTy call_tuple_of lk_tuple T.n_tuple (pad_cons (ped_var (i := 8)) pad_nil)) pad_nil)))))
  pssd_nil))))))
  pssd_nil)))
  (pssd_one (psd_ret (ped_var (i := 3))))))))
theorem b__law_fits {P : Program} {w : World} {K : PySem.W.Frag} {mg : Str → Option Value} {base : Heap} {ca : String → Addr} (T : Tx P w K mg base ca)
    {f : Addr} {cdv : Value} {A : Around} {outer : List Env} {s : Shared} {H : Hp} {E : XK} {hid ι0 : List Addr} {H0 : Hp} {W : XD} (hr : Room 0 (A.deeper (envOfC "_law_fits" (defScope s__law_fits) s.heap.objs.size f cdv)))
    (tk : Tk (cxOf (L2N.CX P w) P w K mg base ["lists", "pic", "tag", "one"] "_law_fits" (defScope s__law_fits) f cdv A outer s H E) ((GG ca).hide hid) ι0 H0 W) :
    PSsd (cxOf (L2N.CX P w) P w K mg base ["lists", "pic", "tag", "one"] "_law_fits" (defScope s__law_fits) f cdv A outer s H E) ((GG ca).hide hid) ι0 H0 (defBody s__law_fits) (r__law_fits W) :=
  (pssd_cons (psd_for (passes_of rfl) rfl (pid_any (ped_ix ix_seq lk_ix (ped_var (i := 1)) ped_int)) (pgd_name sc__law_fits.nd)
  (pssd_one (psd_if (ptd_cmp op_ge lk_ge (ped_var (i := 2)) (ped_callB call_len lk_len T.n_len (pad_cons (ped_ix ix_seq lk_ix (ped_var (i := 0)) ped_int) pad_nil)))
  (pssd_one (psd_ret ped_bl))
  pssd_nil)))
  (pssd_cons (psd_for (passes_of rfl) rfl (pid_any (ped_ix ix_seq lk_ix (ped_var (i := 1)) ped_int)) (pgd_name sc__law_fits.nd)
  (pssd_one (psd_if (ptd_cmp op_ge lk_ge (ped_var (i := 3)) (ped_callB call_len lk_len T.n_len (pad_cons (ped_ix ix_seq lk_ix (ped_var (i := 0)) ped_int) pad_nil)))
  (pssd_one (psd_ret ped_bl))
  pssd_nil)))
  (pssd_one (psd_ret (ped_and (ped_cmp op_lt lk_lt (ped_ix ix_seq lk_ix (ped_var (i := 1)) ped_int) (ped_callB call_len lk_len T.n_len (pad_cons (ped_ix ix_seq lk_ix (ped_var (i := 0)) ped_int) pad_nil))) (ped_one (ped_cmp op_lt lk_lt (ped_ix ix_seq lk_ix (ped_var (i := 1)) ped_int) (ped_callB call_len lk_len T.n_len (pad_cons (ped_ix ix_seq lk_ix (ped_var (i := 0)) ped_int) pad_nil)))))))))
theorem b__law_body {P : Program} {w : World} {K : PySem.W.Frag} {mg : Str → Option Value} {base : Heap} {ca : String → Addr} (T : Tx P w K mg base ca) (F__law_same : FD P w K mg base (GG ca) "_law_same" 7 ["due", "got"] (Φ__law_same 6)) (F_fields : FD P w K mg base (GG ca) "fields" 1 ["photo"] Φ_fields) (F_is_photo_of : FD P w K mg base (GG ca) "is_photo_of" 3 ["names", "value"] Φ_is_photo_of) (F__law_take : FD P w K mg base (GG ca) "_law_take" 1 ["well", "many"] Φ__law_take) (F__law_odd : FD P w K mg base (GG ca) "_law_odd" 2 ["well"] Φ__law_odd) (FK_is_photo_of : FDK P w K mg base (GG ca) "is_photo_of" 3 ["names", "value"] ["names", "value"] [0, 1] Φ_is_photo_of) (F__law_fits : FD P w K mg base (GG ca) "_law_fits" 1 ["lists", "pic"] Φ__law_fits) (F__law_photo : FD P w K mg base (GG ca) "_law_photo" 6 ["pic"] Φ__law_photo) (F__law_beyond : FD P w K mg base (GG ca) "_law_beyond" 2 ["well", "lists", "pic"] Φ__law_beyond) (F__law_pic : FD P w K mg base (GG ca) "_law_pic" 3 ["well", "lists"] Φ__law_pic) (F__law_well : FD P w K mg base (GG ca) "_law_well" 1 ["script", "k"] Φ__law_well) (F__law_made : FD P w K mg base (GG ca) "_law_made" 6 ["lists"] Φ__law_made) (F__law_lists : FD P w K mg base (GG ca) "_law_lists" 3 ["well"] Φ__law_lists)
    {f : Addr} {cdv : Value} {A : Around} {outer : List Env} {s : Shared} {H : Hp} {E : XK} {hid ι0 : List Addr} {H0 : Hp} {W : XD} (hr : Room 7 (A.deeper (envOfC "_law_body" (defScope s__law_body) s.heap.objs.size f cdv)))
    (tk : Tk (cxOf (L2N.CX P w) P w K mg base ["script", "well", "lists", "others", "nam", "two", "pic", "photo", "far", "edge", "whole", "due", "value"] "_law_body" (defScope s__law_body) f cdv A outer s H E) ((GG ca).hide hid) ι0 H0 W) :
    PSsd (cxOf (L2N.CX P w) P w K mg base ["script", "well", "lists", "others", "nam", "two", "pic", "photo", "far", "edge", "whole", "due", "value"] "_law_body" (defScope s__law_body) f cdv A outer s H E) ((GG ca).hide hid) ι0 H0 (defBody s__law_body) (r__law_body W) :=
  (pssd_cons (psd_set sc__law_body.nd (ped_call (F__law_well.hide hid) (hr.mono (by omega)) tk (pad_cons (ped_var (i := 0)) (pad_cons ped_int pad_nil))))
  (pssd_cons (psd_set sc__law_body.nd (ped_call (F__law_lists.hide hid) (hr.mono (by omega)) tk (pad_cons (ped_call (F__law_well.hide hid) (hr.mono (by omega)) tk (pad_cons (ped_var (i := 0)) (pad_cons ped_int pad_nil))) pad_nil)))
  (pssd_cons (psd_set sc__law_body.nd (ped_call (F__law_lists.hide hid) (hr.mono (by omega)) tk (pad_cons (ped_call (F__law_well.hide hid) (hr.mono (by omega)) tk (pad_cons (ped_var (i := 0)) (pad_cons ped_int pad_nil))) pad_nil)))
  (pssd_cons (psd_set sc__law_body.nd (ped_call (F__law_made.hide hid) (hr.mono (by omega)) tk (pad_cons (ped_var (i := 2)) pad_nil)))
  (pssd_cons (psd_set sc__law_body.nd (ped_call (F__law_made.hide hid) (hr.mono (by omega)) tk (pad_cons (ped_var (i := 3)) pad_nil)))
  (pssd_cons (psd_set sc__law_body.nd (ped_call (F__law_pic.hide hid) (hr.mono (by omega)) tk (pad_cons (ped_call (F__law_well.hide hid) (hr.mono (by omega)) tk (pad_cons (ped_var (i := 0)) (pad_cons ped_int pad_nil))) (pad_cons (ped_var (i := 2)) pad_nil))))
  (pssd_cons (psd_set sc__law_body.nd (ped_call (F__law_photo.hide hid) (hr.mono (by omega)) tk (pad_cons (ped_var (i := 6)) pad_nil)))
  (pssd_cons (psd_if (PWd.pt (pwd_or (ptd_cmp op_isnotA lk_is (ped_call (F_is_photo_of.hide hid) (hr.mono (by omega)) tk (pad_cons (ped_var (i := 4)) (pad_cons (ped_var (i := 7)) pad_nil))) ped_bl) (pwd_or1 (ptd_not (ptd_val (ped_call (F__law_same.hide hid) (hr.mono (by omega)) tk (pad_cons (ped_call (F__law_fits.hide hid) (hr.mono (by omega)) tk (pad_cons (ped_var (i := 3)) (pad_cons (ped_var (i := 6)) pad_nil))) (pad_cons (ped_call (F_is_photo_of.hide hid) (hr.mono (by omega)) tk (pad_cons (ped_var (i := 5)) (pad_cons (ped_var (i := 7)) pad_nil))) pad_nil))))))))
  (pssd_one (psd_ret ped_bl))
  pssd_nil)
  (pssd_cons (psd_for (passes_of rfl) rfl (pid_any (ped_call (F__law_beyond.hide hid) (hr.mono (by omega)) tk (pad_cons (ped_var (i := 1)) (pad_cons (ped_var (i := 2)) (pad_cons (ped_var (i := 6)) pad_nil))))) (pgd_name sc__law_body.nd)
  (pssd_cons (psd_if (ptd_cmp op_isnotA lk_is (ped_call (F_is_photo_of.hide hid) (hr.mono (by omega)) tk (pad_cons (ped_var (i := 4)) (pad_cons (ped_call (F__law_photo.hide hid) (hr.mono (by omega)) tk (pad_cons (ped_var (i := 8)) pad_nil)) pad_nil))) ped_bl)
  (pssd_one (psd_ret ped_bl))
  pssd_nil)
  (pssd_one (psd_if (ptd_not (ptd_val (ped_call (F__law_same.hide hid) (hr.mono (by omega)) tk (pad_cons (ped_call (F__law_fits.hide hid) (hr.mono (by omega)) tk (pad_cons (ped_var (i := 3)) (pad_cons (ped_var (i := 8)) pad_nil))) (pad_cons (ped_call (F_is_photo_of.hide hid) (hr.mono (by omega)) tk (pad_cons (ped_var (i := 5)) (pad_cons (ped_call (F__law_photo.hide hid) (hr.mono (by omega)) tk (pad_cons (ped_var (i := 8)) pad_nil)) pad_nil))) pad_nil)))))
  (pssd_one (psd_ret ped_bl))
  pssd_nil))))
  (pssd_cons (psd_set sc__law_body.nd (ped_tup (pad_cons ped_int (pad_cons ped_int (pad_cons (ped_bin op_sub lk_sub (ped_callB call_len lk_len T.n_len (pad_cons (ped_ix ix_seq lk_ix (ped_var (i := 2)) ped_int) pad_nil)) ped_int) (pad_cons (ped_bin op_sub lk_sub (ped_callB call_len lk_len T.n_len (pad_cons (ped_ix ix_seq lk_ix (ped_var (i := 2)) ped_int) pad_nil)) ped_int) (pad_cons (ped_tupRg T.n_tuple T.n_range (ped_callB call_len lk_len T.n_len (pad_cons (ped_ix ix_seq lk_ix (ped_var (i := 2)) ped_int) pad_nil))) (pad_cons (ped_tupRg T.n_tuple T.n_range (ped_callB call_len lk_len T.n_len (pad_cons (ped_ix ix_seq lk_ix (ped_var (i := 2)) ped_int) pad_nil))) pad_nil))))))))
  (pssd_cons (psd_set sc__law_body.nd (ped_call (F__law_photo.hide hid) (hr.mono (by omega)) tk (pad_cons (ped_bin op_addA lk_addF (ped_var (i := 9)) (ped_tup (pad_cons ped_int (pad_cons ped_int pad_nil)))) pad_nil)))
  (pssd_cons (psd_set sc__law_body.nd (ped_call (F__law_fits.hide hid) (hr.mono (by omega)) tk (pad_cons (ped_var (i := 3)) (pad_cons (ped_var (i := 9)) pad_nil))))
  (pssd_cons (psd_if (PWd.pt (pwd_or (ptd_cmp op_isnotA lk_is (ped_callKw (FK_is_photo_of.hide hid) (hr.mono (by omega)) tk (pkd_cons (ped_var (i := 4)) (pkd_cons (ped_var (i := 10)) pkd_nil))) ped_bl) (pwd_or1 (ptd_not (ptd_val (ped_call (F__law_same.hide hid) (hr.mono (by omega)) tk (pad_cons (ped_var (i := 11)) (pad_cons (ped_call (F_is_photo_of.hide hid) (hr.mono (by omega)) tk (pad_cons (ped_var (i := 5)) (pad_cons (ped_var (i := 10)) pad_nil))) pad_nil))))))))
  (pssd_one (psd_ret ped_bl))
  pssd_nil)
  (pssd_cons (psd_set sc__law_body.nd (ped_ix ix_seq lk_ix (ped_lstF (pad_cons ped_non (pad_cons (ped_var (i := 6)) (pad_cons (ped_callTy call_list_of lk_listF T.n_list (pad_cons (ped_var (i := 6)) pad_nil)) (pad_cons (ped_ix ix_seq lk_ix (ped_var (i := 6)) ped_int) (pad_cons ped_str (pad_cons (ped_var (i := 4)) (pad_cons (ped_call (F__law_odd.hide hid) (hr.mono (by omega)) tk (pad_cons (ped_var (i := 1)) pad_nil)) (pad_cons (ped_tup (pad_cons (ped_var (i := 7)) pad_nil)) (pad_cons (ped_lstF (pad_cons (ped_var (i := 7)) pad_nil)) (pad_cons ped_bl pad_nil))))))))))) (ped_call (F__law_take.hide hid) (hr.mono (by omega)) tk (pad_cons (ped_var (i := 1)) (pad_cons ped_int pad_nil)))))
  (pssd_cons (psd_if (ptd_cmp op_isnotA lk_is (ped_call (F_is_photo_of.hide hid) (hr.mono (by omega)) tk (pad_cons (ped_var (i := 4)) (pad_cons (ped_var (i := 12)) pad_nil))) ped_bl)
  (pssd_one (psd_ret ped_bl))
  pssd_nil)
  (pssd_one (psd_ret (ped_and (ped_cmp op_isA lk_is (ped_call (F_is_photo_of.hide hid) (hr.mono (by omega)) tk (pad_cons (ped_var (i := 4)) (pad_cons (ped_var (i := 7)) pad_nil))) ped_bl) (ped_one (ped_call (F__law_same.hide hid) (hr.mono (by omega)) tk (pad_cons (ped_var (i := 6)) (pad_cons (ped_call (F_fields.hide hid) (hr.mono (by omega)) tk (pad_cons (ped_var (i := 7)) pad_nil)) pad_nil))))))))))))))))))))))
theorem b_law {P : Program} {w : World} {K : PySem.W.Frag} {mg : Str → Option Value} {base : Heap} {ca : String → Addr} (T : Tx P w K mg base ca) (F__law_body : FD P w K mg base (GG ca) "_law_body" 8 ["script"] Φ__law_body)
    {f : Addr} {cdv : Value} {A : Around} {outer : List Env} {s : Shared} {H : Hp} {E : XK} {hid ι0 : List Addr} {H0 : Hp} {W : XD} (hr : Room 8 (A.deeper (envOfC "law" (defScope s_law) s.heap.objs.size f cdv)))
    (tk : Tk (cxOf (L2N.CX P w) P w K mg base ["script"] "law" (defScope s_law) f cdv A outer s H E) ((GG ca).hide hid) ι0 H0 W) :
    PSsd (cxOf (L2N.CX P w) P w K mg base ["script"] "law" (defScope s_law) f cdv A outer s H E) ((GG ca).hide hid) ι0 H0 (defBody s_law) (r_law W) :=
  (pssd_one (psd_try_thru (fb := fun W => (dRet (dCall Φ__law_body W (dCons (dVar 0) dNil)))) fun W tk => (pssd_one (psd_ret (ped_call (F__law_body.hide hid) (hr.mono (by omega)) tk (pad_cons (ped_var (i := 0)) pad_nil))))))

end DL.K04
set_option maxHeartbeats 4000000
/-! K04: the head (printed by asm.py). -/
namespace DL.K04
open PySem PySem.Spec L2 L2H DL
def fnl0 : List FnF := [⟨("is_number", none), "is_number", "is_number", s_is_number⟩,
  ⟨("is_sequence", none), "is_sequence", "is_sequence", s_is_sequence⟩,
  ⟨("is_ascending", none), "is_ascending", "is_ascending", s_is_ascending⟩,
  ⟨("is_word", none), "is_word", "is_word", s_is_word⟩,
  ⟨("word_of", none), "word_of", "word_of", s_word_of⟩,
  ⟨("wrong_place", none), "wrong_place", "wrong_place", s_wrong_place⟩,
  ⟨("Names", some "__init__"), "__init__", "Names.__init__", s_Names__init__⟩,
  ⟨("Names", some "__eq__"), "__eq__", "Names.__eq__", s_Names__eq__⟩,
  ⟨("is_side", none), "is_side", "is_side", s_is_side⟩,
  ⟨("is_field", none), "is_field", "is_field", s_is_field⟩,
  ⟨("Photo", some "__init__"), "__init__", "Photo.__init__", s_Photo__init__⟩,
  ⟨("Photo", some "__eq__"), "__eq__", "Photo.__eq__", s_Photo__eq__⟩,
  ⟨("fields", none), "fields", "fields", s_fields⟩,
  ⟨("is_photo_of", none), "is_photo_of", "is_photo_of", s_is_photo_of⟩,
  ⟨("_law_well", none), "_law_well", "_law_well", s__law_well⟩,
  ⟨("_law_take", none), "_law_take", "_law_take", s__law_take⟩,
  ⟨("_law_same", none), "_law_same", "_law_same", s__law_same⟩,
  ⟨("_law_word", none), "_law_word", "_law_word", s__law_word⟩,
  ⟨("_law_lists", none), "_law_lists", "_law_lists", s__law_lists⟩,
  ⟨("_law_made", none), "_law_made", "_law_made", s__law_made⟩,
  ⟨("_law_some", none), "_law_some", "_law_some", s__law_some⟩,
  ⟨("_law_pic", none), "_law_pic", "_law_pic", s__law_pic⟩,
  ⟨("_law_photo", none), "_law_photo", "_law_photo", s__law_photo⟩,
  ⟨("_law_odd", none), "_law_odd", "_law_odd", s__law_odd⟩,
  ⟨("_law_beyond", none), "_law_beyond", "_law_beyond", s__law_beyond⟩,
  ⟨("_law_fits", none), "_law_fits", "_law_fits", s__law_fits⟩,
  ⟨("_law_body", none), "_law_body", "_law_body", s__law_body⟩,
  ⟨("law", none), "law", "law", s_law⟩,
  ⟨("BadNames", some "__init__"), "__init__", "BadNames.__init__", inClass (top 2) 0⟩,
  ⟨("BadPhoto", some "__init__"), "__init__", "BadPhoto.__init__", inClass (top 3) 0⟩]
abbrev fnl : List FnF := fnl0
def fal0 : List FB := [fFree "isinstance",
  fFree "bool",
  fFree "int",
  fFree "list",
  fFree "tuple",
  fFree "zip",
  fFree "all",
  fStr "LETTERS" "abcdefghijklmnopqrstuvwxyz",
  fFree "len",
  fInt "LONGEST" 8,
  fFree "str",
  fTab "LEAST" [("tags", (.int 0)), ("people", (.int 0)), ("places", (.int 1)), ("viewers", (.int 1))],
  fGlo "LEAST",
  fFree "enumerate",
  fTab "MOST" [("tags", (.int 5)), ("people", (.int 4)), ("places", (.int 8)), ("viewers", (.int 5))],
  fGlo "MOST",
  fCls "Names",
  fNone "Names" "viewers",
  fNone "Names" "places",
  fNone "Names" "people",
  fNone "Names" "tags",
  fXC "BadNames" ["part", "place"],
  fGlo "BadNames",
  fCls "Photo",
  fNone "Photo" "people",
  fNone "Photo" "tags",
  fGlo "Names",
  fInt "SIDES" 10,
  fInt "VIEWERS" 5,
  fInt "PLACES" 8,
  fInt "STARS" 6,
  fInt "SHOTS" 10000,
  fInt "PEOPLE" 4,
  fInt "TAGS" 5,
  fNone "Photo" "height"]
def fal1 : List FB := [fNone "Photo" "width",
  fNone "Photo" "owner",
  fNone "Photo" "place",
  fNone "Photo" "stars",
  fNone "Photo" "shot",
  fXC "BadPhoto" ["part"],
  fGlo "BadPhoto",
  fGlo "Photo",
  fFree "abs",
  fFree "range",
  fOwn OWNL,
  fGlo "is_number",
  fGlo "is_sequence",
  fGlo "is_ascending",
  fGlo "is_word",
  fGlo "word_of",
  fGlo "wrong_place",
  fMk "Names",
  fEq "Names",
  fGlo "is_side",
  fGlo "is_field",
  fMk "Photo",
  fGlo "fields",
  fEq "Photo",
  fGlo "is_photo_of",
  fGlo "_law_well",
  fGlo "_law_take",
  fGlo "_law_same",
  fGlo "_law_word",
  fGlo "_law_lists",
  fGlo "_law_made",
  fGlo "_law_some",
  fGlo "_law_pic",
  fGlo "_law_photo",
  fGlo "_law_odd"]
def fal2 : List FB := [fGlo "_law_beyond",
  fGlo "_law_fits",
  fGlo "_law_body",
  fGlo "law"]
abbrev fal : List FB := fal0 ++ fal1 ++ fal2
def tsl0 : List He.Tab := [(fun K => caK K "LEAST", ["tags", "people", "places", "viewers"]),
  (fun K => caK K "MOST", ["tags", "people", "places", "viewers"])]
abbrev tsl : List He.Tab := tsl0
def loose0 : List Str := [("__name__" : Str), ("LightError" : Str), ("BadNames" : Str), ("BadPhoto" : Str), ("LETTERS" : Str), ("LONGEST" : Str), ("LEAST" : Str), ("MOST" : Str), ("is_number" : Str), ("is_sequence" : Str), ("is_ascending" : Str), ("is_word" : Str), ("word_of" : Str), ("wrong_place" : Str), ("Names" : Str), ("SHOTS" : Str), ("STARS" : Str), ("PLACES" : Str), ("VIEWERS" : Str), ("TAGS" : Str)]
def loose1 : List Str := [("PEOPLE" : Str), ("SIDES" : Str), ("is_side" : Str), ("is_field" : Str), ("Photo" : Str), ("fields" : Str), ("is_photo_of" : Str), ("_law_well" : Str), ("_law_take" : Str), ("_law_same" : Str), ("_law_word" : Str), ("_law_lists" : Str), ("_law_made" : Str), ("_law_some" : Str), ("_law_pic" : Str), ("_law_photo" : Str), ("_law_odd" : Str), ("_law_beyond" : Str), ("_law_fits" : Str), ("_law_body" : Str)]
abbrev looseL : List Str := loose0 ++ loose1
abbrev RR : PySem.W.OpenRow := PySem.W.OpenLaw.row PySem.Challenge.rw_keptlight_k04_photos_of_some_names
abbrev hk : PySem.W.Hook := hookF 6 fal fnl tsl
def ob (s : PySem.W.SharedT) : AlF := obsFG 6 fal fnl tsl (HandSHeadRun.getT s)
theorem ob_eq (s : PySem.W.SharedT) : ob s = hk.obs s.abs := obsFG_eq (HandSHeadRun.getT_eq s)
theorem run0 (w : World) : HandSHeadRun.RunEq RR (PySem.W.view RR.prog [43]) hk ob 6000 looseL (w.withFollow "special-get-raises" false) := by
  intro os
  kernel_rfl
theorem run1 (w : World) : HandSHeadRun.RunEq RR (PySem.W.view RR.prog [43]) hk ob 6000 looseL (w.withFollow "special-get-raises" true) := by
  intro os
  kernel_rfl
theorem run (w : World) : HandSHeadRun.RunEq RR (PySem.W.view RR.prog [43]) hk ob 6000 looseL w := PySem.W.byRow2 "special-get-raises" run0 run1 w
end DL.K04
set_option maxHeartbeats 1000000
/-! K04: words, numbers, names: the readings keep the promises. -/
namespace DL.K04
open PySem PySem.Spec L2 DL
variable {W : XD} {ds : List D} {S : Sto} {Q : DK} {E : String → List D → Sto → Prop}
theorem tgIn_ref {cs : List String} {n : Nat} {t : Tg} (h : tgIn cs S (.ref n) = some t) : t = .b "list" ∨ t = .b "dict" ∨ ∃ c, t = .o c := by
  have h1 := (tgIn_of h).1
  unfold tgD at h1
  simp only at h1
  split at h1
  all_goals first | cases h1 | skip
  · exact .inl rfl
  · exact .inl rfl
  · exact .inr (.inr ⟨_, rfl⟩)
  · exact .inr (.inl rfl)
theorem tgIn_insE {cs : List String} {c : String} {vs : List D} {t : Tg} (h : tgIn cs S (.ins c vs) = some t) : t = .o c := by
  have h1 := (tgIn_of h).1
  cases h1; rfl
theorem sem_is_number (h : Φ_is_number ds S Q E) : r_is_number W (endsOf fo S Q) (startD 2 ds) S := by
  unfold Φ_is_number at h
  split at h <;> try exact h.elim
  rename_i v m
  obtain ⟨⟨t, ht⟩, q⟩ := h
  have htL : tgIn OWNL S v = some t := ht
  cases v with
  | int i =>
    simp [r_is_number, startD, endsOf]
    by_cases hi : i < 0
    · exact .inl ⟨hi, ret_same (by simpa [isNum, Int.not_le.mpr hi] using q)⟩
    · exact .inr ⟨Int.not_lt.mp hi, ret_same (by simpa [isNum, Int.not_lt.mp hi] using q)⟩
  | ref n =>
    simp [r_is_number, startD, endsOf, htL]
    rcases tgIn_ref ht with rfl | rfl | ⟨c, rfl⟩ <;> simp <;> exact ret_same q
  | ins c vs =>
    simp [r_is_number, startD, endsOf, htL]
    rw [tgIn_insE ht]; simp; exact ret_same q
  | adr a => simp [tgIn, tgD] at ht
  | ty a => simp [tgIn, tgD] at ht
  | dic a b =>
    have : t = .b "dict" := by have h1 := (tgIn_of ht).1; cases h1; rfl
    subst this
    simp [r_is_number, startD, endsOf, htL]; exact ret_same q
  | scr a =>
    have : t = .b "list" := by have h1 := (tgIn_of ht).1; cases h1; rfl
    subst this
    simp [r_is_number, startD, endsOf, htL]; exact ret_same q
  | non => simp [r_is_number, startD, endsOf]; exact ret_same q
  | bl b => simp [r_is_number, startD, endsOf]; exact ret_same q
  | str b => simp [r_is_number, startD, endsOf]; exact ret_same q
  | tup b => simp [r_is_number, startD, endsOf]; exact ret_same q
  | lst b => simp [r_is_number, startD, endsOf]; exact ret_same q
theorem tgIn_some {cs : List String} {k : Nat} {d : D} (h : pl k d = true) : ∃ t, tgIn cs S d = some t := by
  rw [tgIn_pl h]
  rcases pl_casesN h with rfl | ⟨b, rfl⟩ | ⟨i, rfl⟩ | ⟨s, rfl, _⟩ | ⟨j, ys, rfl, _⟩ | ⟨j, ys, rfl, _⟩ <;> exact ⟨_, rfl⟩
theorem sem_is_sequence (h : Φ_is_sequence ds S Q E) : r_is_sequence W (endsOf fo S Q) (startD 1 ds) S := by
  unfold Φ_is_sequence at h
  split at h <;> try exact h.elim
  rename_i v
  obtain ⟨t, ht, q⟩ := h
  have htL : tgIn OWNL S v = some t := ht
  simp [r_is_sequence, startD, endsOf, htL]
  exact ret_same q
/-! ### words -/
theorem let_codes : ∀ c : Nat, (decide (c ∈ lettersS.cps.toList)) = letB c := by
  intro c
  rw [show lettersS.cps.toList = [97, 98, 99, 100, 101, 102, 103, 104, 105, 106, 107, 108, 109, 110, 111, 112, 113, 114, 115, 116, 117, 118, 119, 120, 121, 122] from by decide +kernel]
  unfold letB
  rw [Bool.eq_iff_iff]
  simp only [decide_eq_true_eq, List.mem_cons, List.not_mem_nil, or_false]
  omega
theorem occ_let (c : Nat) : (!(Builtin.Str.occurrences lettersS ⟨#[c]⟩ 0 lettersS.length 1).isEmpty) = letB c := by
  rw [← let_codes c]
  exact (PySem.StrLaws.found_one lettersS c)
theorem str_len (x : Str) : x.length = x.cps.toList.length := by simp [Str.length]
theorem sem_is_word (h : Φ_is_word ds S Q E) : r_is_word W (endsOf fo S Q) (startD 2 ds) S := by
  unfold Φ_is_word at h
  split at h <;> try exact h.elim
  rename_i v
  obtain ⟨hp, q⟩ := h
  simp [r_is_word, startD, endsOf, tgIn_pl hp]
  rcases pl_casesN hp with rfl | ⟨b, rfl⟩ | ⟨i, rfl⟩ | ⟨x, rfl, hx⟩ | ⟨j, ys, rfl, _⟩ | ⟨j, ys, rfl, _⟩ <;> simp
  · exact ret_same q
  · exact ret_same q
  · exact ret_same q
  · have hs : x.length ≤ sizeLine := by rw [sizeLine_eq]; omega
    simp [lenD, hs]
    by_cases h1 : 1 ≤ x.length
    · by_cases h8 : x.length ≤ 8
      · rw [if_pos (by omega), if_pos (by omega)]
        have hl : (signsD x).length = x.length := by rw [str_len]; simp [signsD]
        refine lc_map (fun d => match d with | .str ⟨⟨[c]⟩⟩ => .bl (letB c) | _ => .non) trivial (by simp [hl]; exact sz100 (by omega)) (fun d hd R r => ?_) ?_
        · obtain ⟨c, _, rfl⟩ := List.mem_map.mp hd
          simp [LTg.bind, wipeE, dIn]
          have := occ_let c
          unfold lettersS at this
          have r' : R (.bl (letB c)) S := r
          rw [← this] at r'
          simpa using r'
        · have e : (signsD x).map (fun d => match d with | .str ⟨⟨[c]⟩⟩ => D.bl (letB c) | _ => .non) = (x.cps.toList.map letB).map D.bl := by
            unfold signsD; rw [List.map_map, List.map_map]; rfl
          rw [e]
          simp only [List.nil_append]
          refine all_lst (ret_same ?_)
          have : isWord (.str x) = (x.cps.toList.map letB).all id := by
            show (decide (1 ≤ x.length ∧ x.length ≤ 8) && x.cps.toList.all letB) = _
            rw [decide_eq_true ⟨h1, h8⟩, Bool.true_and, List.all_map]; rfl
          rwa [← this]
      · rw [if_pos (by omega), if_neg (by omega)]
        refine ret_same ?_
        have : isWord (.str x) = false := by show (decide (1 ≤ x.length ∧ x.length ≤ 8) && _) = _; rw [decide_eq_false (by omega)]; rfl
        rwa [this] at q
    · rw [if_neg (by omega)]
      refine ret_same ?_
      have : isWord (.str x) = false := by show (decide (1 ≤ x.length ∧ x.length ≤ 8) && _) = _; rw [decide_eq_false (by omega)]; rfl
      rwa [this] at q
  · exact ret_same q
  · exact ret_same q
theorem part_eq {p : Nat} (hp : p < 4) : decide (pn p = ("places" : Str)) = (p == 2) := by
  have : p = 0 ∨ p = 1 ∨ p = 2 ∨ p = 3 := by omega
  rcases this with rfl | rfl | rfl | rfl <;> decide +kernel
theorem sem_word_of (h : Φ_word_of ds S Q E) : r_word_of W (endsOf fo S Q) (startD 3 ds) S := by
  unfold Φ_word_of at h
  split at h <;> try exact h.elim
  rename_i part row k
  obtain ⟨p, n, h4, rfl, rfl, hr, q⟩ := h
  have pe := part_eq h4
  simp only [r_word_of, startD, endsOf, u_seq, u_if, u_test, u_op, u_var0, u_c, u_eqs, List.map_cons, List.map_nil, List.cons_append, List.nil_append, pe]
  cases hp2 : p == 2 with
  | false =>
    rw [hp2] at q
    simp
    exact ret_same q
  | true =>
    rw [hp2] at q
    simp [tgIn_pl hr]
    rcases pl_casesN hr with rfl | ⟨b, rfl⟩ | ⟨i, rfl⟩ | ⟨x, rfl, hx⟩ | ⟨j, ys, rfl, hj, hy, hl⟩ | ⟨j, ys, rfl, hj, hy, hl⟩ <;> simp
    · exact ret_same q
    · exact ret_same q
    · exact ret_same q
    · exact ret_same q
    · match ys, hy with
      | [], _ => simp [lenD]; exact ret_same q
      | [a], _ => simp [lenD]; exact ret_same q
      | [a, b], hy =>
        simp [lenD]
        refine ix_sq (v := b) rfl rfl ?_
        simp only [plL, Bool.and_eq_true, and_true] at hy
        cases hn : isNon b with
        | true =>
          simp [hn]
          refine ix_sq (v := a) rfl rfl (ret_same ?_)
          simpa [wordOf, hn] using q
        | false =>
          simp [hn]
          refine ix_sq (v := b) rfl rfl ⟨tgIn_some hy.2, ?_⟩
          cases hm : isNum n b with
          | true =>
            simp [hm]
            refine ix_sq (v := a) rfl rfl (ret_same ?_)
            simpa [wordOf, hn, hm] using q
          | false =>
            simp [hm]
            refine ret_same ?_
            simpa [wordOf, hn, hm] using q
      | a :: b :: c :: r, _ =>
        simp [lenD]
        rw [if_neg (by omega)]
        exact ret_same q
    · exact ret_same q
end DL.K04
set_option maxHeartbeats 1000000
namespace DL.K04
open PySem PySem.Spec L2 DL
variable {W : XD} {ds : List D} {S : Sto} {Q : DK} {E : String → List D → Sto → Prop}
theorem rows_sq {v : D} {rows : List D} (h : rowsOf (vw S v) = some rows) : sq S v = some rows := by
  cases v with
  | ref n =>
    unfold vw at h
    split at h
    · rename_i xs e; cases h; exact e
    · cases h
  | _ => first | (cases h; rfl) | cases h
theorem rows_tuple {v : D} {rows : List D} (h : rowsOf (vw S v) = some rows) (q : Q (tupOf (vw S v)) S) : dTuple [v] S Q := by
  have ht : tupOf (vw S v) = .tup rows := by unfold tupOf; rw [h]
  rw [ht] at q
  cases v with
  | ref n =>
    unfold vw at h
    split at h
    · rename_i xs e; cases h; exact tuple_sq e q
    · cases h
  | lst ys => cases h; exact tuple_lst q
  | tup ys => cases h; exact ⟨_, _, rfl, .inl rfl, q⟩
  | _ => cases h
theorem wordOf_pl {b : Bool} {k : Nat} {row : D} (h : pl 5 row = true) : pl 5 (wordOf b k row) = true := by
  unfold wordOf
  split
  · split
    · rename_i x y
      simp only [pl, plL, Bool.and_eq_true, and_true] at h
      split
      · exact pl_up h.2.1
      · rfl
    · rfl
  · exact h
theorem kv_most {p : Nat} (h : p < 4) : List.lookup (pn p) [(("tags" : Str), D.int 5), ("people", .int 4), ("places", .int 8), ("viewers", .int 5)] = some (.int (most p)) := by
  have : p = 0 ∨ p = 1 ∨ p = 2 ∨ p = 3 := by omega
  rcases this with rfl | rfl | rfl | rfl <;> rfl
theorem kv_least {p : Nat} (h : p < 4) : List.lookup (pn p) [(("tags" : Str), D.int 0), ("people", .int 0), ("places", .int 1), ("viewers", .int 1)] = some (.int (least p)) := by
  have : p = 0 ∨ p = 1 ∨ p = 2 ∨ p = 3 := by omega
  rcases this with rfl | rfl | rfl | rfl <;> rfl
theorem enumD_item {xs : List D} {i : Nat} {x : D} (h : (enumD 0 xs)[i]? = some x) : ∃ r, xs[i]? = some r ∧ x = .tup [.int (i : Nat), r] := by
  obtain ⟨r, h1, h2⟩ := enumD_get h
  exact ⟨r, h1, by rw [h2, Nat.zero_add]⟩
theorem wrong_bad {p k : Nat} {st : List Str} {row : D} {rows : List D} (h : ∀ w, wordOf (p == 2) k row = .str w → ¬(wordB w = true ∧ k < most p ∧ w ∉ st)) : wrongFrom p k st (row :: rows) = (some k, st) := by
  unfold wrongFrom
  split
  · rename_i w e
    rw [if_neg]
    simp only [Bool.and_eq_true, decide_eq_true_eq, Bool.not_eq_true', decide_eq_false_iff_not]
    exact h w e
  · rfl
theorem wrong_good {p k : Nat} {st : List Str} {row : D} {rows : List D} {w : Str} (e : wordOf (p == 2) k row = .str w) (h1 : wordB w = true) (h2 : k < most p) (h3 : w ∉ st) : wrongFrom p k st (row :: rows) = wrongFrom p (k + 1) (st ++ [w]) rows := by
  rw [wrongFrom, e]
  simp only
  rw [if_pos]
  simp only [Bool.and_eq_true, decide_eq_true_eq, Bool.not_eq_true', decide_eq_false_iff_not]
  exact ⟨h1, h2, h3⟩
theorem isWord_str {d : D} (h : isWord d = true) : ∃ w, d = .str w ∧ wordB w = true := by
  cases d <;> first | exact ⟨_, rfl, h⟩ | cases h
theorem sem_wrong_place (h : Φ_wrong_place ds S Q E) : r_wrong_place W (endsOf fo S Q) (startD 7 ds) S := by
  unfold Φ_wrong_place at h
  split at h <;> try exact h.elim
  rename_i part v ws
  obtain ⟨p, st, rows, h4, rfl, rfl, hst, hv, hr, q⟩ := h
  have hsq := rows_sq hr
  have hpl : ∀ r ∈ rows, pl 5 r = true := by
    have : plL 5 rows = true := by
      cases hvv : vw S v <;> rw [hvv] at hr hv <;> cases hr <;> (simp only [pl, Bool.and_eq_true] at hv; exact hv.2)
    exact plL_all.mp this
  simp [r_wrong_place, startD, endsOf]
  refine listS_sq rfl ?_
  refine ⟨rows, sq_app hsq, ?_⟩
  have PF : partFault p st (vw S v) = match wrongFrom p 0 st rows with
    | (some k, st') => (some k, st')
    | (none, st') => if rows.length < least p then (some rows.length, st') else (none, st') := by unfold partFault; rw [hr]; first | done | rfl
  refine dLoop_inv (fun i e s => ∃ st', s = S ++ [.lst (st'.map D.str)] ∧ st'.length = st.length + i ∧ (∃ o4 o5 o6, e = [some (.str (pn p)), some v, some (.lst (st.map D.str)), some (.ref S.length), o4, o5, o6]) ∧ wrongFrom p 0 st rows = wrongFrom p i st' (rows.drop i) ∧ i ≤ most p)
    (fun i e s hi pp => ?_) (fun i x e s N hi pp nx => ?_) (fun e s pp => ?_) ⟨st, rfl, by omega, ⟨_, _, _, rfl⟩, rfl, Nat.zero_le _⟩
  · obtain ⟨st', rfl, _⟩ := pp
    exact sq_app hsq
  · obtain ⟨st', rfl, hl, ⟨o4, o5, o6, rfl⟩, hw, him⟩ := pp
    obtain ⟨row, hrow, rfl⟩ := enumD_item hi
    rw [drop_get hrow] at hw
    have prow := hpl row (List.mem_of_getElem? hrow)
    refine ⟨_, rfl, rfl, ?_⟩
    simp [setAll, Φ_word_of]
    refine ⟨p, h4, rfl, i, rfl, prow, ?_⟩
    generalize hwd : wordOf (p == 2) i row = wd at *
    have pwd : pl 5 wd = true := by rw [← hwd]; exact wordOf_pl prow
    refine ⟨_, kv_most h4, ?_⟩
    simp
    have bad : (∀ w, wd = .str w → ¬(wordB w = true ∧ i < most p ∧ w ∉ st')) → ∃ d' S'', Cut fo S (S ++ [Ob.lst (List.map D.str st')]) (.int i) d' S'' ∧ Q d' S'' := fun hb => by
      refine ret_new rfl ?_
      have := wrong_bad (p := p) (k := i) (st := st') (row := row) (rows := rows.drop (i + 1)) (by rw [hwd]; exact hb)
      rw [this] at hw
      rw [PF, hw] at q
      exact q
    by_cases hm : most p ≤ i
    · exact .inr ⟨hm, bad fun w _ z => by omega⟩
    · refine .inl ⟨by omega, ?_⟩
      simp [Φ_is_word, pwd]
      cases hi2 : isWord wd with
      | false =>
        exact .inl ⟨rfl, bad fun w e z => by rw [e] at hi2; exact absurd z.1 (by rw [show wordB w = false from hi2]; simp)⟩
      | true =>
        refine .inr ⟨rfl, ?_⟩
        obtain ⟨w, rfl, hwb⟩ := isWord_str hi2
        refine in_sq (xs := st'.map D.str) (sq_ref (by simp)) rfl flat_strs ?_
        simp only [Bool.false_eq_true, if_false, any_strs]
        simp
        have flen : ∀ T, (S ++ T)[S.length]? = T[0]? := fun T => by rw [List.getElem?_append_right (Nat.le_refl _), Nat.sub_self]
        by_cases hin : w ∈ st'
        · exact .inr ⟨hin, bad fun w' e z => by cases e; exact z.2.2 hin⟩
        · refine .inl ⟨hin, ?_, ?_, nx _ _ ⟨st' ++ [w], ?_, by simp; omega, ⟨_, _, _, rfl⟩, ?_, by omega⟩⟩
          · simp [tyM, sqL]
          · have : most p ≤ 8 := by
              have : p = 0 ∨ p = 1 ∨ p = 2 ∨ p = 3 := by omega
              rcases this with rfl | rfl | rfl | rfl <;> decide
            rw [sizeLine_eq]; omega
          · simp
          · rw [hw]; exact wrong_good hwd hwb (by omega) hin
  · obtain ⟨st', rfl, hl, ⟨o4, o5, o6, rfl⟩, hw, him⟩ := pp
    rw [enumD_length, List.drop_length] at hw
    rw [PF, hw] at q
    simp [len_sq (sq_app (T := [Ob.lst (List.map D.str st')]) hsq)]
    refine ⟨_, kv_least h4, ?_⟩
    simp
    simp only [wrongFrom] at q
    by_cases hle : rows.length < least p
    · rw [if_pos hle] at q
      exact .inr ⟨hle, _, len_sq (sq_app hsq), ret_new rfl q⟩
    · rw [if_neg hle] at q
      exact .inl ⟨by omega, ret_new rfl q⟩
end DL.K04
set_option maxHeartbeats 1000000
namespace DL.K04
open PySem PySem.Spec L2 DL
variable {W : XD} {ds : List D} {S : Sto} {Q : DK} {E : String → List D → Sto → Prop}
theorem wrong_words {p : Nat} : ∀ {rows : List D} {k : Nat} {st st' : List Str}, wrongFrom p k st rows = (none, st') →
    st.map D.str ++ (enumD k rows).map (fun d => match d with | .tup [.int j, r] => wordOf (p == 2) j.toNat r | _ => .non) = st'.map D.str
  | [], k, st, st', h => by
    unfold wrongFrom at h; cases h
    simp [enumD]
  | row :: rows, k, st, st', h => by
    unfold wrongFrom at h
    split at h
    · rename_i w e
      split at h
      · have ih := wrong_words h
        rw [← ih]
        simp [enumD, e]
      · cases h
    · cases h
theorem wrong_len {p : Nat} : ∀ {rows : List D} {k : Nat} {st st' : List Str}, wrongFrom p k st rows = (none, st') → st'.length = st.length + rows.length ∧ (rows = [] ∨ k + rows.length ≤ most p)
  | [], k, st, st', h => by unfold wrongFrom at h; cases h; exact ⟨by simp, .inl rfl⟩
  | row :: rows, k, st, st', h => by
    unfold wrongFrom at h
    split at h
    · split at h
      · rename_i w e hc
        have ih := wrong_len h
        simp only [Bool.and_eq_true, decide_eq_true_eq] at hc
        refine ⟨by rw [ih.1]; simp; omega, .inr ?_⟩
        rw [List.length_cons]
        rcases ih.2 with e | e
        · subst e; simp; omega
        · omega
      · cases h
    · cases h
theorem most_le {p : Nat} (h : p < 4) : most p ≤ 8 := by
  have : p = 0 ∨ p = 1 ∨ p = 2 ∨ p = 3 := by omega
  rcases this with rfl | rfl | rfl | rfl <;> decide
theorem part_none {p : Nat} {st st' : List Str} {v : D} (h : partFault p st v = (none, st')) : ∃ rows, rowsOf v = some rows ∧ wrongFrom p 0 st rows = (none, st') := by
  unfold partFault at h
  split at h
  · cases h
  · rename_i rows e
    refine ⟨rows, e, ?_⟩
    split at h
    · cases h
    · rename_i st2 e2
      split at h
      · cases h
      · cases h; exact e2
theorem pl_seqT {v : D} (hv : pl 6 (vw S v) = true) : (∃ t, tgIn OWNL S v = some t ∧ (isTg t (.b "list") || isTg t (.b "tuple")) = (rowsOf (vw S v)).isSome) := by
  rw [tgIn_vw hv]
  rcases pl_casesN hv with e | ⟨b, e⟩ | ⟨i, e⟩ | ⟨s, e, _⟩ | ⟨j, ys, e, _⟩ | ⟨j, ys, e, _⟩ <;> rw [e] <;> exact ⟨_, rfl, rfl⟩
theorem rows_pl {v : D} {rows : List D} (hv : pl 6 v = true) (hr : rowsOf v = some rows) : plL 5 rows = true := by
  cases v <;> cases hr <;> (simp only [pl, Bool.and_eq_true] at hv; exact hv.2)
theorem rows_len {v : D} {rows : List D} (hv : pl 6 v = true) (hr : rowsOf v = some rows) : rows.length ≤ 1000000 := by
  cases v <;> cases hr <;> (simp only [pl, Bool.and_eq_true, decide_eq_true_eq] at hv; exact hv.1)
theorem faultFrom_drop {p : Nat} {st st' : List Str} {v : D} {vs : List D} (h : partFault p st v = (none, st')) : faultFrom p st (v :: vs) = faultFrom (p + 1) st' vs := by rw [faultFrom, h]
theorem faultFrom_some {p k : Nat} {st : List Str} {v : D} {vs : List D} (h : (partFault p st v).1 = some k) : faultFrom p st (v :: vs) = some (p, k) := by
  rw [faultFrom]
  cases hp : partFault p st v with
  | mk a b => rw [hp] at h; simp only at h; subst h; rfl
theorem none_rows : ∀ {vs : List D} {p : Nat} {st : List Str}, faultFrom p st vs = none → ∀ v ∈ vs, ∃ rows, rowsOf v = some rows
  | [], _, _, _, _, hv => by simp at hv
  | u :: vs, p, st, h, v, hv => by
    rw [faultFrom] at h
    split at h
    · cases h
    · rename_i st' e
      rcases List.mem_cons.mp hv with rfl | hv
      · obtain ⟨rows, hr, _⟩ := part_none e
        exact ⟨rows, hr⟩
      · exact none_rows h v hv
theorem cutx_same {fs : List D} {c : String} (hc : D.cloL S.length fs = true) (q : E c fs S) : ∃ fs' S'', CutX fo S S fs fs' S'' ∧ E c fs' S'' :=
  ⟨fs, S, cutx_refl hc, q⟩
theorem sem_Names__init__ (h : Φ_Names__init__ ds S Q E) : r_Names__init__ (wishOf fo S E) (endsOf fo S Q) (startD 11 ds) S := by
  unfold Φ_Names__init__ at h
  split at h <;> try exact h.elim
  rename_i n a b c d
  obtain ⟨hs, hp, q⟩ := h
  have hn : ∀ o, (List.set S n o)[n]? = some o := fun o => List.getElem?_set_self (List.getElem?_eq_some_iff.mp hs).1
  simp [r_Names__init__, startD, endsOf]
  refine ⟨sz100 (k := 2) (by decide), sz100 (k := 4) (by decide), ?_⟩
  generalize hV : [vw S a, vw S b, vw S c, vw S d] = vs at hp q
  have hlen : vs.length = 4 := by rw [← hV]; rfl
  have item : ∀ {j : Nat} {x : D}, [D.tup [.str "tags", a], .tup [.str "people", b], .tup [.str "places", c], .tup [.str "viewers", d]][j]? = some x → ∃ v, j < 4 ∧ x = .tup [.str (pn j), v] ∧ vs[j]? = some (vw S v) := by
    intro j x hx
    rw [← hV]
    match j, hx with
    | 0, hx => simp at hx; exact ⟨a, by decide, hx.symm, rfl⟩
    | 1, hx => simp at hx; exact ⟨b, by decide, hx.symm, rfl⟩
    | 2, hx => simp at hx; exact ⟨c, by decide, hx.symm, rfl⟩
    | 3, hx => simp at hx; exact ⟨d, by decide, hx.symm, rfl⟩
    | j + 4, hx => simp at hx
  refine dLoop_inv (fun j e s => s = S ∧ ∃ (st : List Str), (∃ o6 o7 o8 o9 o10, e = [some (.ref n), some a, some b, some c, some d, some (.lst (st.map D.str)), o6, o7, o8, o9, o10]) ∧ st.length ≤ 8 * j ∧ faultFrom 0 [] vs = faultFrom j st (vs.drop j))
    (fun _ _ s _ p => ?_) (fun j x e s N hi pp nx => ?_) (fun e s pp => ?_) ⟨rfl, [], ⟨_, _, _, _, _, rfl⟩, by simp, rfl⟩
  · exact rfl
  · obtain ⟨rfl, st, ⟨o6, o7, o8, o9, o10, rfl⟩, hl, hf⟩ := pp
    obtain ⟨v, hj, rfl, hv⟩ := item hi
    rw [drop_get hv] at hf
    have pv := plL_get hp hv
    refine ⟨_, rfl, rfl, ?_⟩
    simp [setAll, Φ_is_sequence]
    obtain ⟨t, ht, e⟩ := pl_seqT pv
    refine ⟨t, ht, ?_⟩
    have raise : ∀ k : Nat, faultFrom 0 [] vs = some (j, k) → ∃ fs' S'', CutX fo s s [.str (pn j), .int k] fs' S'' ∧ E "BadNames" fs' S'' := fun k hk => by
      refine cutx_same rfl ?_
      unfold madeN at q
      rw [hk] at q
      exact q
    have b0 : ∀ b : Bool, (isTg t (.b "list") || isTg t (.b "tuple")) = b → (rowsOf (vw s v)).isSome = b := fun b hb => by rw [← e]; exact hb
    cases hr : rowsOf (vw s v) with
    | none =>
      rw [hr] at e
      simp only [Option.isSome_none, Bool.or_eq_false_iff] at e
      rw [if_pos e]
      refine ⟨by rfl, ?_⟩
      have := raise 0 (by rw [hf]; exact faultFrom_some (by unfold partFault; rw [hr]))
      exact this
    | some rows =>
      rw [hr] at e
      have hlist := rows_len pv hr
      simp only [Option.isSome_some, Bool.or_eq_true] at e
      rw [if_neg (fun z => by rcases e with e | e <;> simp [e] at z)]
      refine ⟨j, st, rows, hj, rfl, rfl, by omega, pv, hr, ?_⟩
      cases hpf : partFault j st (vw s v) with
      | mk o st' =>
      cases o with
      | some k =>
        simp
        exact ⟨by rfl, raise k (by rw [hf]; exact faultFrom_some (by rw [hpf]))⟩
      | none =>
        simp
        refine ⟨_, rows_sq hr, ?_⟩
        obtain ⟨rows2, hr2, hw⟩ := part_none hpf
        rw [hr] at hr2; cases hr2
        have hwl := wrong_len hw
        have hm := most_le hj
        have hrl : rows.length ≤ 8 := by
          rcases hwl.2 with e | e
          · subst e; simp
          · omega
        refine lc_map (fun d => match d with | .tup [.int k, r] => wordOf (j == 2) k.toNat r | _ => .non) (rows_sq hr) (by rw [enumD_length]; exact sz100 (by simp; omega)) (fun x hx R r => ?_) ?_
        · obtain ⟨i, hi2, e⟩ := List.getElem_of_mem hx
          obtain ⟨row, hrow, rfl⟩ := enumD_item (i := i) (x := x) (by rw [List.getElem?_eq_getElem hi2, e])
          simp [LTg.bind, wipeE, setAll, Φ_word_of]
          exact ⟨j, hj, rfl, i, rfl, plL_get (rows_pl pv hr) hrow, r⟩
        · have hww := wrong_words hw
          simp only [List.nil_append]
          refine ⟨?_, ?_⟩
          · rw [List.length_map, enumD_length, sizeLine_eq]; omega
          · rw [hww]
            exact nx _ _ ⟨rfl, st', ⟨_, _, _, _, _, rfl⟩, by rw [hwl.1]; omega, by rw [hf]; exact faultFrom_drop hpf⟩
  · obtain ⟨rfl, st, ⟨o6, o7, o8, o9, o10, rfl⟩, hl, hf⟩ := pp
    rw [show [D.tup [.str "tags", a], .tup [.str "people", b], .tup [.str "places", c], .tup [.str "viewers", d]].length = 4 from rfl, show vs.drop 4 = [] from List.drop_eq_nil_iff.mpr (by omega)] at hf
    have hnone : faultFrom 0 [] vs = none := hf
    unfold madeN at q
    rw [hnone] at q
    have rr := none_rows hnone
    rw [← hV] at rr
    have hi : ∀ xs, s[n]? ≠ some (.lst xs) := fun xs z => by rw [hs] at z; cases z
    have hset : ∀ {ks : List Str} {us : List D}, ∀ xs, (Ob.inst "Names" ks us) ≠ .lst xs := fun xs z => nomatch z
    obtain ⟨ra, ea⟩ := rr (vw s a) (by simp)
    obtain ⟨rb, eb⟩ := rr (vw s b) (by simp)
    obtain ⟨rc, ec⟩ := rr (vw s c) (by simp)
    obtain ⟨rd, ed⟩ := rr (vw s d) (by simp)
    simp
    refine rows_tuple ea ?_
    refine ⟨[], [], hs, (by show 0 < 1000; decide), ?_⟩
    have w1 : ∀ {ks : List Str} {us : List D} (v : D), vw (List.set s n (.inst "Names" ks us)) v = vw s v := fun v => vw_set hi fun xs z => nomatch z
    refine rows_tuple (by rw [w1]; exact eb) ?_
    refine ⟨_, _, hn _, (by show 1 < 1000; decide), ?_⟩
    simp only [List.set_set, w1]
    refine rows_tuple (by rw [w1]; exact ec) ?_
    refine ⟨_, _, hn _, (by show 2 < 1000; decide), ?_⟩
    simp only [List.set_set, w1]
    refine rows_tuple (by rw [w1]; exact ed) ?_
    refine ⟨_, _, hn _, (by show 3 < 1000; decide), ?_⟩
    simp only [List.set_set, w1]
    refine ret_all ?_
    exact q
end DL.K04
set_option maxHeartbeats 1000000
namespace DL.K04
open PySem PySem.Spec L2 DL
variable {W : XD} {ds : List D} {S : Sto} {Q : DK} {E : String → List D → Sto → Prop}
theorem fn_tags {a b c d : D} {S : Sto} : fldD fo fc_tags "tags" (.ins "Names" [a, b, c, d]) S = some a := by rfl
theorem fn_people {a b c d : D} {S : Sto} : fldD fo fc_people "people" (.ins "Names" [a, b, c, d]) S = some b := by rfl
theorem fn_places {a b c d : D} {S : Sto} : fldD fo fc_places "places" (.ins "Names" [a, b, c, d]) S = some c := by rfl
theorem fn_viewers {a b c d : D} {S : Sto} : fldD fo fc_viewers "viewers" (.ins "Names" [a, b, c, d]) S = some d := by rfl
theorem word_ok {w : Str} (h : wordB w = true) : PyData.strOk w = true ∧ 1 ≤ w.length ∧ w.length ≤ 8 := by
  unfold wordB at h
  simp only [Bool.and_eq_true, decide_eq_true_eq, List.all_eq_true] at h
  refine ⟨?_, h.1.1, h.1.2⟩
  unfold PyData.strOk
  rw [← Array.all_toList]
  refine List.all_eq_true.mpr fun c hc => ?_
  have := h.2 c hc
  unfold letB at this
  simp only [decide_eq_true_eq] at this ⊢
  omega
theorem strs_nb {ws : List Str} (h : ∀ w ∈ ws, wordB w = true) : nbL 2 (ws.map D.str) = true ∧ plL 2 (ws.map D.str) = true := by
  induction ws with
  | nil => exact ⟨rfl, rfl⟩
  | cons w ws ih =>
    have := ih fun x hx => h x (List.mem_cons_of_mem _ hx)
    have hw := word_ok (h w List.mem_cons_self)
    refine ⟨?_, ?_⟩
    · rw [List.map_cons, nbL, this.1]; simp [nb, hw.1]
    · rw [List.map_cons, plL, this.2]; simp [pl]; omega
theorem places_nb {ps : List (Str × Option Nat)} (h : ∀ w ∈ ps.map (·.1), wordB w = true) : nbL 2 (ps.map plD) = true ∧ plL 2 (ps.map plD) = true := by
  induction ps with
  | nil => exact ⟨rfl, rfl⟩
  | cons p ps ih =>
    have := ih fun x hx => h x (by simp at hx ⊢; exact .inr hx)
    have hw := word_ok (h p.1 (by simp))
    obtain ⟨w, o⟩ := p
    refine ⟨?_, ?_⟩
    · rw [List.map_cons, nbL, this.1]; cases o <;> simp [nb, nbL, plD, hw.1]
    · rw [List.map_cons, plL, this.2]; cases o <;> simp [pl, plL, plD] <;> (simp at hw; omega)
theorem Nm.Ok.nb {N : Nm} (h : N.Ok) : nbL 3 N.ds = true ∧ plL 3 N.ds = true := by
  have a1 := strs_nb (ws := N.tags) fun w hw => h.wd w (by simp [Nm.words, hw])
  have a2 := strs_nb (ws := N.people) fun w hw => h.wd w (by simp [Nm.words, hw])
  have a3 := places_nb (ps := N.places) fun w hw => h.wd w (by unfold Nm.words; simp only [List.mem_append]; exact .inl (.inr hw))
  have a4 := strs_nb (ws := N.viewers) fun w hw => h.wd w (by simp [Nm.words, hw])
  have := h.lt; have := h.lp; have := h.ll; have := h.lv
  refine ⟨?_, ?_⟩
  · simp [Nm.ds, nbL, DL.nb, a1.1, a2.1, a3.1, a4.1]
  · simp [Nm.ds, plL, pl, a1.2, a2.2, a3.2, a4.2]; omega
theorem Nm.Ok.pl6 {N : Nm} (h : N.Ok) : plL 6 N.ds = true := plL_all.mpr fun x hx => pl_le (plL_all.mp h.nb.2 x hx) (by decide)
theorem eq_part {a b : D} {R : DK} (ha : nb 3 a = true) (hb : nb 3 b = true) (ra : ∃ xs, a = .tup xs) (rb : ∃ xs, b = .tup xs) (q : R (.bl (eqD a b)) S) : dEqD false a b S R := by
  obtain ⟨xs, rfl⟩ := ra
  obtain ⟨ys, rfl⟩ := rb
  exact eq_nb ha hb (by decide) (by decide) rfl (.inl rfl) (.inl rfl) q
theorem sem_Names__eq__ (h : Φ_Names__eq__ ds S Q E) : r_Names__eq__ W (endsOf fo S Q) (startD 2 ds) S := by
  unfold Φ_Names__eq__ at h
  split at h <;> try exact h.elim
  rename_i x o
  obtain ⟨N, rfl, hN, h⟩ := h
  rcases h with ⟨M, rfl, hM, q⟩ | ⟨hp2, q⟩ | ⟨c, ys, rfl, hc, hcs, q⟩
  · have n1 := hN.nb.1
    have n2 := hM.nb.1
    simp only [Nm.ds, nbL, Bool.and_eq_true, and_true] at n1 n2
    have ho : OWNL.contains "Names" = true := by decide
    simp [r_Names__eq__, startD, endsOf, Nm.D, Nm.ds, tgIn_ins ho, fn_tags, fn_people, fn_places, fn_viewers]
    have q1 : Q (.bl (eqD (.tup (N.tags.map D.str)) (.tup (M.tags.map D.str)) && (eqD (.tup (N.people.map D.str)) (.tup (M.people.map D.str)) && (eqD (.tup (N.places.map plD)) (.tup (M.places.map plD)) && eqD (.tup (N.viewers.map D.str)) (.tup (M.viewers.map D.str)))))) S := by
      have : eqDL N.ds M.ds = _ := rfl
      simp only [Nm.ds, eqDL, Bool.and_true] at q
      exact q
    refine eq_part n1.1 n2.1 ⟨_, rfl⟩ ⟨_, rfl⟩ ?_
    cases h1 : eqD (D.tup (N.tags.map D.str)) (.tup (M.tags.map D.str)) with
    | false => rw [h1] at q1; exact .inl ⟨rfl, ret_same q1⟩
    | true =>
      rw [h1] at q1
      refine .inr ⟨rfl, eq_part n1.2.1 n2.2.1 ⟨_, rfl⟩ ⟨_, rfl⟩ ?_⟩
      cases h2 : eqD (D.tup (N.people.map D.str)) (.tup (M.people.map D.str)) with
      | false => rw [h2] at q1; exact .inl ⟨rfl, ret_same q1⟩
      | true =>
        rw [h2] at q1
        refine .inr ⟨rfl, eq_part n1.2.2.1 n2.2.2.1 ⟨_, rfl⟩ ⟨_, rfl⟩ ?_⟩
        cases h3 : eqD (D.tup (N.places.map plD)) (.tup (M.places.map plD)) with
        | false => rw [h3] at q1; exact .inl ⟨rfl, ret_same q1⟩
        | true =>
          rw [h3] at q1
          exact .inr ⟨rfl, eq_part n1.2.2.2 n2.2.2.2 ⟨_, rfl⟩ ⟨_, rfl⟩ (ret_same q1)⟩
  · simp [r_Names__eq__, startD, endsOf, tgIn_vw hp2]
    rcases pl_casesN hp2 with e2 | ⟨c2, e2⟩ | ⟨i2, e2⟩ | ⟨x2, e2, hx2⟩ | ⟨j2, ys, e2, h2, hx2, hl2⟩ | ⟨j2, ys, e2, h2, hx2, hl2⟩
    all_goals rw [e2]
    all_goals simp
    all_goals exact ret_same q
  · have ho : OWNL.contains c = true := hcs
    simp [r_Names__eq__, startD, endsOf, tgIn_ins ho]
    rw [if_neg hc]
    exact ret_same q
end DL.K04
set_option maxHeartbeats 1000000
namespace DL.K04
open PySem PySem.Spec L2 DL
variable {W : XD} {ds : List D} {S : Sto} {Q : DK} {E : String → List D → Sto → Prop}
theorem sem__law_take (h : Φ_takeR ds S Q E) : r__law_take W (endsOf fo S Q) (startD 3 ds) S := by
  unfold Φ_takeR at h
  split at h <;> try exact h.elim
  rename_i n m
  obtain ⟨i, j, k, l, h1, h2, hs, q⟩ := h
  have hn : ∀ o, (List.set S n o)[n]? = some o := fun o => List.getElem?_set_self (List.getElem?_eq_some_iff.mp hs).1
  simp [r__law_take, startD, endsOf, dIx, sq, sqL, hs, hn, wellL, atI, ixN]
  have c1 : CMul l 48271 := .inr ⟨by decide, by decide⟩
  have c2 : CMul (k + 1) 69621 := .inr ⟨by decide, by decide⟩
  have c3 : ∀ x : Int, CMul x 16807 := fun x => .inr ⟨by decide, by decide⟩
  have c4 : ∀ x : Int, CDiv x 5 := fun x => ⟨by decide, by decide⟩
  have fin : ∀ x : Int, Q (.int (x % m)) (List.set S n (.lst [.int i, .int j, .int (k + 1), .int ((l * 48271 + (k + 1) * 69621 + 7) % 2147483647)])) := fun x => q _ _ _ _ _ (Int.emod_nonneg _ (by omega)) (Int.emod_lt_of_pos _ h1)
  by_cases hj : j = 1
  · refine .inr ⟨hj, ?_⟩
    by_cases hi : 0 < i
    · exact .inr ⟨hi, h1, ⟨h1, by omega⟩, ret_all (q _ _ _ _ _ (Int.emod_nonneg _ (by omega)) (Int.emod_lt_of_pos _ h1))⟩
    · exact .inl ⟨by omega, c1, c2, c3 _, c4 _, h1, ret_all (fin _)⟩
  · exact .inl ⟨hj, c1, c2, c3 _, c4 _, h1, ret_all (fin _)⟩
theorem sem__law_well (h : Φ_well ds S Q E) : r__law_well W (endsOf fo S Q) (startD 3 ds) S := by
  unfold Φ_well at h
  split at h <;> try exact h.elim
  rename_i ns k
  obtain ⟨h1, h2, hl, q⟩ := h
  have c1 : CPow 10 18 := ⟨by decide, by decide, by decide⟩
  have c2 : CMul 104729 (k + 1) := .inl ⟨by decide, by decide⟩
  by_cases hk : k < ns.length
  · have hx : k.toNat < ns.length := by omega
    have e : ns[k.toNat]? = some ns[k.toNat] := List.getElem?_eq_getElem hx
    generalize ns[k.toNat] = v at e
    simp [r__law_well, startD, endsOf, dIx, sq, sqL, lenD, atI, ixN, h1, hk, e, c1, c2]
    exact ⟨by show 4 ≤ sizeLine; decide, ret_well q⟩
  · simp [r__law_well, startD, endsOf, dIx, sq, sqL, lenD, atI, ixN, h1, hk, c1, c2]
    exact ⟨by show 4 ≤ sizeLine; decide, ret_well q⟩
theorem same_loop {a b : D} {xs ys : List D} {j : Nat} {Dn : DEnds} (sa : sq S a = some xs) (sb : sq S b = some ys) (hl : xs.length = ys.length) (hx : plL j xs = true) (hy : plL j ys = true) (h1 : eqDL xs ys = true → ∀ e, Dn.nx e S) (h2 : eqDL xs ys = false → Dn.rt (.bl false) S) :
    dLoop (fun _ => True) (dgName 2) (dIf (dNot (dTest (dCall (Φ__law_same j) W (dCons (dOp dIx (dVar 0) (dVar 2)) (dCons (dOp dIx (dVar 1) (dVar 2)) dNil))))) (dRet (dC (.bl false))) dNext) Dn (rngD 0 xs.length) [some a, some b, none] S := by
  refine dLoop_inv (fun i e s => s = S ∧ ∃ o, e = [some a, some b, o] ∧ ∀ m < i, ∀ x, xs[m]? = some x → ys[m]? = some x) (fun _ _ _ _ _ => trivial) (fun i d e s N hi p nx => ?_) (fun e s p => ?_) ⟨rfl, none, rfl, fun m hm => by omega⟩
  · obtain ⟨rfl, o, rfl, hp⟩ := p
    obtain ⟨hlt, rfl⟩ := rngD_get hi
    have ex := List.getElem?_eq_getElem hlt
    have ey := List.getElem?_eq_getElem (hl ▸ hlt)
    generalize xs[i] = x at ex
    generalize ys[i] = y at ey
    have px := plL_get hx ex
    have py := plL_get hy ey
    simp
    refine ix_sq sa (by simpa using atI_nat ex) (ix_sq sb (by simpa using atI_nat ey) ?_)
    simp [Φ__law_same, vw_pl px, vw_pl py, px, py]
    cases he : eqD x y with
    | false =>
      refine .inl ⟨rfl, h2 ?_⟩
      cases hq : eqDL xs ys with
      | false => rfl
      | true =>
        have := eqDL_eq hq
        subst this
        rw [ex] at ey
        cases ey
        rw [eqD_refl px] at he
        cases he
    | true =>
      refine .inr ⟨rfl, nx _ _ ⟨rfl, _, rfl, fun m hm z hz => ?_⟩⟩
      by_cases hmi : m = i
      · subst hmi
        rw [ex] at hz; cases hz
        rw [ey, eqD_eq he]
      · exact hp m (by omega) z hz
  · obtain ⟨rfl, o, rfl, hp⟩ := p
    rw [rngD_length] at hp
    refine h1 ?_ _
    have : xs = ys := by
      refine List.ext_getElem? fun m => ?_
      by_cases hm : m < xs.length
      · rw [List.getElem?_eq_getElem hm]
        exact (hp m hm _ (List.getElem?_eq_getElem hm)).symm
      · rw [List.getElem?_eq_none_iff.mpr (by omega), List.getElem?_eq_none_iff.mpr (by omega)]
    rw [this]
    exact eqDL_refl hy
theorem eqDL_len : ∀ {xs ys : List D}, xs.length ≠ ys.length → eqDL xs ys = false
  | [], [], h => absurd rfl h
  | [], _ :: _, _ => rfl
  | _ :: _, [], _ => rfl
  | x :: xs, y :: ys, h => by
    simp only [eqDL, eqDL_len (xs := xs) (ys := ys) (by simpa using h), Bool.and_false]
theorem sem__law_same {k : Nat} {Φr : DP} (hr : ∀ j, k = j + 1 → Φr = Φ__law_same j) (h : Φ__law_same k ds S Q E) : r__law_same Φr W (endsOf fo S Q) (startD 3 ds) S := by
  unfold Φ__law_same at h
  split at h <;> try exact h.elim
  rename_i a b
  obtain ⟨ha, hb, q⟩ := h
  have tb := tgIn_vw (cs := OWNL) hb
  have ta := tgIn_vw (cs := OWNL) ha
  have na : isNon a = eqD .non (vw S a) := isNon_vw
  have nb : isNon b = eqD .non (vw S b) := isNon_vw
  have ba : ∀ k, isBl k a = eqD (.bl k) (vw S a) := fun k => isBl_vw
  have bb : ∀ k, isBl k b = eqD (.bl k) (vw S b) := fun k => isBl_vw
  rcases pl_casesN ha with e | ⟨c, e⟩ | ⟨i, e⟩ | ⟨x, e, hx⟩ | ⟨j, xs, e, rfl, hx, hl⟩ | ⟨j, xs, e, rfl, hx, hl⟩
  · rw [e] at q
    have := vw_sc e (fun xs => by simp); subst this
    simp [r__law_same, startD, endsOf, nb]
    exact ret_same q
  · rw [e] at q
    have := vw_sc e (fun xs => by simp); subst this
    cases c <;> simp [r__law_same, startD, endsOf, bb]
    · exact ret_same q
    · exact ret_same q
  · rw [e] at q
    have := vw_sc e (fun xs => by simp); subst this
    simp (decide := true) [r__law_same, startD, endsOf]
    rw [tb]
    rcases pl_casesN hb with e2 | ⟨c2, e2⟩ | ⟨i2, e2⟩ | ⟨x2, e2, hx2⟩ | ⟨j2, ys, e2, rfl, hx2, hl2⟩ | ⟨j2, ys, e2, rfl, hx2, hl2⟩
    all_goals rw [e2] at q ⊢
    all_goals simp (decide := true)
    all_goals first | exact ret_same q | skip
    have := vw_sc e2 (fun xs => by simp); subst this
    simp
    exact ret_same (by simpa [eqD] using q)
  · rw [e] at q
    have := vw_sc e (fun xs => by simp); subst this
    simp (decide := true) [r__law_same, startD, endsOf]
    rw [tb]
    rcases pl_casesN hb with e2 | ⟨c2, e2⟩ | ⟨i2, e2⟩ | ⟨x2, e2, hx2⟩ | ⟨j2, ys, e2, rfl, hx2, hl2⟩ | ⟨j2, ys, e2, rfl, hx2, hl2⟩
    all_goals rw [e2] at q ⊢
    all_goals simp (decide := true)
    all_goals first | exact ret_same q | skip
    have := vw_sc e2 (fun xs => by simp); subst this
    simp
    exact ret_same (by simpa [eqD] using q)
  · rw [e] at q na ba ta
    have hq := hr j rfl
    subst hq
    simp (decide := true) [r__law_same, startD, endsOf, na, ba, ta, eqD]
    have ea := vw_tup e
    subst ea
    rw [tb]
    rcases pl_casesN hb with e2 | ⟨c2, e2⟩ | ⟨i2, e2⟩ | ⟨x2, e2, hx2⟩ | ⟨j2, ys, e2, h2, hx2, hl2⟩ | ⟨j2, ys, e2, h2, hx2, hl2⟩
    all_goals rw [e2] at q ⊢
    all_goals simp (decide := true)
    all_goals first | exact ret_same q | skip
    have := vw_tup e2; subst this
    cases h2
    refine ⟨xs.length, rfl, ys.length, rfl, ?_⟩
    by_cases hlen : xs.length = ys.length
    · rw [if_pos (by rw [hlen])]
      refine ⟨xs.length, rfl, by omega, ?_⟩
      refine same_loop rfl rfl hlen hx hx2 (fun h _ => ret_same ?_) (fun h => ret_same ?_)
      · simpa [eqD, h] using q
      · simpa [eqD, h] using q
    · rw [if_neg (by omega)]
      exact ret_same (by simpa [eqD, eqDL_len hlen] using q)
  · rw [e] at q na ba ta
    have hq := hr j rfl
    subst hq
    simp (decide := true) [r__law_same, startD, endsOf, na, ba, ta, eqD]
    have sa := (sq_vw (k := 0) e).1
    rw [tb]
    rcases pl_casesN hb with e2 | ⟨c2, e2⟩ | ⟨i2, e2⟩ | ⟨x2, e2, hx2⟩ | ⟨j2, ys, e2, h2, hx2, hl2⟩ | ⟨j2, ys, e2, h2, hx2, hl2⟩
    all_goals rw [e2] at q ⊢
    all_goals simp (decide := true)
    all_goals first | exact ret_same q | skip
    have sb := (sq_vw (k := 0) e2).1
    cases h2
    refine ⟨xs.length, len_vwL sa, ys.length, len_vwL sb, ?_⟩
    by_cases hlen : xs.length = ys.length
    · rw [if_pos (by rw [hlen])]
      refine ⟨xs.length, len_vwL sa, by omega, ?_⟩
      refine same_loop (sqL_sq sa) (sqL_sq sb) hlen hx hx2 (fun h _ => ret_same ?_) (fun h => ret_same ?_)
      · simpa [eqD, h] using q
      · simpa [eqD, h] using q
    · rw [if_neg (by omega)]
      exact ret_same (by simpa [eqD, eqDL_len hlen] using q)
theorem sem__law_odd (h : Φ__law_odd ds S Q E) : r__law_odd W (endsOf fo S Q) (startD 2 ds) S := by
  unfold Φ__law_odd at h
  split at h <;> try exact h.elim
  rename_i n
  obtain ⟨hs, q⟩ := h
  have sz : ∀ k : Nat, k ≤ 100 → k ≤ sizeLine := fun k h => by rw [sizeLine_eq]; omega
  simp [r__law_odd, startD, endsOf, Φ__law_take, Φ_take, hs, sz]
  refine ⟨⟨by decide, by decide, by decide⟩, ⟨by decide, by decide, by decide⟩, fun r _ _ k hk0 hk => ?_⟩
  refine ix_pick (i := k) rfl hk0 (by simpa using hk) fun v hv => ret_same (q v ?_)
  have sl : ∀ x : Str, x.length ≤ 10 → x.length ≤ 1000000 := fun _ h => by omega
  have s1 := sl "" (by decide); have s2 := sl "a" (by decide); have s3 := sl "0" (by decide); have s4 := sl "all" (by decide); have s5 := sl "stars" (by decide); have s6 := sl "photo" (by decide)
  refine (plL_all (k := 3)).mp ?_ v hv
  simp only [plL, pl, s1, s2, s3, s4, s5, s6, decide_true, Bool.and_self, List.length_cons, List.length_nil, Bool.and_true, Bool.true_and]
  decide
theorem sem_law (h : Φ_law ds S Q E) : r_law W (endsOf fo S Q) (startD 1 ds) S := by
  unfold Φ_law at h
  split at h <;> try exact h.elim
  rename_i ns
  obtain ⟨hl, q⟩ := h
  simp [r_law, startD, endsOf, Φ__law_body]
  exact ⟨hl, ret_same q⟩
end DL.K04
set_option maxHeartbeats 1000000
namespace DL.K04
open PySem PySem.Spec L2 DL
variable {W : XD} {ds : List D} {S : Sto} {Q : DK} {E : String → List D → Sto → Prop}
/-! ### texts of letters -/
def lets (x : Str) : Bool := x.cps.toList.all letB
theorem wordB_iff {x : Str} : wordB x = true ↔ 1 ≤ x.length ∧ x.length ≤ 8 ∧ lets x = true := by
  unfold wordB lets; simp [and_assoc]
theorem lets_cut {x : Str} {lo hi : Option Int} (h : lets x = true) : lets (cutS x lo hi) = true := by
  unfold lets cutS at *
  simp only [List.all_eq_true] at *
  intro c hc
  exact h c (List.mem_of_mem_drop (List.mem_of_mem_take hc))
theorem app_codes (x y : Str) : (x ++ y).cps.toList = x.cps.toList ++ y.cps.toList := by
  show (PySem.Str.append x y).cps.toList = _
  unfold PySem.Str.append; simp
theorem lets_app {x y : Str} (h : lets x = true) (h2 : lets y = true) : lets (x ++ y) = true := by
  unfold lets at *; rw [app_codes, List.all_append, h, h2]; rfl
theorem len_app (x y : Str) : (x ++ y).length = x.length + y.length := by
  rw [str_len, app_codes, List.length_append, ← str_len, ← str_len]
theorem len_cut_le (x : Str) (lo hi : Option Int) : (cutS x lo hi).length ≤ x.length := by
  rw [str_len, str_len]; unfold cutS; simp; omega
theorem len_to (x : Str) (n : Nat) : (cutS x none (some (n : Int))).length = min n x.length := by
  rw [str_len]; unfold cutS
  rw [HT.sIx_none, HT.sIx_nat]
  simp [Str.length]
theorem codes26 : lettersS.cps.toList = (List.range 26).map (97 + ·) := by decide +kernel
theorem signs26 : signsD lettersS = (List.range 26).map fun j => .str ⟨#[97 + j]⟩ := by
  unfold signsD; rw [codes26, List.map_map]; rfl
theorem letters_len : lettersS.length = 26 := by rw [str_len, codes26]; simp
/-- a letter by its number -/
theorem ix_letter {i : Int} {R : DK} (h0 : 0 ≤ i) (hi : i < 26) (r : ∀ x : Str, lets x = true → x.length = 1 → R (.str x) S) : dIx (.str lettersS) (.int i) S R := by
  have hx : lettersS.cps.toList[i.toNat]? = some (97 + i.toNat) := by rw [codes26, List.getElem?_map, List.getElem?_range (by omega)]; rfl
  refine ⟨by rw [letters_len]; exact sz100 (by decide), 97 + i.toNat, ?_, r _ ?_ rfl⟩
  · have := atI_nat hx
    rwa [show ((i.toNat : Nat) : Int) = i from Int.toNat_of_nonneg h0] at this
  · unfold lets; simp [letB]; omega
def menu18 : List Str := ["all", "none", "not", "and", "or", "tag", "in", "by", "x", "wide", "stars", "tags", "people", "before", "person", "tall", "places", "viewers"]
theorem menu18_ok : menu18.all wordB = true := by decide +kernel
def zq (j : Nat) : Str := ("zq" : Str) ++ ⟨#[97 + j]⟩
theorem zq_codes (j : Nat) : (zq j).cps.toList = [122, 113, 97 + j] := by
  unfold zq; rw [app_codes]; rw [show (("zq" : Str)).cps.toList = [122, 113] from by decide +kernel]; rfl
theorem zq_word {j : Nat} (h : j < 26) : wordB (zq j) = true := by
  rw [wordB_iff, str_len]
  unfold lets
  rw [zq_codes]
  refine ⟨by simp, by simp, ?_⟩
  simp [letB]; omega
theorem zq_all {st : List Str} (hl : st.length ≤ 25) (h : ∀ j < 26, zq j ∈ st) : False := by
  have nd : ((List.range 26).map zq).Nodup := by
    rw [List.nodup_iff_pairwise_ne, List.pairwise_map]
    refine List.Pairwise.imp (R := fun a b => a ≠ b) (fun {a b} (hab : a ≠ b) (e : zq a = zq b) => ?_) (List.nodup_iff_pairwise_ne.mp List.nodup_range)
    have := congrArg (fun x : Str => x.cps.toList) e
    simp only [zq_codes] at this
    simp at this; exact hab this
  have := List.Nodup.length_le_of_subset nd (l₂ := st) fun x hx => by
    obtain ⟨j, hj, rfl⟩ := List.mem_map.mp hx
    exact h j (List.mem_range.mp hj)
  simp at this
  omega
theorem word_mid {n u : Nat} {turn : Int} {st : List Str} {Dn : DEnds} (hw : S[n]? = some .well) (hu : S[u]? = some (.lst (st.map D.str))) (hl : st.length ≤ 25) (hwd : ∀ w ∈ st, wordB w = true)
    (nx : ∀ w o5 o6, wordB w = true → Dn.nx [some (.ref n), some (.ref u), some (.str lettersS), some (.int turn), some (.str w), o5, o6, none] S) :
    (dIf (dTest (dOp (dEqD false) (dVar 3) (dC (.int 0))))
  (dSet 4 (dOp dIx (dLstF (dCons (dC (.str "all")) (dCons (dC (.str "none")) (dCons (dC (.str "not")) (dCons (dC (.str "and")) (dCons (dC (.str "or")) (dCons (dC (.str "tag")) (dCons (dC (.str "in")) (dCons (dC (.str "by")) (dCons (dC (.str "x")) (dCons (dC (.str "wide")) (dCons (dC (.str "stars")) (dCons (dC (.str "tags")) (dCons (dC (.str "people")) (dCons (dC (.str "before")) (dCons (dC (.str "person")) (dCons (dC (.str "tall")) (dCons (dC (.str "places")) (dCons (dC (.str "viewers")) dNil))))))))))))))))))) (dCall Φ__law_take W (dCons (dVar 0) (dCons (dC (.int 18)) dNil)))))
  (dIf (dAnd (dTest (dOp (dEqD false) (dVar 3) (dC (.int 1)))) (dTest (dOp dGt (dCB dLen (dCons (dVar 1) dNil)) (dC (.int 0)))))
  (dSeq (dSet 4 (dOp dIx (dVar 1) (dCall Φ__law_take W (dCons (dVar 0) (dCons (dCB dLen (dCons (dVar 1) dNil)) dNil)))))
  (dSeq (dSet 5 (dCall Φ__law_take W (dCons (dVar 0) (dCons (dCB dLen (dCons (dVar 4) dNil)) dNil))))
  (dSeq (dSet 4 (dOp dAddF (dOp dAddF (dSliceF (dVar 4) dNoPart (dPart (dVar 5))) (dOp dIx (dVar 2) (dCall Φ__law_take W (dCons (dVar 0) (dCons (dC (.int 26)) dNil))))) (dSliceF (dVar 4) (dPart (dOp dAddF (dVar 5) (dCall Φ__law_take W (dCons (dVar 0) (dCons (dC (.int 2)) dNil))))) dNoPart)))
  (dSet 4 (dSliceF (dVar 4) dNoPart (dPart (dC (.int 8))))))))
  (dFor (diRng1 (dCons (dOp dAddF (dC (.int 1)) (dCall Φ__law_take W (dCons (dVar 0) (dCons (dC (.int 8)) dNil)))) dNil)) (dgName 6)
  (dSet 4 (dOp dAddF (dVar 4) (dOp dIx (dVar 2) (dCall Φ__law_take W (dCons (dVar 0) (dCons (dC (.int 26)) dNil))))))))) Dn [some (.ref n), some (.ref u), some (.str lettersS), some (.int turn), some (.str ""), none, none, none] S := by
  have squ : sq S (.ref u) = some (st.map D.str) := sq_ref hu
  have nx2 : ∀ (w : Str) o5 o6, lets w = true → 1 ≤ w.length → w.length ≤ 8 → Dn.nx [some (.ref n), some (.ref u), some (.str lettersS), some (.int turn), some (.str w), o5, o6, none] S := fun w o5 o6 h1 h2 h3 => nx w o5 o6 (wordB_iff.mpr ⟨h2, h3, h1⟩)
  have sz : ∀ x : Str, x.length ≤ 100 → x.length ≤ sizeLine := fun x h => sz100 h
  simp [Φ__law_take, Φ_take, hw]
  by_cases t0 : turn = 0
  · rw [if_pos t0]
    refine ⟨sz100 (by decide), fun r h0 hr => ?_⟩
    refine ix_pick (xs := menu18.map D.str) rfl h0 (by simpa [menu18] using hr) fun v hv => ?_
    obtain ⟨w, hwm, rfl⟩ := List.mem_map.mp hv
    exact nx w _ _ (List.all_eq_true.mp menu18_ok w hwm)
  · rw [if_neg t0]
    have loop : ∀ r : Int, 0 ≤ r → r < 8 → dLoop (fun x => True) (dgName 6) (dSet 4 (dOp dAddF (dVar 4) (dOp dIx (dVar 2) (dCall Φ_take W (dCons (dVar 0) (dCons (dC (.int 26)) dNil)))))) Dn (rngD 0 (1 + r).toNat) [some (.ref n), some (.ref u), some (.str lettersS), some (.int turn), some (.str ""), none, none, none] S := by
      intro r h0 h8
      refine dLoop_inv (fun i e s => s = S ∧ ∃ w o6, e = [some (.ref n), some (.ref u), some (.str lettersS), some (.int turn), some (.str w), none, o6, none] ∧ lets w = true ∧ w.length = i) (fun _ _ _ _ _ => trivial) (fun i x e s N hi pp nxx => ?_) (fun e s pp => ?_) ⟨rfl, "", none, rfl, by decide +kernel, by decide +kernel⟩
      · obtain ⟨rfl, w, o6, rfl, h1, h2⟩ := pp
        obtain ⟨hlt, rfl⟩ := rngD_get hi
        simp [Φ_take, hw]
        intro k hk0 hk
        refine ix_letter hk0 hk fun x hx hx1 => ⟨by rw [sizeLine_eq]; omega, nxx _ _ ⟨rfl, w ++ x, _, rfl, lets_app h1 hx, by rw [len_app]; omega⟩⟩
      · obtain ⟨rfl, w, o6, rfl, h1, h2⟩ := pp
        rw [rngD_length] at h2
        exact nx2 w _ _ h1 (by omega) (by omega)
    have fall : ∀ r : Int, 0 ≤ r → r < 8 → -4611686018427387904 ≤ 1 + r ∧ 1 + r < 4611686018427387904 ∧ _ := fun r h0 h8 => ⟨by omega, by omega, loop r h0 h8⟩
    by_cases t1 : turn = 1
    · rw [if_pos t1]
      refine ⟨_, len_sq squ, ?_⟩
      rw [List.length_map]
      by_cases hpos : 0 < st.length
      · rw [if_pos hpos]
        refine ⟨_, len_sq squ, ?_⟩
        rw [List.length_map]
        refine ⟨hpos, by omega, fun r h0 hr => ?_⟩
        refine ix_pick squ h0 (by simpa using hr) fun v hv => ?_
        obtain ⟨w, hwm, rfl⟩ := List.mem_map.mp hv
        obtain ⟨_, w1, w8⟩ := word_ok (hwd w hwm)
        have wl := (wordB_iff.mp (hwd w hwm)).2.2
        refine ⟨w.length, by unfold lenD; simp only; rw [if_pos (sz w (by omega))], by omega, by omega, hw, fun spot h0' hs => ?_⟩
        refine ⟨sz w (by omega), hw, fun k hk0 hk => ?_⟩
        refine ix_letter hk0 hk fun x hx hx1 => ?_
        have c1 := len_cut_le w none (some spot)
        refine ⟨by rw [hx1]; exact sz100 (by omega), hw, fun m hm0 hm2 => ⟨sz w (by omega), ?_⟩⟩
        have c2 := len_cut_le w (some (spot + m)) none
        have l3 : (cutS w none (some spot) ++ x).length ≤ 9 := by rw [len_app, hx1]; omega
        refine ⟨sz100 (by omega), ?_⟩
        have l4 : (cutS w none (some spot) ++ x ++ cutS w (some (spot + m)) none).length ≤ 17 := by rw [len_app]; omega
        refine ⟨sz _ (by omega), nx2 _ _ _ (lets_cut (lets_app (lets_app (lets_cut wl) hx) (lets_cut wl))) ?_ ?_⟩
        · have := len_to (cutS w none (some spot) ++ x ++ cutS w (some (spot + m)) none) 8
          have e : (cutS w none (some spot) ++ x ++ cutS w (some (spot + m)) none).length = (cutS w none (some spot)).length + 1 + (cutS w (some (spot + m)) none).length := by rw [len_app, len_app, hx1]
          rw [show (some (8 : Int)) = some ((8 : Nat) : Int) from rfl, this]; omega
        · have := len_to (cutS w none (some spot) ++ x ++ cutS w (some (spot + m)) none) 8
          rw [show (some (8 : Int)) = some ((8 : Nat) : Int) from rfl, this]; omega
      · rw [if_neg hpos]
        exact fall
    · rw [if_neg t1]
      exact fall
theorem sem__law_word (h : Φ__law_word ds S Q E) : r__law_word W (endsOf fo S Q) (startD 8 ds) S := by
  unfold Φ__law_word at h
  split at h <;> try exact h.elim
  rename_i n u
  obtain ⟨st, hw, hu, hl, hwd, q⟩ := h
  have squ : sq S (.ref u) = some (st.map D.str) := sq_ref hu
  -- the end: out is a word
  have fin : ∀ (w : Str) (o3 o5 o6 : Option D) (wb : wordB w = true), (dSeq (dIf (dTest (dOp (dIn true) (dVar 4) (dVar 1)))
      (dRet (dVar 4))
      dNext)
      (dSeq (dFor (diAny (dVar 2)) (dgName 7)
      (dIf (dTest (dOp (dIn true) (dOp dAddF (dC (.str "zq")) (dVar 7)) (dVar 1)))
      (dRet (dOp dAddF (dC (.str "zq")) (dVar 7)))
      dNext))
      (dRet (dC (.str "zqzqzqzq"))))) (endsOf fo S Q) [some (.ref n), some (.ref u), some (.str lettersS), o3, some (.str w), o5, o6, none] S := by
    intro w o3 o5 o6 wb
    simp [endsOf]
    refine in_sq squ rfl flat_strs ?_
    simp only [if_true, any_strs]
    by_cases hin : w ∈ st
    · refine .inl ⟨by simp [hin], ?_⟩
      rw [signs26]
      refine dLoop_inv (fun i e s => s = S ∧ (∃ o7, e = [some (.ref n), some (.ref u), some (.str lettersS), o3, some (.str w), o5, o6, o7]) ∧ ∀ j < i, zq j ∈ st) (fun _ _ _ _ _ => trivial) (fun i x e s N hi pp nx => ?_) (fun e s pp => ?_) ⟨rfl, ⟨_, rfl⟩, by simp⟩
      · obtain ⟨rfl, ⟨o7, rfl⟩, hz⟩ := pp
        have hi26 : i < 26 := by have := (List.getElem?_eq_some_iff.mp hi).1; simpa using this
        have hx : x = .str ⟨#[97 + i]⟩ := by
          rw [List.getElem?_map, List.getElem?_range hi26] at hi
          simpa using hi.symm
        subst hx
        simp
        have l2 : (("zq" : Str)).length + (⟨#[97 + i]⟩ : Str).length ≤ sizeLine := by
          rw [show (("zq" : Str)).length = 2 from by decide +kernel, show (⟨#[97 + i]⟩ : Str).length = 1 from rfl]; exact sz100 (by decide)
        refine ⟨l2, ?_⟩
        refine in_sq squ rfl flat_strs ?_
        simp only [if_true, any_strs]
        by_cases hin2 : zq i ∈ st
        · refine .inl ⟨by show D.bl (!decide (zq i ∈ st)) = _; simp [hin2], ?_⟩
          exact nx _ _ ⟨rfl, ⟨_, rfl⟩, fun j hj => by
            by_cases e : j = i
            · rw [e]; exact hin2
            · exact hz j (by omega)⟩
        · refine .inr ⟨by show D.bl (!decide (zq i ∈ st)) = _; simp [hin2], ?_⟩
          exact ⟨l2, ret_same (q (zq i) (zq_word hi26) hin2)⟩
      · obtain ⟨rfl, ⟨o7, rfl⟩, hz⟩ := pp
        exact (zq_all hl (fun j hj => hz j (by simpa using hj))).elim
    · refine .inr ⟨by simp [hin], ?_⟩
      exact ret_same (q w wb hin)
  unfold r__law_word
  simp only [startD, List.map_cons, List.map_nil, List.length_cons, List.length_nil, List.cons_append, List.nil_append]
  simp only [u_set, u_c, List.set_cons_succ, List.set_cons_zero, List.replicate]
  simp only [u_seq, u_set, u_c, List.set_cons_succ, List.set_cons_zero, u_call, u_cons, u_nil, u_varS, u_var0, List.replicate]
  refine ⟨by decide, by decide, hw, fun turn ht0 ht5 => ?_⟩
  refine word_mid hw hu hl hwd fun w o5 o6 wb => ?_
  exact fin w _ o5 o6 wb
end DL.K04
set_option maxHeartbeats 1000000
namespace DL.K04
open PySem PySem.Spec L2 DL
variable {W : XD} {ds : List D} {S : Sto} {Q : DK} {E : String → List D → Sto → Prop}
def rowD (a : Nat) (r : List (Str × Option Nat)) : List D := r.map fun x => if a == 2 then plD x else .str x.1
theorem atI_last {α : Type} {xs : List α} {x : α} : atI (xs ++ [x]) (-1) = some x := by
  unfold atI ixN
  simp
  rw [if_pos (by omega), show (-1 + ((xs.length : Int) + 1)).toNat = xs.length from by omega]
  simp
def oD : Option Nat → D
  | none => .non
  | some j => .int j
/-- what is true of a row that is made -/
structure RowOk (u : List Str) (r : List (Str × Option Nat)) : Prop where
  wd : ∀ w ∈ u ++ r.map (·.1), wordB w = true
  nd : (u ++ r.map (·.1)).Nodup
  up : ∀ (i : Nat) w j, r[i]? = some (w, some j) → j < i
theorem RowOk.snoc {u : List Str} {r : List (Str × Option Nat)} (h : RowOk u r) {w : Str} {o : Option Nat} (hw : wordB w = true) (hn : w ∉ u ++ r.map (·.1)) (ho : ∀ j, o = some j → j < r.length) : RowOk u (r ++ [(w, o)]) := by
  refine ⟨fun x hx => ?_, ?_, fun i x j e => ?_⟩
  · rw [List.map_append, ← List.append_assoc] at hx
    rcases List.mem_append.mp hx with z | z
    · exact h.wd x z
    · simp at z; subst z; exact hw
  · rw [List.map_append, ← List.append_assoc, List.nodup_append]
    refine ⟨h.nd, by simp, fun a ha b hb => ?_⟩
    simp at hb; subst hb
    rintro rfl; exact hn ha
  · by_cases hi : i < r.length
    · rw [List.getElem?_append_left hi] at e; exact h.up i x j e
    · have hl := (List.getElem?_eq_some_iff.mp e).1
      simp at hl
      have : i = r.length := by omega
      subst this
      rw [List.getElem?_append_right (Nat.le_refl _), Nat.sub_self] at e
      simp at e
      exact ho j e.2
theorem lists_row {n a : Nat} {sz : D} {u : List Str} {wh : List D} {T : Sto} {o6 o7 : Option D} {m : Nat} {Dn : DEnds} (hw : S[n]? = some .well) (ha : a < 4) (hm : u.length + m ≤ 22) (h0 : RowOk u []) (hm8 : m ≤ 8)
    (nx : ∀ r o6 o7, RowOk u r → r.length = m → Dn.nx [some (.ref n), some (.ref S.length), some sz, some (.ref (S.length + 1)), some (.int a), some (.ref (S.length + 2 + T.length)), o6, o7] (S ++ ([.lst ((u ++ r.map (·.1)).map D.str), .lst wh] ++ (T ++ [.lst (rowD a r)])))) :
    dLoop (fun _ => True) (dgName 6)
  (dSeq (dDrop (dBM "list" dAppend (dVar 1) (dCons (dCall Φ__law_word W (dCons (dVar 0) (dCons (dVar 1) dNil))) dNil)))
  (dSeq (dSet 7 (dC .non))
  (dSeq (dIf (dAnd (dTest (dOp (dEqD false) (dVar 4) (dC (.int 2)))) (dAnd (dTest (dOp dGt (dVar 6) (dC (.int 0)))) (dTest (dOp dGt (dCall Φ__law_take W (dCons (dVar 0) (dCons (dC (.int 4)) dNil))) (dC (.int 0))))))
  (dSet 7 (dOp dIx (dLstF (dCons (dOp dSub (dVar 6) (dC (.int 1))) (dCons (dCall Φ__law_take W (dCons (dVar 0) (dCons (dVar 6) dNil))) dNil))) (dCall Φ__law_take W (dCons (dVar 0) (dCons (dC (.int 2)) dNil)))))
  dNext)
  (dDrop (dBM "list" dAppend (dVar 5) (dCons (dOp dIx (dLstF (dCons (dOp dIx (dVar 1) (dUn dNeg (dC (.int 1)))) (dCons (dTup (dCons (dOp dIx (dVar 1) (dUn dNeg (dC (.int 1)))) (dCons (dVar 7) dNil))) dNil))) (dCB dInt (dCons (dOp (dEqD false) (dVar 4) (dC (.int 2))) dNil))) dNil))))))
    Dn (rngD 0 m) [some (.ref n), some (.ref S.length), some sz, some (.ref (S.length + 1)), some (.int a), some (.ref (S.length + 2 + T.length)), o6, o7] (S ++ ([.lst (u.map D.str), .lst wh] ++ (T ++ [.lst []]))) := by
  have hwT : ∀ X : Sto, (S ++ X)[n]? = some .well := fun X => by rw [List.getElem?_append_left (List.getElem?_eq_some_iff.mp hw).1]; exact hw
  have g0 : ∀ (x y : Ob) (X : Sto), (S ++ ([x, y] ++ X))[S.length]? = some x := fun x y X => by simp
  have s0 : ∀ (x y z : Ob) (X : Sto), (S ++ ([x, y] ++ X)).set S.length z = S ++ ([z, y] ++ X) := fun x y z X => by simp
  have gr : ∀ (x y z : Ob), (S ++ ([x, y] ++ (T ++ [z])))[S.length + 2 + T.length]? = some z := fun x y z => by
    rw [List.getElem?_append_right (by omega), show S.length + 2 + T.length - S.length = 2 + T.length from by omega, List.getElem?_append_right (by simp)]
    simp
  have sr : ∀ (x y z z' : Ob), (S ++ ([x, y] ++ (T ++ [z]))).set (S.length + 2 + T.length) z' = S ++ ([x, y] ++ (T ++ [z'])) := fun x y z z' => by
    rw [List.set_append_right _ _ (by omega), show S.length + 2 + T.length - S.length = 2 + T.length from by omega, List.set_append_right _ _ (by simp)]
    simp
  refine dLoop_inv (fun i e s => ∃ r o6 o7, r.length = i ∧ RowOk u r ∧ e = [some (.ref n), some (.ref S.length), some sz, some (.ref (S.length + 1)), some (.int a), some (.ref (S.length + 2 + T.length)), o6, o7] ∧ s = S ++ ([.lst ((u ++ r.map (·.1)).map D.str), .lst wh] ++ (T ++ [.lst (rowD a r)])))
    (fun _ _ _ _ _ => trivial) (fun i x e s N hi pp nxx => ?_) (fun e s pp => ?_) ⟨[], o6, o7, rfl, h0, rfl, by simp [rowD]⟩
  · obtain ⟨r, o6, o7, hl, hok, rfl, rfl⟩ := pp
    obtain ⟨hlt, rfl⟩ := rngD_get hi
    simp only [u_gname, u_seq, u_drop, u_bm, u_varS, u_var0, u_cons, u_nil, u_call, u_set, u_c, List.set_cons_succ, List.set_cons_zero, Int.zero_add]
    refine ⟨by simp [tyM, sqL, g0], ?_⟩
    refine ⟨u ++ r.map (·.1), hwT _, g0 _ _ _, by simp; omega, hok.wd, fun w hw1 hw2 => ?_⟩
    show dAppend (.ref S.length) [.str w] _ _
    rw [u_append]
    refine ⟨_, g0 _ _ _, by simp [sizeLine_eq]; omega, ?_⟩
    rw [s0]
    -- the parent
    have key : ∀ (o : Option Nat), (∀ j, o = some j → j < i) →
        dBM "list" dAppend (dVar 5) (dCons (dOp dIx (dLstF (dCons (dOp dIx (dVar 1) (dUn dNeg (dC (.int 1)))) (dCons (dTup (dCons (dOp dIx (dVar 1) (dUn dNeg (dC (.int 1)))) (dCons (dVar 7) dNil))) dNil))) (dCB dInt (dCons (dOp (dEqD false) (dVar 4) (dC (.int 2))) dNil))) dNil)
          [some (.ref n), some (.ref S.length), some sz, some (.ref (S.length + 1)), some (.int a), some (.ref (S.length + 2 + T.length)), some (.int i), some (oD o)]
          (S ++ ([.lst ((u ++ r.map (·.1)).map D.str ++ [.str w]), .lst wh] ++ (T ++ [.lst (rowD a r)])))
          fun _ S1 => N [some (.ref n), some (.ref S.length), some sz, some (.ref (S.length + 1)), some (.int a), some (.ref (S.length + 2 + T.length)), some (.int i), some (oD o)] S1 := by
      intro o ho
      have last : ∀ {R : DK}, R (.str w) (S ++ ([.lst ((u ++ r.map (·.1)).map D.str ++ [.str w]), .lst wh] ++ (T ++ [.lst (rowD a r)]))) → dIx (.ref S.length) (.int (-1)) (S ++ ([.lst ((u ++ r.map (·.1)).map D.str ++ [.str w]), .lst wh] ++ (T ++ [.lst (rowD a r)]))) R := fun q => ix_sq (sq_ref (g0 _ _ _)) atI_last q
      have fin : N [some (.ref n), some (.ref S.length), some sz, some (.ref (S.length + 1)), some (.int a), some (.ref (S.length + 2 + T.length)), some (.int i), some (oD o)] (S ++ ([.lst ((u ++ r.map (·.1)).map D.str ++ [.str w]), .lst wh] ++ (T ++ [.lst (rowD a r ++ [if a == 2 then plD (w, o) else .str w])]))) := by
        refine nxx _ _ ⟨r ++ [(w, o)], _, _, by simp [hl], hok.snoc hw1 hw2 (by rw [hl]; exact ho), rfl, ?_⟩
        simp [rowD]
      simp only [u_bm, u_varS, u_var0, u_cons, u_nil, u_op, u_lstF, u_un, u_c, u_neg, u_tup, u_cb, u_eqi, Bool.false_eq_true, if_false, u_intb]
      refine ⟨tyM_ref (gr _ _ _), ?_⟩
      refine last (last ⟨sz100 (k := 2) (by decide), sz100 (k := 2) (by decide), ?_⟩)
      have app : ∀ d, (if a == 2 then plD (w, o) else .str w) = d → dAppend (.ref (S.length + 2 + T.length)) [d] (S ++ ([.lst ((u ++ r.map (·.1)).map D.str ++ [.str w]), .lst wh] ++ (T ++ [.lst (rowD a r)]))) (fun _ S1 => N [some (.ref n), some (.ref S.length), some sz, some (.ref (S.length + 1)), some (.int a), some (.ref (S.length + 2 + T.length)), some (.int i), some (oD o)] S1) := fun d e => by
        rw [u_append]
        refine ⟨_, gr _ _ _, by simp [rowD, sizeLine_eq]; omega, ?_⟩
        rw [sr, ← e]; exact fin
      by_cases h2 : a = 2
      · subst h2
        refine ix_sq (v := .tup [.str w, oD o]) rfl (by simp; rfl) (app _ ?_)
        simp [plD]; cases o <;> rfl
      · have e : decide ((a : Int) = 2) = false := by simp; omega
        rw [e]
        refine ix_sq (v := .str w) rfl rfl (app _ ?_)
        simp [h2]
    simp only [u_if, u_and, u_test, u_op, u_varS, u_var0, u_c, u_eqi, u_gt, Bool.false_eq_true, if_false, u_call, u_cons, u_nil]
    refine ⟨_, rfl, ?_⟩
    by_cases h2 : a = 2
    · rw [if_pos (by simp [h2])]
      refine ⟨_, rfl, ?_⟩
      by_cases hi0 : 0 < i
      · rw [if_pos (by simp; omega)]
        refine ⟨by decide, by decide, hwT _, fun t ht0 ht4 => ⟨t, 0, rfl, rfl, _, rfl, ?_⟩⟩
        by_cases ht : 0 < t
        · rw [if_pos (by simpa using ht)]
          simp only [u_set, u_op, u_lstF, u_cons, u_nil, u_varS, u_var0, u_c, u_sub, u_call, List.set_cons_succ, List.set_cons_zero]
          refine ⟨by omega, by omega, hwT _, fun j hj0 hj => ⟨sz100 (k := 2) (by decide), by decide, by decide, hwT _, fun b hb0 hb => ?_⟩⟩
          refine ix_pick (xs := [.int (i - 1), .int j]) rfl hb0 (by simpa using hb) fun v hv => ?_
          have : ∃ jj : Nat, v = oD (some jj) ∧ jj < i := by
            simp at hv
            rcases hv with rfl | rfl
            · exact ⟨i - 1, by show _ = D.int _; rw [show (((i - 1 : Nat) : Int)) = (i : Int) - 1 from by omega], by omega⟩
            · exact ⟨j.toNat, by show _ = D.int _; rw [Int.toNat_of_nonneg hj0], by omega⟩
          obtain ⟨jj, rfl, hjj⟩ := this
          have kk := key (some jj) fun j' e => by cases e; exact hjj
          simp only [u_bm, u_varS, u_var0, u_cons, u_nil, u_op, u_lstF, u_un, u_c, u_neg, u_tup, u_cb, u_eqi, Bool.false_eq_true, if_false, u_intb] at kk ⊢
          exact kk
        · rw [if_neg (by simpa using ht)]
          exact key none fun j' e => nomatch e
      · rw [if_neg (by simp; omega)]
        exact key none fun j' e => nomatch e
    · rw [if_neg (by simp; omega)]
      exact key none fun j' e => nomatch e
  · obtain ⟨r, o6, o7, hl, hok, rfl, rfl⟩ := pp
    rw [rngD_length] at hl
    exact nx r o6 o7 hok hl
end DL.K04
set_option maxHeartbeats 1000000
namespace DL.K04
open PySem PySem.Spec L2 DL
variable {W : XD} {ds : List D} {S : Sto} {Q : DK} {E : String → List D → Sto → Prop}
/-- the rows made so far -/
def wholeD : Nat → List (List (Str × Option Nat)) → List D
  | _, [] => []
  | a, r :: rs => .tup (rowD a r) :: wholeD (a + 1) rs
theorem wholeD_snoc : ∀ (rs : List (List (Str × Option Nat))) (a : Nat) (r : List (Str × Option Nat)), wholeD a (rs ++ [r]) = wholeD a rs ++ [.tup (rowD (a + rs.length) r)]
  | [], a, r => by simp [wholeD]
  | x :: rs, a, r => by
    simp only [List.cons_append, wholeD, wholeD_snoc rs (a + 1) r, List.length_cons]
    rw [show a + 1 + rs.length = a + (rs.length + 1) from by omega]
def usedW (rs : List (List (Str × Option Nat))) : List Str := rs.flatten.map (·.1)
theorem usedW_snoc (rs : List (List (Str × Option Nat))) (r : List (Str × Option Nat)) : usedW (rs ++ [r]) = usedW rs ++ r.map (·.1) := by
  unfold usedW; simp
theorem pickN {xs : List D} {i : Int} {R : DK} (p : Nat → Prop) (h0 : 0 ≤ i) (hi : i < xs.length) (h : ∀ v ∈ xs, ∃ m : Nat, v = .int m ∧ p m) (q : ∀ m : Nat, p m → R (.int m) S) : dIx (.lst xs) (.int i) S R :=
  ix_pick rfl h0 hi fun v hv => by
    obtain ⟨m, rfl, hm⟩ := h v hv
    exact q m hm
theorem sem__law_lists (h : Φ__law_lists ds S Q E) : r__law_lists W (endsOf fo S Q) (startD 8 ds) S := by
  unfold Φ__law_lists at h
  split at h <;> try exact h.elim
  rename_i n
  obtain ⟨hw, q⟩ := h
  have hwT : ∀ X : Sto, (S ++ X)[n]? = some .well := fun X => by rw [List.getElem?_append_left (List.getElem?_eq_some_iff.mp hw).1]; exact hw
  have h3s : 3 ≤ sizeLine := sz100 (by decide)
  simp only [r__law_lists, startD, endsOf, List.map_cons, List.map_nil, List.length_cons, List.length_nil, List.cons_append, List.nil_append, List.replicate]
  simp only [u_seq, u_set, u_lstS, u_lstF, u_nil, u_cons, List.length_nil, List.set_cons_succ, List.set_cons_zero, u_op, u_c, u_call, u_varS, u_var0]
  refine ⟨Nat.zero_le _, ?_⟩
  refine ⟨by decide, by decide, hwT _, fun r h0 hr => ⟨h3s, by decide, by decide, hwT _, fun r' h0' hr' => ?_⟩⟩
  refine pickN (fun m => m ≤ 5) h0' (by simpa using hr') (by
    simp only [List.mem_cons, List.not_mem_nil, or_false, forall_eq_or_imp, forall_eq]
    exact ⟨⟨0, rfl, by omega⟩, ⟨5, rfl, by omega⟩, ⟨r.toNat, by rw [Int.toNat_of_nonneg h0], by omega⟩⟩) fun m0 hm0 => ?_
  refine ⟨by decide, by decide, hwT _, fun r h0 hr => ⟨h3s, by decide, by decide, hwT _, fun r' h0' hr' => ?_⟩⟩
  refine pickN (fun m => m ≤ 4) h0' (by simpa using hr') (by
    simp only [List.mem_cons, List.not_mem_nil, or_false, forall_eq_or_imp, forall_eq]
    exact ⟨⟨0, rfl, by omega⟩, ⟨4, rfl, by omega⟩, ⟨r.toNat, by rw [Int.toNat_of_nonneg h0], by omega⟩⟩) fun m1 hm1 => ?_
  refine ⟨by decide, by decide, hwT _, fun r h0 hr => ⟨h3s, by decide, by decide, hwT _, fun r' h0' hr' => ?_⟩⟩
  refine pickN (fun m => 1 ≤ m ∧ m ≤ 8) h0' (by simpa using hr') (by
    simp only [List.mem_cons, List.not_mem_nil, or_false, forall_eq_or_imp, forall_eq]
    exact ⟨⟨1, rfl, by omega⟩, ⟨8, rfl, by omega⟩, ⟨(1 + r).toNat, by rw [Int.toNat_of_nonneg (by omega)], by omega⟩⟩) fun m2 hm2 => ?_
  refine ⟨by decide, by decide, hwT _, fun r h0 hr => ⟨h3s, by decide, by decide, hwT _, fun r' h0' hr' => ?_⟩⟩
  refine pickN (fun m => 1 ≤ m ∧ m ≤ 5) h0' (by simpa using hr') (by
    simp only [List.mem_cons, List.not_mem_nil, or_false, forall_eq_or_imp, forall_eq]
    exact ⟨⟨1, rfl, by omega⟩, ⟨5, rfl, by omega⟩, ⟨(1 + r).toNat, by rw [Int.toNat_of_nonneg (by omega)], by omega⟩⟩) fun m3 hm3 => ?_
  refine ⟨sz100 (k := 4) (by decide), ?_⟩
  simp only [u_for, u_rng1, u_cons, u_nil, u_c]
  refine ⟨Nat.zero_le _, 4, rfl, by decide, by decide, ?_⟩
  let ms : List Nat := [m0, m1, m2, m3]
  let sz : D := .lst [.int m0, .int m1, .int m2, .int m3]
  have hz : (S ++ [Ob.lst []] ++ [Ob.lst []]).length = S.length + 2 := by simp
  refine dLoop_inv (fun i e s => ∃ rs T o4 o5 o6 o7, rs.length = i ∧ (∀ (j : Nat) r, rs[j]? = some r → ms[j]? = some r.length) ∧ RowOk (usedW rs) [] ∧ (usedW rs).length ≤ 9 * i ∧ (∀ r ∈ rs, ∀ (i : Nat) w j, r[i]? = some (w, some j) → j < i) ∧
      e = [some (.ref n), some (.ref S.length), some sz, some (.ref (S.length + 1)), o4, o5, o6, o7] ∧ s = S ++ ([.lst ((usedW rs).map D.str), .lst (wholeD 0 rs)] ++ T))
    (fun _ _ _ _ _ => trivial) (fun i x e s N hi pp nx => ?_) (fun e s pp => ?_) ⟨[], [], none, none, none, none, rfl, by simp, ⟨by simp [usedW], by simp [usedW], by simp⟩, by simp [usedW], by simp, by simp [sz], by simp [usedW, wholeD]⟩
  · obtain ⟨rs, T, o4, o5, o6, o7, hl, hms, hok, hul, hup, rfl, rfl⟩ := pp
    obtain ⟨hlt, rfl⟩ := rngD_get hi
    have hi4 : i < 4 := hlt
    simp only [u_gname, u_seq, u_set, u_lstS, u_nil, List.length_nil, List.set_cons_succ, List.set_cons_zero, u_for, u_rng1, u_cons, u_op, u_varS, u_var0, Int.zero_add]
    refine ⟨Nat.zero_le _, ?_⟩
    have hm : ∃ m, ms[i]? = some m ∧ m ≤ 8 ∧ (usedW rs).length + m ≤ 22 := by
      have ul : (usedW rs).length = (rs.map List.length).sum := by unfold usedW; rw [List.length_map, List.length_flatten]
      have e0 : ∀ j : Nat, j < rs.length → ∃ r, rs[j]? = some r ∧ ms[j]? = some r.length := fun j hj => ⟨rs[j], List.getElem?_eq_getElem hj, hms j _ (List.getElem?_eq_getElem hj)⟩
      have : i = 0 ∨ i = 1 ∨ i = 2 ∨ i = 3 := by omega
      rcases this with rfl | rfl | rfl | rfl
      · exact ⟨m0, rfl, by omega, by rw [ul, List.length_eq_zero_iff.mp hl]; simp; omega⟩
      · obtain ⟨a, rfl⟩ : ∃ a, rs = [a] := by match rs, hl with | [a], _ => exact ⟨a, rfl⟩
        have h0 := hms 0 a rfl
        simp [ms] at h0
        exact ⟨m1, rfl, by omega, by rw [ul]; simp; omega⟩
      · obtain ⟨a, b, rfl⟩ : ∃ a b, rs = [a, b] := by match rs, hl with | [a, b], _ => exact ⟨a, b, rfl⟩
        have h0 := hms 0 a rfl
        have h1 := hms 1 b rfl
        simp [ms] at h0 h1
        exact ⟨m2, rfl, by omega, by rw [ul]; simp; omega⟩
      · obtain ⟨a, b, c, rfl⟩ : ∃ a b c, rs = [a, b, c] := by match rs, hl with | [a, b, c], _ => exact ⟨a, b, c, rfl⟩
        have h0 := hms 0 a rfl
        have h1 := hms 1 b rfl
        have h2 := hms 2 c rfl
        simp [ms] at h0 h1 h2
        exact ⟨m3, rfl, by omega, by rw [ul]; simp; omega⟩
    obtain ⟨m, hmi, hm8, hm22⟩ := hm
    refine ix_sq (v := .int m) rfl (atI_nat (i := i) ?_) ⟨m, rfl, by omega, by omega, ?_⟩
    · have : i = 0 ∨ i = 1 ∨ i = 2 ∨ i = 3 := by omega
      rcases this with rfl | rfl | rfl | rfl <;> simp [ms] at hmi <;> simp [hmi]
    · have e1 : (S ++ ([Ob.lst (List.map D.str (usedW rs)), Ob.lst (wholeD 0 rs)] ++ T)).length = S.length + 2 + T.length := by simp; omega
      rw [Int.toNat_natCast, e1, List.append_assoc, List.append_assoc]
      refine lists_row (S := S) (T := T) (W := W) hw hi4 hm22 hok hm8 fun r o6 o7 hr hrl => ?_
      have gr : ∀ (x y z : Ob), (S ++ ([x, y] ++ (T ++ [z])))[S.length + 2 + T.length]? = some z := fun x y z => by
        rw [List.getElem?_append_right (by omega), show S.length + 2 + T.length - S.length = 2 + T.length from by omega, List.getElem?_append_right (by simp)]
        simp
      have g1 : ∀ (x y : Ob) (X : Sto), (S ++ ([x, y] ++ X))[S.length + 1]? = some y := fun x y X => by simp
      have s1 : ∀ (x y z : Ob) (X : Sto), (S ++ ([x, y] ++ X)).set (S.length + 1) z = S ++ ([x, z] ++ X) := fun x y z X => by simp
      simp only [u_drop, u_bm, u_varS, u_var0, u_cons, u_nil, u_cb]
      refine ⟨tyM_ref (g1 _ _ _), tuple_sq (sqL_ref (gr _ _ _)) ?_⟩
      rw [u_append]
      refine ⟨_, g1 _ _ _, ?_, ?_⟩
      · have : (wholeD 0 rs).length = rs.length := by
          have : ∀ (rs : List (List (Str × Option Nat))) (a : Nat), (wholeD a rs).length = rs.length := by
            intro rs; induction rs with
            | nil => intro; rfl
            | cons x rs ih => intro a; simp [wholeD, ih]
          exact this rs 0
        rw [this, sizeLine_eq]; omega
      · rw [s1]
        refine nx _ _ ⟨rs ++ [r], T ++ [Ob.lst (rowD i r)], _, _, _, _, by simp [hl], fun j r' hj => ?_, ?_, ?_, ?_, rfl, ?_⟩
        · by_cases hjl : j < rs.length
          · rw [List.getElem?_append_left hjl] at hj; exact hms j r' hj
          · have hjl2 := (List.getElem?_eq_some_iff.mp hj).1
            simp at hjl2
            have : j = rs.length := by omega
            subst this
            rw [List.getElem?_append_right (Nat.le_refl _), Nat.sub_self] at hj
            cases hj
            rw [hl, hmi, hrl]
        · rw [usedW_snoc]
          exact ⟨by simpa using hr.wd, by simpa using hr.nd, by simp⟩
        · rw [usedW_snoc]; simp; omega
        · intro r' hr'
          rcases List.mem_append.mp hr' with z | z
          · exact hup r' z
          · rw [List.mem_singleton.mp z]; exact hr.up
        · rw [usedW_snoc, wholeD_snoc, hl, Nat.zero_add]
  · obtain ⟨rs, T, o4, o5, o6, o7, hl, hms, hok, hul, hup, rfl, rfl⟩ := pp
    rw [rngD_length] at hl
    have h4 : ∃ a b c d, rs = [a, b, c, d] := by
      match rs, hl with
      | [a, b, c, d], _ => exact ⟨a, b, c, d, rfl⟩
    obtain ⟨a, b, c, d, rfl⟩ := h4
    have l0 := hms 0 a rfl
    have l1 := hms 1 b rfl
    have l2 := hms 2 c rfl
    have l3 := hms 3 d rfl
    simp [ms] at l0 l1 l2 l3
    let N : Nm := ⟨a.map (·.1), b.map (·.1), c, d.map (·.1)⟩
    have hww : N.words = usedW [a, b, c, d] := by simp [Nm.words, usedW, N]
    have hN : N.Ok := ⟨by simp [N]; omega, by simp [N]; omega, by simp [N]; omega, by simp [N]; omega, by rw [hww]; simpa using hok.wd, by rw [hww]; simpa using hok.nd, hup c (by simp)⟩
    have hds : wholeD 0 [a, b, c, d] = N.ds := by simp [wholeD, rowD, Nm.ds, N]
    have qq := q N hN
    simp only [u_ret, u_varS, u_var0]
    rw [hds]
    refine ⟨.ref S.length, S ++ [.lst N.ds], ?_, qq⟩
    have hk : Kept S.length S (S ++ ([Ob.lst (List.map D.str (usedW [a, b, c, d])), Ob.lst N.ds] ++ T)) := kept_app
    have := Cut.kp (fo := fo) (S := S) (S' := S ++ ([Ob.lst (List.map D.str (usedW [a, b, c, d])), Ob.lst N.ds] ++ T)) (m := S.length + 1) (xs := N.ds) (ys := N.ds) hk (by omega) (by simp) (frzL_clo (plL_clo hN.nb.2))
    rw [take_app] at this
    exact this
end DL.K04
set_option maxHeartbeats 1000000
namespace DL.K04
open PySem PySem.Spec L2 DL
variable {W : XD} {ds : List D} {S : Sto} {Q : DK} {E : String → List D → Sto → Prop}
theorem fault_rows : ∀ {vs us : List D} {p : Nat} {st : List Str}, vs.map rowsOf = us.map rowsOf → faultFrom p st vs = faultFrom p st us
  | [], [], _, _, _ => rfl
  | [], _ :: _, _, _, h => by simp at h
  | _ :: _, [], _, _, h => by simp at h
  | v :: vs, u :: us, p, st, h => by
    simp only [List.map_cons, List.cons.injEq] at h
    have e : partFault p st v = partFault p st u := by unfold partFault; rw [h.1]
    rw [faultFrom, faultFrom, e]
    cases hq : partFault p st u with
    | mk a b =>
      cases a with
      | some k => rfl
      | none => exact fault_rows h.2
theorem isNum_lt {n j : Nat} (h : j < n) : isNum n (.int j) = true := by unfold isNum; simp; omega
theorem wrong_strs {p : Nat} (hp : p ≠ 2) : ∀ {ws st : List Str} {k : Nat}, (∀ w ∈ ws, wordB w = true) → (st ++ ws).Nodup → k + ws.length ≤ most p → wrongFrom p k st (ws.map D.str) = (none, st ++ ws)
  | [], st, k, _, _, _ => by simp [wrongFrom]
  | w :: ws, st, k, hw, hn, hl => by
    rw [List.length_cons] at hl
    have e : wordOf (p == 2) k (.str w) = .str w := by rw [show (p == 2) = false from by simp [hp]]; rfl
    have hnw : w ∉ st := fun z => by
      rw [List.nodup_append] at hn
      exact hn.2.2 w z w List.mem_cons_self rfl
    rw [List.map_cons, wrong_good e (hw w List.mem_cons_self) (by omega) hnw, wrong_strs hp (fun x hx => hw x (List.mem_cons_of_mem _ hx)) (by simpa using hn) (by omega)]
    simp
theorem wrong_pls : ∀ {ps : List (Str × Option Nat)} {st : List Str} {k : Nat}, (∀ w ∈ ps.map (·.1), wordB w = true) → (st ++ ps.map (·.1)).Nodup → k + ps.length ≤ 8 → (∀ (i : Nat) w j, ps[i]? = some (w, some j) → j < k + i) → wrongFrom 2 k st (ps.map plD) = (none, st ++ ps.map (·.1))
  | [], st, k, _, _, _, _ => by simp [wrongFrom]
  | (w, o) :: ps, st, k, hw, hn, hl, hu => by
    rw [List.length_cons] at hl
    have e : wordOf (2 == 2) k (plD (w, o)) = .str w := by
      show wordOf true k (plD (w, o)) = .str w
      cases o with
      | none => rfl
      | some j =>
        have := hu 0 w j rfl
        unfold wordOf plD
        simp only [if_true]
        rw [isNum_lt (by omega : j < k)]
        simp
    have hnw : w ∉ st := fun z => by
      rw [List.nodup_append] at hn
      exact hn.2.2 w z w (by simp) rfl
    rw [List.map_cons, wrong_good e (hw w (by simp)) (by show k < 8; omega) hnw, wrong_pls (fun x hx => hw x (by simp at hx ⊢; exact .inr hx)) (by simpa using hn) (by omega) (fun i x j e2 => by have := hu (i + 1) x j (by simpa using e2); omega)]
    simp
theorem fault_good {N : Nm} (h : N.Ok) : faultFrom 0 [] N.ds = none := by
  have hnd := h.nd
  have hwd := h.wd
  unfold Nm.words at hnd hwd
  have h1 : (N.tags ++ N.people ++ N.places.map (·.1)).Nodup := (List.nodup_append.mp hnd).1
  have h2 : (N.tags ++ N.people).Nodup := (List.nodup_append.mp h1).1
  have a1 := wrong_strs (p := 0) (by decide) (ws := N.tags) (st := []) (k := 0) (fun w hw => hwd w (by simp [hw])) (by rw [List.nil_append]; exact (List.nodup_append.mp h2).1) (by show 0 + _ ≤ 5; have := h.lt; omega)
  have a2 := wrong_strs (p := 1) (by decide) (ws := N.people) (st := N.tags) (k := 0) (fun w hw => hwd w (by simp [hw])) h2 (by show 0 + _ ≤ 4; have := h.lp; omega)
  have a3 := wrong_pls (ps := N.places) (st := N.tags ++ N.people) (k := 0) (fun w hw => hwd w (by simp only [List.mem_append]; exact .inl (.inr hw))) h1 (by have := h.ll; omega) (fun i w j e => by have := h.up i w j e; omega)
  have a4 := wrong_strs (p := 3) (by decide) (ws := N.viewers) (st := N.tags ++ N.people ++ N.places.map (·.1)) (k := 0) (fun w hw => hwd w (by simp [hw])) hnd (by show 0 + _ ≤ 5; have := h.lv; omega)
  rw [List.nil_append] at a1
  have p1 : partFault 0 [] (.tup (N.tags.map D.str)) = (none, N.tags) := by unfold partFault; simp only [rowsOf, a1]; rw [if_neg (by simp [least])]
  have p2 : partFault 1 N.tags (.tup (N.people.map D.str)) = (none, N.tags ++ N.people) := by unfold partFault; simp only [rowsOf, a2]; rw [if_neg (by simp [least])]
  have p3 : partFault 2 (N.tags ++ N.people) (.tup (N.places.map plD)) = (none, N.tags ++ N.people ++ N.places.map (·.1)) := by unfold partFault; simp only [rowsOf, a3]; rw [if_neg (by show ¬ (N.places.map plD).length < 1; rw [List.length_map]; have := h.ll; omega)]
  have p4 : partFault 3 (N.tags ++ N.people ++ N.places.map (·.1)) (.tup (N.viewers.map D.str)) = (none, N.tags ++ N.people ++ N.places.map (·.1) ++ N.viewers) := by unfold partFault; simp only [rowsOf, a4]; rw [if_neg (by show ¬ (N.viewers.map D.str).length < 1; rw [List.length_map]; have := h.lv; omega)]
  unfold Nm.ds
  rw [faultFrom_drop p1, faultFrom_drop p2, faultFrom_drop p3, faultFrom_drop p4]
  rfl
/-- values that are the names' sequences: tuples, or lists of the store or frozen -/
def likeP (S : Sto) (v d : D) : Prop := v = d ∨ ∃ xs, d = .tup xs ∧ sqL S v = some xs
theorem likeP_app {S T : Sto} {v d : D} (h : likeP S v d) : likeP (S ++ T) v d := by
  rcases h with h | ⟨xs, e, h⟩
  · exact .inl h
  · exact .inr ⟨xs, e, sqL_app h⟩
theorem likeP_vw {v d : D} {xs : List D} (hd : d = .tup xs) (h : likeP S v d) : rowsOf (vw S v) = some xs ∧ tupOf (vw S v) = d ∧ (∀ k, pl k d = true → pl k (vw S v) = true) := by
  subst hd
  rcases h with rfl | ⟨ys, e, h⟩
  · exact ⟨rfl, rfl, fun _ z => z⟩
  · cases e
    rw [vw_lst h]
    refine ⟨rfl, rfl, fun k hk => ?_⟩
    cases k with
    | zero => simp [pl] at hk
    | succ k => simpa [pl] using hk
theorem init_good {n : Nat} {a b c d : D} {N : Nm} (hN : N.Ok) (hs : S[n]? = some (.inst "Names" [] [])) (ha : likeP S a (.tup (N.tags.map D.str))) (hb : likeP S b (.tup (N.people.map D.str))) (hc : likeP S c (.tup (N.places.map plD))) (hd : likeP S d (.tup (N.viewers.map D.str)))
    (q : Q .non (S.set n (.inst "Names" nmF N.ds))) : Φ_Names__init__ [.ref n, a, b, c, d] S Q E := by
  obtain ⟨a1, a2, a3⟩ := likeP_vw rfl ha
  obtain ⟨b1, b2, b3⟩ := likeP_vw rfl hb
  obtain ⟨c1, c2, c3⟩ := likeP_vw rfl hc
  obtain ⟨d1, d2, d3⟩ := likeP_vw rfl hd
  have p6 := hN.pl6
  simp only [Nm.ds, plL, Bool.and_eq_true, and_true] at p6
  refine ⟨hs, ?_, ?_⟩
  · simp only [plL, Bool.and_eq_true, and_true]
    exact ⟨a3 _ p6.1, b3 _ p6.2.1, c3 _ p6.2.2.1, d3 _ p6.2.2.2⟩
  · unfold madeN
    rw [fault_rows (us := N.ds) (by simp only [List.map_cons, List.map_nil, a1, b1, c1, d1, Nm.ds]; rfl), fault_good hN]
    simp only
    rw [a2, b2, c2, d2]
    exact q
/-- Names(a, b, c, d) of good parts -/
theorem make_good {a b c d : D} {N : Nm} {R : DK} {E' : String → List D → Sto → Prop} (hN : N.Ok) (ha : likeP S a (.tup (N.tags.map D.str))) (hb : likeP S b (.tup (N.people.map D.str))) (hc : likeP S c (.tup (N.places.map plD))) (hd : likeP S d (.tup (N.viewers.map D.str)))
    (q : R N.D S) : Φ_Names__init__ [.ref S.length, a, b, c, d] (S ++ [.inst "Names" [] []]) (fun d S2 => d = .non ∧ ∃ d' S3, Cut fo S S2 (.ref S.length) d' S3 ∧ R d' S3) E' := by
  refine init_good hN (by simp) (likeP_app ha) (likeP_app hb) (likeP_app hc) (likeP_app hd) ⟨rfl, N.D, S, ?_, q⟩
  rw [set_end]
  exact cut_inst (c := "Names") (plL_clo hN.nb.2)
end DL.K04
set_option maxHeartbeats 1000000
namespace DL.K04
open PySem PySem.Spec L2 DL
variable {W : XD} {ds : List D} {S : Sto} {Q : DK} {E : String → List D → Sto → Prop}
mutual
theorem eqD_refl : ∀ d : D, ∀ k, pl k d = true → eqD d d = true
  | .non, _, _ => rfl
  | .bl b, _, _ => by cases b <;> rfl
  | .int i, _, _ => by show decide (i = i) = true; simp
  | .str i, _, _ => by show decide (i = i) = true; simp
  | .tup xs, 0, h => by simp [pl] at h
  | .lst xs, 0, h => by simp [pl] at h
  | .tup xs, k + 1, h => by simp only [pl, Bool.and_eq_true] at h; exact eqDL_refl xs k (by first | exact h.2 | exact h.1)
  | .lst xs, k + 1, h => by simp only [pl, Bool.and_eq_true] at h; exact eqDL_refl xs k (by first | exact h.2 | exact h.1)
theorem eqDL_refl : ∀ xs : List D, ∀ k, plL k xs = true → eqDL xs xs = true
  | [], _, _ => rfl
  | x :: xs, k, h => by
    simp only [plL, Bool.and_eq_true] at h
    simp only [eqDL, eqD_refl x k h.1, eqDL_refl xs k h.2, Bool.and_self]
end
theorem sem__law_made (h : Φ__law_made ds S Q E) : r__law_made W (endsOf fo S Q) (startD 1 ds) S := by
  unfold Φ__law_made at h
  split at h <;> try exact h.elim
  rename_i p
  obtain ⟨N, hN, hs, q⟩ := h
  have sx := sqL_sq hs
  simp only [r__law_made, startD, endsOf, List.map_cons, List.map_nil, List.length_cons, List.length_nil, List.cons_append, List.nil_append, List.replicate, u_ret, u_make, u_cons, u_nil, u_op, u_cb, u_c, u_varS, u_var0]
  refine ix_sq sx (v := .tup (N.tags.map D.str)) rfl (list_sq rfl (ix_sq sx (v := .tup (N.people.map D.str)) rfl (ix_sq sx (v := .tup (N.places.map plD)) rfl (list_sq rfl (ix_sq sx (v := .tup (N.viewers.map D.str)) rfl ?_)))))
  refine make_good hN (.inr ⟨_, rfl, rfl⟩) (.inl rfl) (.inr ⟨_, rfl, rfl⟩) (.inl rfl) ?_
  exact ret_same q
end DL.K04
set_option maxHeartbeats 1000000
namespace DL.K04
open PySem PySem.Spec L2 DL
variable {W : XD} {ds : List D} {S : Sto} {Q : DK} {E : String → List D → Sto → Prop}
theorem fl_shot {a b c d e f g i : D} {S : Sto} : fldD fo fc_shot "shot" (.ins "Photo" [a, b, c, d, e, f, g, i]) S = some a := by rfl
theorem fl_stars {a b c d e f g i : D} {S : Sto} : fldD fo fc_stars "stars" (.ins "Photo" [a, b, c, d, e, f, g, i]) S = some b := by rfl
theorem fl_place {a b c d e f g i : D} {S : Sto} : fldD fo fc_place "place" (.ins "Photo" [a, b, c, d, e, f, g, i]) S = some c := by rfl
theorem fl_owner {a b c d e f g i : D} {S : Sto} : fldD fo fc_owner "owner" (.ins "Photo" [a, b, c, d, e, f, g, i]) S = some d := by rfl
theorem fl_tags {a b c d e f g i : D} {S : Sto} : fldD fo fc_tags "tags" (.ins "Photo" [a, b, c, d, e, f, g, i]) S = some e := by rfl
theorem fl_people {a b c d e f g i : D} {S : Sto} : fldD fo fc_people "people" (.ins "Photo" [a, b, c, d, e, f, g, i]) S = some f := by rfl
theorem fl_width {a b c d e f g i : D} {S : Sto} : fldD fo fc_width "width" (.ins "Photo" [a, b, c, d, e, f, g, i]) S = some g := by rfl
theorem fl_height {a b c d e f g i : D} {S : Sto} : fldD fo fc_height "height" (.ins "Photo" [a, b, c, d, e, f, g, i]) S = some i := by rfl
theorem sem_is_side (h : Φ_is_side ds S Q E) : r_is_side W (endsOf fo S Q) (startD 1 ds) S := by
  unfold Φ_is_side at h
  split at h <;> try exact h.elim
  rename_i v
  obtain ⟨hp, q⟩ := h
  simp [r_is_side, startD, endsOf, Φ_is_number, tgIn_some hp]
  rcases pl_cases hp with rfl | ⟨b, rfl⟩ | ⟨i, rfl⟩ | ⟨x, rfl⟩ | ⟨xs, rfl, _⟩ | ⟨xs, rfl, _⟩ <;> simp [isNum]
  · exact ret_same q
  · exact ret_same q
  · by_cases hi : 0 ≤ i ∧ i < 10
    · rw [if_pos hi]
      refine ret_same ?_
      rwa [show decide (0 < i) = numB 1 10 (.int i) from by rw [Bool.eq_iff_iff]; simp [numB]; omega]
    · rw [if_neg hi]
      refine ret_same ?_
      rwa [show false = numB 1 10 (.int i) from by rw [Bool.eq_iff_iff]; simp [numB]; omega]
  · exact ret_same q
  · exact ret_same q
  · exact ret_same q
theorem sem_fields (h : Φ_fields ds S Q E) : r_fields W (endsOf fo S Q) (startD 1 ds) S := by
  unfold Φ_fields at h
  split at h <;> try exact h.elim
  rename_i x
  obtain ⟨P, rfl, q⟩ := h
  simp [r_fields, startD, endsOf, Ph.D, Ph.ds, fl_shot, fl_stars, fl_place, fl_owner, fl_tags, fl_people, fl_width, fl_height]
  exact ⟨by show 8 ≤ sizeLine; decide, ret_same q⟩
theorem all_of {m : Int} : ∀ {xs : List D}, (xs.map (isNum m)).all id = true → ∃ is : List Int, xs = is.map D.int ∧ ∀ i ∈ is, 0 ≤ i ∧ i < m
  | [], _ => ⟨[], rfl, by simp⟩
  | x :: xs, h => by
    rw [List.map_cons, List.all_cons, Bool.and_eq_true] at h
    obtain ⟨is, e, hi⟩ := all_of h.2
    cases x <;> simp [isNum] at h
    rename_i i
    exact ⟨i :: is, by rw [e]; rfl, by
      intro j hj
      rcases List.mem_cons.mp hj with rfl | hj
      · exact h.1
      · exact hi j hj⟩
def rise : List Int → Bool
  | x :: y :: r => decide (x < y) && rise (y :: r)
  | _ => true
theorem rise_lt : ∀ {r : List Int} {x : Int}, rise (x :: r) = true → ∀ z ∈ r, x < z
  | [], _, _, _, h => by simp at h
  | y :: r, x, h, z, hz => by
    simp only [rise, Bool.and_eq_true, decide_eq_true_eq] at h
    rcases List.mem_cons.mp hz with rfl | hz
    · exact h.1
    · exact Int.lt_trans h.1 (rise_lt h.2 z hz)
theorem ris_iff {m : Int} : ∀ {is : List Int} {low : Int}, ris m low (is.map D.int) = true ↔ (∀ i ∈ is, low ≤ i ∧ i < m) ∧ rise is = true
  | [], low => by simp [ris, rise]
  | x :: r, low => by
    simp only [List.map_cons, ris, Bool.and_eq_true, decide_eq_true_eq, ris_iff (is := r) (low := x + 1)]
    constructor
    · rintro ⟨⟨h1, h2⟩, h3, h4⟩
      refine ⟨fun i hi => ?_, ?_⟩
      · rcases List.mem_cons.mp hi with rfl | hi
        · exact ⟨h1, h2⟩
        · have := h3 i hi; omega
      · cases r with
        | nil => rfl
        | cons y r =>
          simp only [rise, Bool.and_eq_true, decide_eq_true_eq]
          have := h3 y (by simp)
          exact ⟨by omega, h4⟩
    · rintro ⟨h1, h2⟩
      refine ⟨h1 x (by simp), fun i hi => ?_, ?_⟩
      · have a := rise_lt h2 i hi
        have b := h1 i (by simp [hi])
        omega
      · cases r with
        | nil => rfl
        | cons y r =>
          simp only [rise, Bool.and_eq_true, decide_eq_true_eq] at h2
          exact h2.2
theorem zipD_map : ∀ {as bs : List Int}, zipD (as.map D.int) (bs.map D.int) = (as.zip bs).map fun p => .tup [.int p.1, .int p.2]
  | [], _ => by simp [zipD]
  | _ :: _, [] => by simp [zipD]
  | a :: as, b :: bs => by simp [zipD, zipD_map]
theorem rise_zip : ∀ {is : List Int}, ((is.zip (is.drop 1)).map fun p => decide (p.1 < p.2)).all id = rise is
  | [] => rfl
  | [x] => rfl
  | x :: y :: r => by
    have := rise_zip (is := y :: r)
    simp only [List.drop_succ_cons, List.drop_zero] at this ⊢
    simp only [List.zip_cons_cons, List.map_cons, List.all_cons, rise, id]
    rw [← this]
theorem sem_is_ascending (h : Φ_is_ascending ds S Q E) : r_is_ascending W (endsOf fo S Q) (startD 5 ds) S := by
  unfold Φ_is_ascending at h
  split at h <;> try exact h.elim
  rename_i v m
  obtain ⟨hp, q⟩ := h
  simp [r_is_ascending, startD, endsOf, tgIn_pl hp]
  rcases pl_cases hp with rfl | ⟨b, rfl⟩ | ⟨i, rfl⟩ | ⟨x, rfl⟩ | ⟨xs, rfl, hx, hl⟩ | ⟨xs, rfl, _⟩ <;> simp [tgP, isTg]
  · exact ret_same q
  · exact ret_same q
  · exact ret_same q
  · exact ret_same q
  · refine lc_map (fun x => .bl (isNum m x)) ?_ ?_ (fun x hxm R r => ?_) ?_
    · rfl
    · rw [sizeLine_eq]; show 0 + xs.length ≤ _; omega
    · simp [LTg.bind, wipeE, Φ_is_number]
      exact ⟨tgIn_some (plL_all.mp hx x hxm), r⟩
    · rw [show ([] : List D) ++ xs.map (fun x => D.bl (isNum m x)) = (xs.map (isNum m)).map D.bl from by simp]
      refine all_lst ?_
      cases ha : (xs.map (isNum m)).all id with
      | false =>
        refine .inl ⟨rfl, ret_same ?_⟩
        rwa [show false = ascB m (.tup xs) from ?_]
        cases hr : ascB m (.tup xs) with
        | false => rfl
        | true =>
          exfalso
          have : ∀ {xs : List D} {low : Int}, 0 ≤ low → ris m low xs = true → (xs.map (isNum m)).all id = true := by
            intro xs
            induction xs with
            | nil => intros; rfl
            | cons x xs ih =>
              intro low h0 h
              cases x <;> simp [ris] at h
              rw [List.map_cons, List.all_cons, Bool.and_eq_true]
              refine ⟨?_, ih (by omega) h.2⟩
              simp [isNum]; omega
          rw [this (Int.le_refl 0) hr] at ha
          cases ha
      | true =>
        refine .inr ⟨rfl, ?_⟩
        obtain ⟨is, rfl, hi⟩ := all_of ha
        have hz : cutD (is.map D.int) (some 1) none = (is.drop 1).map D.int := by
          have e1 : min 1 is.length + (is.length - min 1 is.length) = is.length := by omega
          unfold cutD
          rw [HT.sIx_none, show (some (1 : Int)) = some ((1 : Nat) : Int) from rfl, HT.sIx_nat, List.length_map, List.map_drop]
          rw [List.take_of_length_le (by simp)]
          cases is with
          | nil => rfl
          | cons x r => rw [Nat.min_eq_left (by simp)]
        rw [hz]
        refine ⟨_, _, ⟨rfl, rfl⟩, _, rfl, _, rfl, .inl ⟨⟨_, rfl⟩, _, rfl⟩, ?_⟩
        rw [zipD_map]
        refine lc_map (fun d => match d with
          | .tup [.int a, .int b] => D.bl (decide (a < b))
          | _ => .non) ?_ ?_ (fun d hd R r => ?_) ?_
        · exact ⟨rfl, rfl⟩
        · rw [sizeLine_eq, List.length_map]; simp at hl ⊢; omega
        · obtain ⟨p, _, rfl⟩ := List.mem_map.mp hd
          simp [LTg.bind, wipeE, setAll]
          exact r
        · rw [List.nil_append, List.map_map]
          have e : (is.zip (is.drop 1)).map ((fun d => match d with
          | .tup [.int a, .int b] => D.bl (decide (a < b))
          | _ => .non) ∘ fun p : Int × Int => D.tup [.int p.1, .int p.2]) = ((is.zip (is.drop 1)).map fun p => decide (p.1 < p.2)).map D.bl := by
            rw [List.map_map]; rfl
          rw [e]
          refine all_lst (ret_same ?_)
          rw [rise_zip]
          rwa [show rise is = ascB m (.tup (is.map D.int)) from ?_]
          rw [Bool.eq_iff_iff]
          show _ ↔ ris m 0 (is.map D.int) = true
          rw [ris_iff]
          exact ⟨fun h => ⟨hi, h⟩, fun h => h.2⟩
  · exact ret_same q
end DL.K04
set_option maxHeartbeats 1000000
namespace DL.K04
open PySem PySem.Spec L2 DL
variable {W : XD} {ds : List D} {S : Sto} {Q : DK} {E : String → List D → Sto → Prop}
theorem sem_is_field (h : Φ_is_field ds S Q E) : r_is_field W (endsOf fo S Q) (startD 3 ds) S := by
  unfold Φ_is_field at h
  split at h <;> try exact h.elim
  rename_i f v
  obtain ⟨k, hk, hp, q⟩ := h
  have hlt : k < 8 := (List.getElem?_eq_some_iff.mp hk).1
  have hk8 : k = 0 ∨ k = 1 ∨ k = 2 ∨ k = 3 ∨ k = 4 ∨ k = 5 ∨ k = 6 ∨ k = 7 := by omega
  rcases hk8 with rfl | rfl | rfl | rfl | rfl | rfl | rfl | rfl
  all_goals (have e := Option.some.inj hk; subst e)
  all_goals simp (decide := true) [r_is_field, startD, endsOf, Φ_is_ascending, Φ_is_side, Φ_is_number, tgIn_some hp, hp, dIn, flatD, eqF, dDget, dcD]
  · exact ret_new rfl q
  · exact ⟨_, rfl, tgIn_some hp, ret_new rfl q⟩
  · exact ⟨_, rfl, tgIn_some hp, ret_new rfl q⟩
  · exact ⟨_, rfl, tgIn_some hp, ret_new rfl q⟩
  · exact ret_same q
  · exact ret_same q
  · exact ret_same q
  · exact ret_same q
theorem badFrom_step {k : Nat} {x : D} {xs : List D} (h : okP k x = true) : badFrom k (x :: xs) = badFrom (k + 1) xs := by simp [badFrom, h]
theorem badFrom_stop {k : Nat} {x : D} {xs : List D} (h : okP k x = false) : badFrom k (x :: xs) = phF[k]? := by simp [badFrom, h]
theorem sem_Photo__init__ (h : Φ_Photo__init__ ds S Q E) : r_Photo__init__ (wishOf fo S E) (endsOf fo S Q) (startD 12 ds) S := by
  unfold Φ_Photo__init__ at h
  split at h <;> try exact h.elim
  rename_i n xs
  obtain ⟨hl, hp, hs, q⟩ := h
  have hn : ∀ o, (List.set S n o)[n]? = some o := fun o => List.getElem?_set_self (List.getElem?_eq_some_iff.mp hs).1
  match xs, hl with
  | [a, b, c, d, e, f, g, i], hl =>
    simp [r_Photo__init__, startD, endsOf]
    refine ⟨by decide, by show 8 ≤ sizeLine; decide, ?_⟩
    generalize hX : [a, b, c, d, e, f, g, i] = X at hl hp q
    have hrow : [D.tup [D.str "shot", a], D.tup [D.str "stars", b], D.tup [D.str "place", c], D.tup [D.str "owner", d], D.tup [D.str "tags", e], D.tup [D.str "people", f], D.tup [D.str "width", g], D.tup [D.str "height", i]] = (phF.zip X).map fun p => .tup [.str p.1, p.2] := by subst hX; rfl
    have hnl : phF.length = 8 := rfl
    refine dLoop_inv (fun j e' s => s = S ∧ (∃ rows o1 o2, e' = [some (D.ref n), some a, some b, some c, some d, some e, some f, some g, some i, rows, o1, o2]) ∧ bad X = badFrom j (X.drop j)) (fun _ _ _ _ p => ?_) (fun j x e' s N hi p nx => ?_) (fun e' s p => ?_) ⟨rfl, ⟨_, _, _, rfl⟩, rfl⟩
    · rfl
    · obtain ⟨rfl, ⟨rows, o1, o2, rfl⟩, hb⟩ := p
      rw [hrow, List.getElem?_map] at hi
      obtain ⟨⟨nm, v⟩, hz, rfl⟩ := Option.map_eq_some_iff.mp hi
      rw [List.getElem?_zip_eq_some] at hz
      obtain ⟨h1, h2⟩ := hz
      have pv := plL_get hp h2
      have hd : X.drop j = v :: X.drop (j + 1) := by
        obtain ⟨h3, h4⟩ := List.getElem?_eq_some_iff.mp h2
        rw [List.drop_eq_getElem_cons h3, h4]
      rw [hd] at hb
      refine ⟨_, rfl, rfl, ?_⟩
      simp [setAll, Φ_is_field]
      refine ⟨j, h1, pv, ?_⟩
      cases ho : okP j v with
      | false =>
        rw [badFrom_stop ho, h1] at hb
        rw [if_neg (by simp)]
        refine ⟨rfl, ?_⟩
        unfold made at q
        rw [hb] at q
        exact cutx_same rfl q
      | true =>
        rw [badFrom_step ho] at hb
        rw [if_pos rfl]
        exact nx _ _ ⟨rfl, ⟨_, _, _, rfl⟩, hb⟩
    · obtain ⟨rfl, ⟨rows, o1, o2, rfl⟩, hb⟩ := p
      have : X.drop 8 = [] := List.drop_eq_nil_iff.mpr (by omega)
      rw [show [D.tup [D.str "shot", a], D.tup [D.str "stars", b], D.tup [D.str "place", c], D.tup [D.str "owner", d], D.tup [D.str "tags", e], D.tup [D.str "people", f], D.tup [D.str "width", g], D.tup [D.str "height", i]].length = 8 from rfl, this] at hb
      unfold made at q
      rw [hb] at q
      simp (decide := true) [badFrom] at q
      simp (decide := true) [hs, hn, putD]
      subst hX
      refine ⟨[], [], ⟨rfl, rfl⟩, (by show 0 < 1000; decide), _, _, ⟨rfl, rfl⟩, (by show 1 < 1000; decide), _, _, ⟨rfl, rfl⟩, (by show 2 < 1000; decide), _, _, ⟨rfl, rfl⟩, (by show 3 < 1000; decide), _, _, ⟨rfl, rfl⟩, (by show 4 < 1000; decide),
        _, _, ⟨rfl, rfl⟩, (by show 5 < 1000; decide), _, _, ⟨rfl, rfl⟩, (by show 6 < 1000; decide), _, _, ⟨rfl, rfl⟩, (by show 7 < 1000; decide), ?_⟩
      exact ret_all q
theorem ris_nb {m : Int} : ∀ {xs : List D} {low : Int}, ris m low xs = true → nbL 1 xs = true ∧ plL 1 xs = true ∧ ∃ is : List Int, xs = is.map D.int
  | [], _, _ => ⟨rfl, rfl, [], rfl⟩
  | x :: xs, low, h => by
    cases x <;> simp [ris] at h
    rename_i i
    obtain ⟨a, b, is, rfl⟩ := ris_nb h.2
    exact ⟨by simp [nbL, nb, a], by simp [plL, pl, b], i :: is, rfl⟩
theorem ris_len {m : Int} : ∀ {xs : List D} {low : Int}, ris m low xs = true → (xs.length : Int) ≤ max 0 (m - low)
  | [], _, _ => by simp; omega
  | x :: xs, low, h => by
    cases x <;> simp [ris] at h
    have := ris_len h.2
    rw [List.length_cons]
    omega
theorem ok_nb {k : Nat} {v : D} (h : okP k v = true) : nb 2 v = true ∧ pl 2 v = true := by
  unfold okP at h
  have asc : ∀ m : Int, m ≤ 100 → ascB m v = true → nb 2 v = true ∧ pl 2 v = true := fun m hm h => by
    cases v <;> simp [ascB] at h
    obtain ⟨a, b, _⟩ := ris_nb h
    have := ris_len h
    refine ⟨by simpa [nb] using a, ?_⟩
    simp [pl, b]; omega
  split at h
  · exact asc 5 (by decide) h
  split at h
  · exact asc 4 (by decide) h
  split at h
  · cases v <;> simp [numB] at h
    exact ⟨rfl, rfl⟩
  · split at h
    · cases v <;> simp [isNum] at h
      exact ⟨rfl, rfl⟩
    · cases h
theorem badFrom_all : ∀ {xs : List D} {k : Nat}, k + xs.length ≤ 8 → badFrom k xs = none → ∀ (i : Nat) (x : D), xs[i]? = some x → okP (k + i) x = true
  | [], _, _, _, i, x, hx => by simp at hx
  | y :: ys, k, hl, h, i, x, hx => by
    rw [List.length_cons] at hl
    cases ho : okP k y with
    | false =>
      simp [badFrom, ho] at h
      have : phF.length = 8 := rfl
      omega
    | true =>
      simp [badFrom, ho] at h
      cases i with
      | zero => simp at hx; subst hx; exact ho
      | succ i =>
        have := badFrom_all (k := k + 1) (by omega) h i x (by simpa using hx)
        rw [show k + (i + 1) = k + 1 + i from by omega]; exact this
theorem good_nb {xs : List D} (h : goodP xs) : nbL 2 xs = true ∧ plL 2 xs = true := by
  have all : ∀ x ∈ xs, nb 2 x = true ∧ pl 2 x = true := fun x hx => by
    obtain ⟨i, hi, e⟩ := List.getElem_of_mem hx
    exact ok_nb (badFrom_all (k := 0) (by rw [h.1]; decide) h.2 i x (by rw [List.getElem?_eq_getElem hi, e]))
  constructor
  · have : ∀ {ys : List D}, (∀ x ∈ ys, nb 2 x = true) → nbL 2 ys = true := by
      intro ys
      induction ys with
      | nil => intro _; rfl
      | cons y ys ih => intro h; simp [nbL, h y (by simp), ih fun x hx => h x (by simp [hx])]
    exact this fun x hx => (all x hx).1
  · exact plL_all.mpr fun x hx => (all x hx).2
end DL.K04
set_option maxHeartbeats 1000000
namespace DL.K04
open PySem PySem.Spec L2 DL
variable {W : XD} {ds : List D} {S : Sto} {Q : DK} {E : String → List D → Sto → Prop}
theorem ris_all {m : Nat} : ∀ {ks : List Nat} {low : Nat}, ks.Pairwise (· < ·) → (∀ k ∈ ks, low ≤ k) → ris m low (ks.map natD) = ks.all fun k => decide (k < m)
  | [], _, _, _ => rfl
  | k :: ks, low, hp, hl => by
    obtain ⟨h1, h2⟩ := List.pairwise_cons.mp hp
    have ih := ris_all (m := m) (ks := ks) (low := k + 1) h2 fun j hj => h1 j hj
    have := hl k (by simp)
    simp only [List.map_cons, natD, ris, List.all_cons]
    rw [← ih]
    have e : ((k + 1 : Nat) : Int) = (k : Int) + 1 := by omega
    rw [e]
    have e2 : decide ((low : Int) ≤ (k : Int) ∧ (k : Int) < (m : Int)) = decide (k < m) := by
      rw [decide_eq_decide]; omega
    rw [e2]
    first | done | rfl
theorem asc_all {m : Nat} {ks : List Nat} (hp : ks.Pairwise (· < ·)) : ascB m (.tup (ks.map natD)) = ks.all fun k => decide (k < m) := ris_all (low := 0) hp fun _ _ => Nat.zero_le _
theorem ph_ok4 {P : Ph} (h : P.Ok) : okP 4 (.tup (P.tags.map natD)) = true := by
  rw [show okP 4 (.tup (P.tags.map natD)) = ascB ((5 : Nat) : Int) (.tup (P.tags.map natD)) from by simp [okP], asc_all h.tags.1]; simpa using h.tags.2
theorem ph_ok5 {P : Ph} (h : P.Ok) : okP 5 (.tup (P.people.map natD)) = true := by
  rw [show okP 5 (.tup (P.people.map natD)) = ascB ((4 : Nat) : Int) (.tup (P.people.map natD)) from by simp [okP], asc_all h.people.1]; simpa using h.people.2
theorem ph_good {P : Ph} (h : P.Ok) : goodP P.ds := by
  refine ⟨rfl, ?_⟩
  have i0 : okP 0 (natD P.shot) = true := by have := h.shot; show decide (_ ∧ _) = true; simp; omega
  have i1 : okP 1 (natD P.stars) = true := by have := h.stars; show decide (_ ∧ _) = true; simp; omega
  have i2 : okP 2 (natD P.place) = true := by have := h.place; show decide (_ ∧ _) = true; simp; omega
  have i3 : okP 3 (natD P.owner) = true := by have := h.owner; show decide (_ ∧ _) = true; simp; omega
  have i6 : okP 6 (natD P.wd) = true := by have := h.wd; show decide (_ ∧ _) = true; simp; omega
  have i7 : okP 7 (natD P.ht) = true := by have := h.ht; show decide (_ ∧ _) = true; simp; omega
  unfold bad Ph.ds
  rw [badFrom_step i0, badFrom_step i1, badFrom_step i2, badFrom_step i3, badFrom_step (ph_ok4 h), badFrom_step (ph_ok5 h), badFrom_step i6, badFrom_step i7]
  rfl
theorem ph_nb {P : Ph} (h : P.Ok) : nbL 2 P.ds = true ∧ plL 2 P.ds = true := good_nb (ph_good h)
theorem ph_pl {P : Ph} (h : P.Ok) {k : Nat} (hk : 2 ≤ k) : plL k P.ds = true := plL_all.mpr fun x hx => pl_le (plL_all.mp (ph_nb h).2 x hx) hk
theorem ph_plT {P : Ph} (h : P.Ok) {k : Nat} (hk : 3 ≤ k) : pl k (.tup P.ds) = true := by
  obtain ⟨j, rfl⟩ : ∃ j, k = j + 1 := ⟨k - 1, by omega⟩
  have := ph_pl h (k := j) (by omega)
  have l : P.ds.length = 8 := rfl
  simp [pl, this, l]
theorem len_tup {xs : List D} {R : DK} (r : R (.int (xs.length : Nat)) S) : dLen [.tup xs] S R := by
  rw [u_len]; exact ⟨_, len_sq rfl, r⟩
theorem sem_Photo__eq__ (h : Φ_Photo__eq__ ds S Q E) : r_Photo__eq__ W (endsOf fo S Q) (startD 2 ds) S := by
  unfold Φ_Photo__eq__ at h
  split at h <;> try exact h.elim
  rename_i x o
  obtain ⟨P, rfl, hP, h⟩ := h
  rcases h with ⟨R, rfl, hR, q⟩ | ⟨hp2, q⟩
  · have ht : tgIn OWNL S R.D = some (.o "Photo") := by rfl
    simp (decide := true) [r_Photo__eq__, startD, endsOf, Φ_fields, ht]
    refine ⟨P, rfl, R, rfl, eq_nb (k := 3) (j := 3) ?_ ?_ (by decide) (by decide) rfl (.inl rfl) (.inl rfl) (ret_same ?_)⟩
    · simpa [nb] using (ph_nb hP).1
    · simpa [nb] using (ph_nb hR).1
    · simpa [eqD] using q
  · simp (decide := true) [r_Photo__eq__, startD, endsOf, tgIn_vw hp2]
    rcases pl_casesN hp2 with e2 | ⟨c2, e2⟩ | ⟨i2, e2⟩ | ⟨x2, e2, hx2⟩ | ⟨j2, ys, e2, h2, hx2, hl2⟩ | ⟨j2, ys, e2, h2, hx2, hl2⟩
    all_goals rw [e2]
    all_goals simp
    all_goals exact ret_same q
theorem sem_is_photo_of (h : Φ_is_photo_of ds S Q E) : r_is_photo_of W (endsOf fo S Q) (startD 2 ds) S := by
  unfold Φ_is_photo_of at h
  split at h <;> try exact h.elim
  rename_i x v
  obtain ⟨N, rfl, hN, h⟩ := h
  rcases h with ⟨P, rfl, hP, q⟩ | ⟨t, ht, hf, q⟩
  · have ht : tgIn OWNL S P.D = some (.o "Photo") := by rfl
    have p4 : pl 5 (.tup (P.tags.map natD)) = true := pl_le (ok_nb (ph_ok4 hP)).2 (by decide)
    have p5 : pl 5 (.tup (P.people.map natD)) = true := pl_le (ok_nb (ph_ok5 hP)).2 (by decide)
    simp only [r_is_photo_of, startD, endsOf, List.map_cons, List.map_nil, List.length_cons, List.length_nil, List.cons_append, List.nil_append, List.replicate, u_ret, u_andV, u_isi, u_varS, u_var0]
    rw [ht]
    refine ⟨true, rfl, ?_⟩
    rw [if_pos rfl]
    simp only [u_andV, u_op, u_fld, u_cb, u_cons, u_nil, u_call, u_varS, u_var0]
    show dLen [.tup (N.places.map plD)] S _
    refine len_tup ?_
    show dLt (.int P.place) (.int _) S _
    rw [u_lt]
    refine ⟨_, rfl, ?_⟩
    by_cases h1 : P.place < N.places.length
    case neg => rw [if_neg (by simp; omega)]; exact ret_same (by rwa [show P.inB N = false from by simp [Ph.inB, h1]] at q)
    rw [if_pos (by simp; omega)]
    show dLen [.tup (N.viewers.map D.str)] S _
    refine len_tup ?_
    show dLt (.int P.owner) (.int _) S _
    rw [u_lt]
    refine ⟨_, rfl, ?_⟩
    by_cases h2 : P.owner < N.viewers.length
    case neg => rw [if_neg (by simp; omega)]; exact ret_same (by rwa [show P.inB N = false from by simp [Ph.inB, h2]] at q)
    rw [if_pos (by simp; omega)]
    show dLen [.tup (N.tags.map D.str)] S _
    refine len_tup ?_
    rw [List.length_map]
    show Φ_is_ascending [.tup (P.tags.map natD), _] S _ _
    refine ⟨p4, ?_⟩
    rw [asc_all hP.tags.1]
    refine ⟨_, rfl, ?_⟩
    cases h3 : P.tags.all fun k => decide (k < N.tags.length) with
    | false => rw [if_neg (by simp)]; exact ret_same (by rwa [show P.inB N = false from by simp only [Ph.inB, h3, Bool.false_and, Bool.and_false]] at q)
    | true =>
      rw [if_pos rfl]
      show dLen [.tup (N.people.map D.str)] S _
      refine len_tup ?_
      rw [List.length_map]
      show Φ_is_ascending [.tup (P.people.map natD), _] S _ _
      refine ⟨p5, ?_⟩
      rw [asc_all hP.people.1]
      refine ret_same ?_
      rwa [show P.inB N = P.people.all fun k => decide (k < N.people.length) from by simp only [Ph.inB, h1, h2, h3, decide_true, Bool.true_and]] at q
  · have htL : tgIn OWNL S v = some t := ht
    simp only [r_is_photo_of, startD, endsOf, List.map_cons, List.map_nil, List.length_cons, List.length_nil, List.cons_append, List.nil_append, List.replicate, u_ret, u_andV, u_isi, u_varS, u_var0]
    rw [htL]
    refine ⟨false, by rw [hf], ?_⟩
    rw [if_neg (by simp)]
    exact ret_same q
theorem sem__law_some (h : Φ__law_some ds S Q E) : r__law_some W (endsOf fo S Q) (startD 3 ds) S := by
  unfold Φ__law_some at h
  split at h <;> try exact h.elim
  rename_i n m
  obtain ⟨h1, h2, hs, q⟩ := h
  simp [r__law_some, startD, endsOf, Φ__law_take]
  refine ⟨by omega, by omega, ?_⟩
  refine dLcL_inv (fun i s acc => s = S ∧ ∃ ks : List Nat, acc = ks.map natD ∧ ks.Pairwise (· < ·) ∧ (∀ k ∈ ks, k < i) ∧ ks.length ≤ i) (fun _ _ _ _ _ => trivial) (fun i x s acc N hi p nx => ?_) (fun s acc p => ?_) ⟨rfl, [], rfl, .nil, by simp, Nat.le_refl _⟩
  · obtain ⟨rfl, ks, rfl, ha, hb, hl⟩ := p
    obtain ⟨hlt, rfl⟩ := rngD_get hi
    simp [LTg.bind, wipeE, Φ_take, hs]
    intro r hr0 hr2
    by_cases hr : r = 1
    · rw [if_pos hr]
      refine ⟨by rw [sizeLine_eq]; omega, nx _ _ ⟨rfl, ks ++ [i], by simp [natD], ?_, ?_, by simp; omega⟩⟩
      · rw [List.pairwise_append]
        exact ⟨ha, by simp, fun a h b hb' => by simp at hb'; subst hb'; exact hb a h⟩
      · intro k hk
        rcases List.mem_append.mp hk with h | h
        · have := hb k h; omega
        · simp at h; omega
    · rw [if_neg hr]
      exact nx _ _ ⟨rfl, ks, rfl, ha, fun k hk => by have := hb k hk; omega, by omega⟩
  · obtain ⟨rfl, ks, rfl, ha, hb, hl⟩ := p
    rw [rngD_length] at hb hl
    refine tuple_lst (ret_same (q ks ha fun k hk => ?_))
    have := hb k hk; omega
theorem sem__law_photo (h : Φ__law_photo ds S Q E) : r__law_photo W (endsOf fo S Q) (startD 1 ds) S := by
  unfold Φ__law_photo at h
  split at h <;> try exact h.elim
  rename_i v
  obtain ⟨P, hP, sx, q⟩ := h
  simp only [r__law_photo, startD, endsOf, List.map_cons, List.map_nil, List.length_cons, List.length_nil, List.cons_append, List.nil_append, List.replicate, u_ret, u_make, u_cons, u_nil, u_op, u_cb, u_c, u_varS, u_var0]
  refine ix_sq sx rfl (ix_sq sx rfl (ix_sq sx rfl (ix_sq sx rfl (ix_sq sx rfl (ix_sq sx rfl (ix_sq sx rfl (ix_sq sx rfl ?_)))))))
  refine ⟨rfl, ph_pl hP (by decide), by simp, ?_⟩
  have hb : bad P.ds = none := (ph_good hP).2
  have hb2 : bad [natD P.shot, natD P.stars, natD P.place, natD P.owner, .tup (P.tags.map natD), .tup (P.people.map natD), natD P.wd, natD P.ht] = none := hb
  unfold made
  rw [hb2]
  refine ⟨rfl, P.D, S, ?_, ret_same q⟩
  rw [set_end]
  exact cut_inst (c := "Photo") (plL_clo (ph_nb hP).2)
end DL.K04
set_option maxHeartbeats 1000000
namespace DL.K04
open PySem PySem.Spec L2 DL
variable {W : XD} {ds : List D} {S : Sto} {Q : DK} {E : String → List D → Sto → Prop}
theorem take_nat {n : Nat} {m : Int} {R : DK} {E' : String → List D → Sto → Prop} (hs : S[n]? = some .well) (h0 : 0 < m) (h1 : m ≤ 1000000000) (r : ∀ k : Nat, (k : Int) < m → R (natD k) S) : Φ__law_take [.ref n, .int m] S R E' :=
  ⟨h0, h1, hs, fun i i0 im => by obtain ⟨k, rfl⟩ : ∃ k : Nat, i = k := ⟨i.toNat, by omega⟩; exact r k im⟩
theorem sem__law_pic (h : Φ__law_pic ds S Q E) : r__law_pic W (endsOf fo S Q) (startD 5 ds) S := by
  unfold Φ__law_pic at h
  split at h <;> try exact h.elim
  rename_i n p
  obtain ⟨N, hN, hw, hs, q⟩ := h
  have ll := hN.ll; have lv := hN.lv; have lt := hN.lt; have lp := hN.lp
  have sx := sqL_sq hs
  simp only [r__law_pic, startD, endsOf, List.map_cons, List.map_nil, List.length_cons, List.length_nil, List.cons_append, List.nil_append, List.replicate]
  show dSeq _ _ _ _ _
  rw [u_seq, u_set]
  simp only [u_op, u_lstF, u_call, u_cons, u_nil, u_varS, u_var0, u_c]
  refine take_nat hw (by decide) (by decide) fun a ha => take_nat hw (by decide) (by decide) fun b hb => ⟨sz100 (k := 4) (by decide), take_nat hw (by decide) (by decide) fun i hi => ?_⟩
  have hk : ∀ v ∈ [D.int 0, .int 9999, natD a, natD b], ∃ k : Nat, v = natD k ∧ k < 10000 := fun v hv => by
    simp at hv
    rcases hv with rfl | rfl | rfl | rfl
    · exact ⟨0, rfl, by decide⟩
    · exact ⟨9999, rfl, by decide⟩
    · exact ⟨a, rfl, by omega⟩
    · exact ⟨b, rfl, by omega⟩
  refine ix_pick (xs := [D.int 0, .int 9999, natD a, natD b]) rfl (by omega) (by simpa using hi) fun v hv => ?_
  obtain ⟨shot, rfl, hshot⟩ := hk v hv
  simp only [List.set_cons_succ, List.set_cons_zero]
  show dSeq _ _ _ _ _
  rw [u_seq, u_set]
  simp only [u_tup, u_op, u_call, u_cb, u_cons, u_nil, u_varS, u_var0, u_c]
  refine take_nat hw (by decide) (by decide) fun stars hst => ix_sq sx (v := .tup (N.places.map plD)) rfl (len_tup (take_nat hw (by simp; omega) (by simp; omega) fun place hpl => ix_sq sx (v := .tup (N.viewers.map D.str)) rfl (len_tup (take_nat hw (by simp; omega) (by simp; omega) fun owner how => ⟨sz100 (k := 4) (by decide), ?_⟩))))
  simp only [List.set_cons_succ, List.set_cons_zero]
  show dSeq _ _ _ _ _
  rw [u_seq, u_set]
  simp only [u_tup, u_op, u_call, u_cb, u_cons, u_nil, u_varS, u_var0, u_c]
  refine take_nat hw (by decide) (by decide) fun wd hwd => ?_
  simp only [natD, u_addF]
  refine take_nat hw (by decide) (by decide) fun ht hht => ?_
  simp only [natD, u_addF]
  refine ⟨sz100 (k := 2) (by decide), ?_⟩
  simp only [List.set_cons_succ, List.set_cons_zero, u_ret, u_tup, u_op, u_call, u_cb, u_cons, u_nil, u_varS, u_var0, u_c]
  refine ix_sq sx (v := .tup (N.tags.map D.str)) rfl (len_tup ⟨by simp, by simp; omega, hw, fun tags t1 t2 => ix_sq sx (v := .tup (N.people.map D.str)) rfl (len_tup ⟨by simp, by simp; omega, hw, fun people p1 p2 => ⟨sz100 (k := 2) (by decide), ?_⟩⟩)⟩)
  simp only [List.length_map] at hpl how t2 p2
  simp only [u_addtF, List.cons_append, List.nil_append]
  refine ⟨sz100 (k := 6) (by decide), sz100 (k := 8) (by decide), ret_same ?_⟩
  have e1 : (1 : Int) + (wd : Nat) = ((wd + 1 : Nat) : Int) := by omega
  have e2 : (1 : Int) + (ht : Nat) = ((ht + 1 : Nat) : Int) := by omega
  rw [e1, e2]
  refine q ⟨shot, stars, place, owner, tags, people, wd + 1, ht + 1⟩ ⟨hshot, by show stars < 6; omega, by show place < 8; omega, by show owner < 5; omega, ⟨t1, fun k hk => by have := t2 k hk; omega⟩, ⟨p1, fun k hk => by have := p2 k hk; omega⟩, ⟨by show 1 ≤ wd + 1; omega, by show wd + 1 < 10; omega⟩, ⟨by show 1 ≤ ht + 1; omega, by show ht + 1 < 10; omega⟩⟩ ?_
  simp only [Ph.inB, Bool.and_eq_true, decide_eq_true_eq, List.all_eq_true]
  exact ⟨by omega, by omega, fun k hk => by have := t2 k hk; omega, fun k hk => by have := p2 k hk; omega⟩
end DL.K04
set_option maxHeartbeats 1000000
namespace DL.K04
open PySem PySem.Spec L2 DL
variable {W : XD} {ds : List D} {S : Sto} {Q : DK} {E : String → List D → Sto → Prop}
theorem take_snoc {α : Type} {xs : List α} {i : Nat} {x : α} (h : xs[i]? = some x) : xs.take (i + 1) = xs.take i ++ [x] := by
  rw [List.take_succ, h]; rfl
theorem map_get {ks : List Nat} {i : Nat} {x : D} (h : (ks.map natD)[i]? = some x) : ∃ k, ks[i]? = some k ∧ x = natD k := by
  rw [List.getElem?_map] at h
  obtain ⟨k, h1, h2⟩ := Option.map_eq_some_iff.mp h
  exact ⟨k, h1, h2.symm⟩
theorem sem__law_fits (h : Φ__law_fits ds S Q E) : r__law_fits W (endsOf fo S Q) (startD 4 ds) S := by
  unfold Φ__law_fits at h
  split at h <;> try exact h.elim
  rename_i p v
  obtain ⟨N, P, r, hN, hP, hs, hv, q⟩ := h
  have sx := sqL_sq hs
  have vx := hv
  simp only [r__law_fits, startD, endsOf, List.map_cons, List.map_nil, List.length_cons, List.length_nil, List.cons_append, List.nil_append, List.replicate]
  show dSeq _ _ _ _ _
  rw [u_seq]
  simp only [u_for, u_any, u_op, u_varS, u_var0, u_c]
  refine ix_sq vx (v := .tup (P.tags.map natD)) (atI_nat (i := 4) rfl) (any_sq (xs := P.tags.map natD) rfl ?_)
  refine dLoop_inv (fun i e s => s = S ∧ (∃ o2 o3, e = [some p, some v, o2, o3]) ∧ ∀ k ∈ P.tags.take i, k < N.tags.length)
    (fun _ _ _ _ _ => rfl) (fun i x e s N' hi pp nx => ?_) (fun e s pp => ?_) ⟨rfl, ⟨_, _, rfl⟩, by simp⟩
  · obtain ⟨rfl, ⟨o2, o3, rfl⟩, hk⟩ := pp
    obtain ⟨k, hk1, rfl⟩ := map_get hi
    simp only [u_gname, List.set_cons_succ, List.set_cons_zero, u_if, u_test, u_op, u_cb, u_cons, u_nil, u_varS, u_var0, u_c]
    refine ix_sq sx (v := .tup (N.tags.map D.str)) rfl (len_tup ?_)
    rw [List.length_map]
    show dGe (.int k) (.int _) s _
    rw [u_ge]
    refine ⟨_, rfl, ?_⟩
    by_cases hlt : k < N.tags.length
    · rw [if_neg (by simp; omega), u_next]
      refine nx _ _ ⟨rfl, ⟨_, _, rfl⟩, fun j hj => ?_⟩
      rw [take_snoc hk1] at hj
      rcases List.mem_append.mp hj with h | h
      · exact hk j h
      · simp at h; omega
    · rw [if_pos (by simp; omega)]
      simp only [u_ret, u_c]
      refine ret_same ?_
      have : P.inB N = false := by
        have h0 : (P.tags.all fun k => decide (k < N.tags.length)) = false := by
          rw [List.all_eq_false]; exact ⟨k, List.mem_of_getElem? hk1, by simp; omega⟩
        simp [Ph.inB, h0]
      rwa [this] at q
  · obtain ⟨rfl, ⟨o2, o3, rfl⟩, hk⟩ := pp
    rw [List.length_map, List.take_length] at hk
    dsimp only
    rw [u_seq]
    simp only [u_for, u_any, u_op, u_varS, u_var0, u_c]
    refine ix_sq vx (v := .tup (P.people.map natD)) (atI_nat (i := 5) rfl) (any_sq (xs := P.people.map natD) rfl ?_)
    refine dLoop_inv (fun i e s' => s' = s ∧ (∃ o2 o3, e = [some p, some v, o2, o3]) ∧ ∀ k ∈ P.people.take i, k < N.people.length)
      (fun _ _ _ _ _ => rfl) (fun i x e s' N' hi pp nx => ?_) (fun e s' pp => ?_) ⟨rfl, ⟨_, _, rfl⟩, by simp⟩
    · obtain ⟨rfl, ⟨o2, o3, rfl⟩, hk'⟩ := pp
      obtain ⟨k, hk1, rfl⟩ := map_get hi
      simp only [u_gname, List.set_cons_succ, List.set_cons_zero, u_if, u_test, u_op, u_cb, u_cons, u_nil, u_varS, u_var0, u_c]
      refine ix_sq sx (v := .tup (N.people.map D.str)) rfl (len_tup ?_)
      rw [List.length_map]
      show dGe (.int k) (.int _) s' _
      rw [u_ge]
      refine ⟨_, rfl, ?_⟩
      by_cases hlt : k < N.people.length
      · rw [if_neg (by simp; omega), u_next]
        refine nx _ _ ⟨rfl, ⟨_, _, rfl⟩, fun j hj => ?_⟩
        rw [take_snoc hk1] at hj
        rcases List.mem_append.mp hj with h | h
        · exact hk' j h
        · simp at h; omega
      · rw [if_pos (by simp; omega)]
        simp only [u_ret, u_c]
        refine ret_same ?_
        have : P.inB N = false := by
          have h0 : (P.people.all fun k => decide (k < N.people.length)) = false := by
            rw [List.all_eq_false]; exact ⟨k, List.mem_of_getElem? hk1, by simp; omega⟩
          simp [Ph.inB, h0]
        rwa [this] at q
    · obtain ⟨rfl, ⟨o2, o3, rfl⟩, hk'⟩ := pp
      rw [List.length_map, List.take_length] at hk'
      have hb : P.inB N = (decide (P.place < N.places.length) && decide (P.owner < N.viewers.length)) := by
        have h1 : (P.tags.all fun k => decide (k < N.tags.length)) = true := by simpa using hk
        have h2 : (P.people.all fun k => decide (k < N.people.length)) = true := by simpa using hk'
        simp [Ph.inB, h1, h2]
      rw [hb] at q
      simp only [u_ret, u_andV, u_op, u_cb, u_cons, u_nil, u_varS, u_var0, u_c]
      refine ix_sq vx (v := natD P.place) (atI_nat (i := 2) rfl) (ix_sq sx (v := .tup (N.places.map plD)) rfl (len_tup ?_))
      rw [List.length_map]
      show dLt (.int P.place) (.int _) s' _
      rw [u_lt]
      refine ⟨_, rfl, ?_⟩
      by_cases h1 : P.place < N.places.length
      · rw [if_pos (by simp; omega)]
        refine ix_sq vx (v := natD P.owner) (atI_nat (i := 3) rfl) (ix_sq sx (v := .tup (N.viewers.map D.str)) rfl (len_tup ?_))
        rw [List.length_map]
        show dLt (.int P.owner) (.int _) s' _
        rw [u_lt]
        refine ret_same ?_
        have e : decide ((P.owner : Int) < (N.viewers.length : Nat)) = decide (P.owner < N.viewers.length) := by rw [decide_eq_decide]; omega
        rw [e]
        simpa [h1] using q
      · rw [if_neg (by simp; omega)]
        refine ret_same ?_
        simpa [h1] using q
end DL.K04
set_option maxHeartbeats 1000000
namespace DL.K04
open PySem PySem.Spec L2 DL
variable {W : XD} {ds : List D} {S : Sto} {Q : DK} {E : String → List D → Sto → Prop}
def tupP (P : Ph) : D := .tup P.ds
theorem mid_get {a y : Ob} {T : Sto} : (S ++ (a :: (T ++ [y])))[(S ++ a :: T).length]? = some y := by
  rw [show S ++ (a :: (T ++ [y])) = (S ++ a :: T) ++ [y] by simp]; exact get_end
theorem mid_set {a b y z : Ob} {T : Sto} : (S ++ (b :: (T ++ [y]))).set (S ++ a :: T).length z = S ++ (b :: (T ++ [z])) := by
  rw [show (S ++ a :: T).length = (S ++ b :: T).length by simp, show S ++ (b :: (T ++ [y])) = (S ++ b :: T) ++ [y] by simp, set_end]; simp
theorem mid_get2 {a b y : Ob} {T : Sto} : (S ++ (b :: (T ++ [y])))[(S ++ a :: T).length]? = some y := by
  rw [show (S ++ a :: T).length = (S ++ b :: T).length by simp]; exact mid_get
theorem fst_get {a : Ob} {T : Sto} : (S ++ a :: T)[S.length]? = some a := by simp
theorem fst_set {a b : Ob} {T : Sto} : (S ++ a :: T).set S.length b = S ++ b :: T := by
  rw [List.set_append_right _ _ (Nat.le_refl _), Nat.sub_self]; rfl
theorem bey_turn {n : Nat} {p v : D} {P : Ph} {szs tps : List D} {L : List D} {T : Sto} {o7 o8 o9 : Option D} {Dn : DEnds} {k a b : Nat} (hw : S[n]? = some .well) (hP : P.Ok) (hv : sq S v = some P.ds) (hk : k < 4) (ha : szs[k]? = some (natD a)) (hb : tps[k]? = some (natD b)) (hb8 : b ≤ 8) (hL : L.length ≤ 100)
    (x2 : 2 ≤ k → ∃ xs, P.ds[2 + k]? = some (.tup xs) ∧ xs.length ≤ 10)
    (nx0 : ∀ o7 o8 o9, Dn.nx [some (.ref n), some p, some v, some (.ref S.length), some (.lst szs), some (.lst tps), some (natD k), o7, o8, o9] (S ++ .lst L :: T))
    (nx1 : k < 2 → a < b → ∀ far o7 o8 o9 Y, a ≤ far → far < b → Dn.nx [some (.ref n), some p, some v, some (.ref S.length), some (.lst szs), some (.lst tps), some (natD k), o7, o8, o9] (S ++ .lst (L ++ [.tup (P.ds.set (2 + k) (natD far))]) :: (T ++ [Y])))
    (nx2 : 2 ≤ k → a < b → ∀ far xs o7 o8 o9 Y, P.ds[2 + k]? = some (.tup xs) → a ≤ far → far < b → Dn.nx [some (.ref n), some p, some v, some (.ref S.length), some (.lst szs), some (.lst tps), some (natD k), o7, o8, o9] (S ++ .lst (L ++ [.tup (P.ds.set (2 + k) (.tup (xs ++ [natD far])))] ++ [.tup ((P.ds.set (2 + k) (.tup (xs ++ [natD far]))).set (2 + k) (.tup [natD far]))]) :: (T ++ [Y]))) :
  (dIf (dTest (dOp dLt (dOp dIx (dVar 4) (dVar 6)) (dOp dIx (dVar 5) (dVar 6))))
  (dSeq (dSet 7 (dOp dAddF (dOp dIx (dVar 4) (dVar 6)) (dCall Φ__law_take W (dCons (dVar 0) (dCons (dOp dSub (dOp dIx (dVar 5) (dVar 6)) (dOp dIx (dVar 4) (dVar 6))) dNil)))))
  (dSeq (dSet 8 (dLcS (diAny (dVar 2)) (.nm 9) [9] dYes (dVar 9)))
  (dSeq (dIf (dTest (dOp dLt (dVar 6) (dC (.int 2))))
  (dAsg (dVar 7) (dgSub (dVar 8) (dOp dAddF (dC (.int 2)) (dVar 6))))
  (dAsg (dOp dAddF (dOp dIx (dVar 2) (dOp dAddF (dC (.int 2)) (dVar 6))) (dTup (dCons (dVar 7) dNil))) (dgSub (dVar 8) (dOp dAddF (dC (.int 2)) (dVar 6)))))
  (dSeq (dDrop (dBM "list" dAppend (dVar 3) (dCons (dCB dTuple (dCons (dVar 8) dNil)) dNil)))
  (dIf (dTest (dOp dGt (dVar 6) (dC (.int 1))))
  (dSeq (dAsg (dTup (dCons (dVar 7) dNil)) (dgSub (dVar 8) (dOp dAddF (dC (.int 2)) (dVar 6))))
  (dDrop (dBM "list" dAppend (dVar 3) (dCons (dCB dTuple (dCons (dVar 8) dNil)) dNil))))
  dNext)))))
  dNext) Dn [some (.ref n), some p, some v, some (.ref S.length), some (.lst szs), some (.lst tps), some (natD k), o7, o8, o9] (S ++ .lst L :: T) := by
  have gw : ∀ X : Sto, (S ++ X)[n]? = some .well := fun X => get_app hw
  have hv' : ∀ X : Sto, sq (S ++ X) v = some P.ds := fun X => sq_app hv
  have ixz : ∀ {X : Sto} {R : DK}, R (natD a) X → dIx (.lst szs) (natD k) X R := fun r => ix_sq rfl (atI_nat ha) r
  have ixt : ∀ {X : Sto} {R : DK}, R (natD b) X → dIx (.lst tps) (natD k) X R := fun r => ix_sq rfl (atI_nat hb) r
  have l8 : P.ds.length = 8 := rfl
  have ixn : ∀ xs : List D, xs.length = 8 → ixN xs.length ((2 : Int) + (k : Nat)) = some (2 + k) := fun xs h => by rw [h]; unfold ixN; rw [if_pos (by omega), if_pos (by omega)]; first | done | (congr 1 <;> omega)
  simp only [u_if, u_test, u_op, u_varS, u_var0]
  refine ixz (ixt ?_)
  show dLt (.int a) (.int b) _ _
  rw [u_lt]
  refine ⟨_, rfl, ?_⟩
  by_cases hab : a < b
  case neg => rw [if_neg (by simp; omega), u_next]; exact nx0 _ _ _
  rw [if_pos (by simp; omega)]
  show dSeq _ _ _ _ _
  rw [u_seq, u_set]
  simp only [u_op, u_call, u_cons, u_nil, u_varS, u_var0]
  refine ixz (ixt (ixz ?_))
  show dSub (.int b) (.int a) _ _
  rw [u_sub]
  refine take_nat (gw _) (by omega) (by omega) fun r hr => ?_
  show dAddF (.int a) (.int r) _ _
  rw [u_addF]
  obtain ⟨far, hfar, f1, f2⟩ : ∃ far : Nat, (a : Int) + (r : Nat) = (far : Nat) ∧ a ≤ far ∧ far < b := ⟨a + r, by omega, by omega, by omega⟩
  rw [hfar]
  simp only [List.set_cons_succ, List.set_cons_zero]
  show dSeq _ _ _ _ _
  rw [u_seq, u_set]
  simp only [u_lcS, u_any, u_varS, u_var0]
  refine any_sq (hv' _) (lc_map (fun x => x) (hv' _) (by rw [l8]; exact sz100 (by decide)) (fun x hx R r => ?_) ?_)
  · simp only [LTg.bind, wipeE, u_varS, u_var0, List.set_cons_succ, List.set_cons_zero]; exact r
  simp only [List.nil_append, List.map_id', List.set_cons_succ, List.set_cons_zero]
  rw [show (S ++ Ob.lst L :: T) ++ [Ob.lst P.ds] = S ++ (Ob.lst L :: (T ++ [Ob.lst P.ds])) by simp]
  show dSeq _ _ _ _ _
  rw [u_seq]
  simp only [u_if, u_test, u_op, u_varS, u_var0, u_c]
  show dLt (.int k) (.int 2) _ _
  rw [u_lt]
  refine ⟨_, rfl, ?_⟩
  -- behind the change
  by_cases h2 : k < 2
  · rw [if_pos (by simp; omega)]
    simp only [u_asg, u_varS, u_var0, u_gsub, u_op, u_c]
    show dAddF (.int 2) (.int k) _ _
    rw [u_addF]
    refine ⟨_, _, _, _, rfl, rfl, mid_get, ixn _ l8, ?_⟩
    rw [mid_set]
    show dSeq _ _ _ _ _
    rw [u_seq]
    simp only [u_drop, u_bm, u_cons, u_nil, u_cb, u_varS, u_var0]
    refine ⟨tyM_ref fst_get, tuple_sq (sqL_ref mid_get) ?_⟩
    rw [u_append]
    refine ⟨L, fst_get, sz1000 (by omega), ?_⟩
    rw [fst_set]
    simp only [u_if, u_test, u_op, u_varS, u_var0, u_c]
    show dGt (.int k) (.int 1) _ _
    rw [u_gt]
    refine ⟨_, rfl, ?_⟩
    rw [if_neg (by simp; omega), u_next]
    exact nx1 h2 hab far _ _ _ _ f1 f2
  · rw [if_neg (by simp; omega)]
    obtain ⟨xs, hxs, hxl⟩ := x2 (by omega)
    have ex : ((2 : Int) + (k : Nat)) = ((2 + k : Nat) : Int) := by omega
    simp only [u_asg, u_tup, u_cons, u_nil, u_varS, u_var0, u_op, u_c]
    show dAddF (.int 2) (.int k) _ _
    rw [u_addF, ex]
    refine ix_sq (hv' _) (atI_nat hxs) ⟨sz100 (k := 1) (by decide), ?_⟩
    rw [u_addtF]
    refine ⟨sz100 (by simp; omega), ?_⟩
    simp only [u_varS, u_var0, u_gsub, u_op, u_c]
    show dAddF (.int 2) (.int k) _ _
    rw [u_addF]
    refine ⟨_, _, _, _, rfl, rfl, mid_get, ixn _ l8, ?_⟩
    rw [mid_set]
    show dSeq _ _ _ _ _
    rw [u_seq]
    simp only [u_drop, u_bm, u_cons, u_nil, u_cb, u_varS, u_var0]
    refine ⟨tyM_ref fst_get, tuple_sq (sqL_ref mid_get) ?_⟩
    rw [u_append]
    refine ⟨L, fst_get, sz1000 (by omega), ?_⟩
    rw [fst_set]
    simp only [u_if, u_test, u_op, u_varS, u_var0, u_c]
    show dGt (.int k) (.int 1) _ _
    rw [u_gt]
    refine ⟨_, rfl, ?_⟩
    rw [if_pos (by simp; omega)]
    show dSeq _ _ _ _ _
    rw [u_seq]
    simp only [u_asg, u_tup, u_cons, u_nil, u_varS, u_var0]
    refine ⟨sz100 (k := 1) (by decide), ?_⟩
    simp only [u_varS, u_var0, u_gsub, u_op, u_c]
    show dAddF (.int 2) (.int k) _ _
    rw [u_addF]
    refine ⟨_, _, _, _, rfl, rfl, mid_get2, ixn _ (by rw [List.length_set]; exact l8), ?_⟩
    rw [mid_set]
    simp only [u_drop, u_bm, u_cons, u_nil, u_cb, u_varS, u_var0]
    refine ⟨tyM_ref fst_get, tuple_sq (sqL_ref mid_get2) ?_⟩
    rw [u_append]
    refine ⟨_, fst_get, sz1000 (by simp; omega), ?_⟩
    rw [fst_set]
    exact nx2 (by omega) hab far xs _ _ _ _ hxs f1 f2
end DL.K04
set_option maxHeartbeats 1000000
namespace DL.K04
open PySem PySem.Spec L2 DL
variable {W : XD} {ds : List D} {S : Sto} {Q : DK} {E : String → List D → Sto → Prop}
theorem ret_lst2 {T : Sto} {zs : List D} (hc : D.cloL S.length zs = true) (q : Q (.lst zs) S) : ∃ d' S'', Cut fo S (S ++ .lst zs :: T) (.ref S.length) d' S'' ∧ Q d' S'' :=
  ⟨.lst zs, S, by have := Cut.fz (fo := fo) (S := S) (S' := S ++ .lst zs :: T) (d := .ref S.length) (d' := .lst zs) kept_app (.ref (Nat.le_refl _) fst_get (frzL_clo hc)); rwa [take_app] at this, q⟩
theorem all_far {ks : List Nat} {far m : Nat} (h : m ≤ far) : ((ks ++ [far]).all fun k => decide (k < m)) = false := by
  rw [List.all_eq_false]; exact ⟨far, by simp, by simp; omega⟩
theorem pw_snoc {ks : List Nat} {far m : Nat} (hp : ks.Pairwise (· < ·)) (hk : ∀ k ∈ ks, k < m) (h : m ≤ far) : (ks ++ [far]).Pairwise (· < ·) := by
  rw [List.pairwise_append]
  exact ⟨hp, by simp, fun a ha b hb => by simp at hb; subst hb; have := hk a ha; omega⟩
theorem mem_snoc {ks : List Nat} {far m : Nat} (hk : ∀ k ∈ ks, k < m) (h : far < m) : ∀ k ∈ ks ++ [far], k < m := fun k hm => by
  rcases List.mem_append.mp hm with h1 | h1
  · exact hk k h1
  · simp at h1; omega
theorem inB_of {P : Ph} {N : Nm} (h : P.inB N = true) : P.place < N.places.length ∧ P.owner < N.viewers.length ∧ (∀ k ∈ P.tags, k < N.tags.length) ∧ ∀ k ∈ P.people, k < N.people.length := by
  simpa [Ph.inB, List.all_eq_true] using h
theorem sem__law_beyond (h : Φ__law_beyond ds S Q E) : r__law_beyond W (endsOf fo S Q) (startD 10 ds) S := by
  unfold Φ__law_beyond at h
  split at h <;> try exact h.elim
  rename_i n p v
  obtain ⟨N, P, hN, hP, hin, hw, hs, hv, q⟩ := h
  obtain ⟨i1, i2, i3, i4⟩ := inB_of hin
  have ll := hN.ll; have lv := hN.lv; have lt := hN.lt; have lp := hN.lp
  simp only [r__law_beyond, startD, endsOf, List.map_cons, List.map_nil, List.length_cons, List.length_nil, List.cons_append, List.nil_append, List.replicate]
  show dSeq _ _ _ _ _
  rw [u_seq, u_set]
  simp only [u_lstS, u_nil, List.set_cons_succ, List.set_cons_zero]
  refine ⟨Nat.zero_le _, ?_⟩
  have sx : sq (S ++ [Ob.lst []]) p = some N.ds := sqL_sq (sqL_app hs)
  show dSeq _ _ _ _ _
  rw [u_seq, u_set]
  simp only [u_lstF, u_cons, u_nil, u_cb, u_op, u_varS, u_var0, u_c]
  refine ix_sq sx (v := .tup (N.places.map plD)) rfl (len_tup (ix_sq sx (v := .tup (N.viewers.map D.str)) rfl (len_tup (ix_sq sx (v := .tup (N.tags.map D.str)) rfl (len_tup (ix_sq sx (v := .tup (N.people.map D.str)) rfl (len_tup ⟨sz100 (k := 4) (by decide), ?_⟩)))))))
  simp only [List.length_map, List.set_cons_succ, List.set_cons_zero]
  show dSeq _ _ _ _ _
  rw [u_seq, u_set]
  simp only [u_lstF, u_cons, u_nil, u_c]
  refine ⟨sz100 (k := 4) (by decide), ?_⟩
  simp only [List.set_cons_succ, List.set_cons_zero]
  show dSeq _ _ _ _ _
  rw [u_seq]
  simp only [u_for, u_rng1, u_cons, u_nil, u_c]
  refine ⟨4, rfl, by decide, by decide, ?_⟩
  refine dLoop_inv (fun i e s => ∃ (Ps : List Ph) (T : Sto), s = S ++ .lst (Ps.map tupP) :: T ∧ (∀ R ∈ Ps, R.Ok ∧ R.inB N = false) ∧ Ps.length ≤ 2 * i ∧ ∃ o6 o7 o8 o9, e = [some (.ref n), some p, some v, some (.ref S.length), some (.lst [natD N.places.length, natD N.viewers.length, natD N.tags.length, natD N.people.length]), some (.lst [natD 8, natD 5, natD 5, natD 4]), o6, o7, o8, o9])
    (fun _ _ _ _ _ => trivial) (fun i x e s N' hi pp nx => ?_) (fun e s pp => ?_) ⟨[], [], rfl, by simp, by simp, _, _, _, _, rfl⟩
  · obtain ⟨Ps, T, rfl, hR, hl, o6, o7, o8, o9, rfl⟩ := pp
    obtain ⟨hlt, rfl⟩ := rngD_get hi
    have hi4 : i < 4 := by simpa using hlt
    have hL : (Ps.map tupP).length ≤ 100 := by simp; omega
    have add1 : ∀ {R : Ph} {o6 o7 o8 o9 : Option D} {T' : Sto} {L' : List D}, L' = Ps.map tupP ++ [tupP R] → R.Ok → R.inB N = false → N' [some (.ref n), some p, some v, some (.ref S.length), some (.lst [natD N.places.length, natD N.viewers.length, natD N.tags.length, natD N.people.length]), some (.lst [natD 8, natD 5, natD 5, natD 4]), o6, o7, o8, o9] (S ++ .lst L' :: T') := fun {R o6 o7 o8 o9 T' L'} e a b => by
      subst e
      refine nx _ _ ⟨Ps ++ [R], T', by simp, fun X hX => ?_, by simp; omega, _, _, _, _, rfl⟩
      rcases List.mem_append.mp hX with h | h
      · exact hR X h
      · simp at h; subst h; exact ⟨a, b⟩
    have add2 : ∀ {R R' : Ph} {o6 o7 o8 o9 : Option D} {T' : Sto} {L' : List D}, L' = Ps.map tupP ++ [tupP R] ++ [tupP R'] → R.Ok → R.inB N = false → R'.Ok → R'.inB N = false → N' [some (.ref n), some p, some v, some (.ref S.length), some (.lst [natD N.places.length, natD N.viewers.length, natD N.tags.length, natD N.people.length]), some (.lst [natD 8, natD 5, natD 5, natD 4]), o6, o7, o8, o9] (S ++ .lst L' :: T') := fun {R R' o6 o7 o8 o9 T' L'} e a b a' b' => by
      subst e
      refine nx _ _ ⟨Ps ++ [R, R'], T', by simp, fun X hX => ?_, by simp; omega, _, _, _, _, rfl⟩
      rcases List.mem_append.mp hX with h | h
      · exact hR X h
      · simp at h
        rcases h with rfl | rfl
        · exact ⟨a, b⟩
        · exact ⟨a', b'⟩
    have same : ∀ {o6 o7 o8 o9 : Option D}, N' [some (.ref n), some p, some v, some (.ref S.length), some (.lst [natD N.places.length, natD N.viewers.length, natD N.tags.length, natD N.people.length]), some (.lst [natD 8, natD 5, natD 5, natD 4]), o6, o7, o8, o9] (S ++ .lst (Ps.map tupP) :: T) := nx _ _ ⟨Ps, T, rfl, hR, by omega, _, _, _, _, rfl⟩
    simp only [u_gname, List.set_cons_succ, List.set_cons_zero, Int.zero_add]
    have hi : i = 0 ∨ i = 1 ∨ i = 2 ∨ i = 3 := by omega
    rcases hi with rfl | rfl | rfl | rfl
    · refine bey_turn (k := 0) (a := N.places.length) (b := 8) hw hP hv (by decide) rfl rfl (by decide) hL (fun h => by omega) (fun _ _ _ => same) (fun _ _ far _ _ _ Y f1 f2 => ?_) (fun h => by omega)
      refine add1 (R := { P with place := far }) rfl ⟨hP.shot, hP.stars, f2, hP.owner, hP.tags, hP.people, hP.wd, hP.ht⟩ ?_
      simp [Ph.inB]; omega
    · refine bey_turn (k := 1) (a := N.viewers.length) (b := 5) hw hP hv (by decide) rfl rfl (by decide) hL (fun h => by omega) (fun _ _ _ => same) (fun _ _ far _ _ _ Y f1 f2 => ?_) (fun h => by omega)
      refine add1 (R := { P with owner := far }) rfl ⟨hP.shot, hP.stars, hP.place, f2, hP.tags, hP.people, hP.wd, hP.ht⟩ ?_
      simp [Ph.inB]; omega
    · refine bey_turn (k := 2) (a := N.tags.length) (b := 5) hw hP hv (by decide) rfl rfl (by decide) hL (fun _ => ⟨P.tags.map natD, rfl, ?_⟩) (fun _ _ _ => same) (fun h => by omega) (fun _ _ far xs _ _ _ Y hxs f1 f2 => ?_)
      · have := ris_len (xs := P.tags.map natD) (m := 5) (low := 0) (by have := ph_ok4 hP; simpa [okP, ascB] using this)
        omega
      · obtain rfl : P.tags.map natD = xs := by have h : some (D.tup (P.tags.map natD)) = some (.tup xs) := hxs
                                                injection h with h; injection h
        refine add2 (R := { P with tags := P.tags ++ [far] }) (R' := { P with tags := [far] }) ?_ ⟨hP.shot, hP.stars, hP.place, hP.owner, ⟨pw_snoc hP.tags.1 i3 f1, mem_snoc hP.tags.2 f2⟩, hP.people, hP.wd, hP.ht⟩ ?_ ⟨hP.shot, hP.stars, hP.place, hP.owner, ⟨by simp, by simpa using f2⟩, hP.people, hP.wd, hP.ht⟩ ?_
        · simp [tupP, Ph.ds]
        · simp only [Ph.inB, all_far f1, Bool.false_and, Bool.and_false]
        · have := all_far (ks := []) f1
          simp only [List.nil_append] at this
          simp only [Ph.inB, this, Bool.false_and, Bool.and_false]
    · refine bey_turn (k := 3) (a := N.people.length) (b := 4) hw hP hv (by decide) rfl rfl (by decide) hL (fun _ => ⟨P.people.map natD, rfl, ?_⟩) (fun _ _ _ => same) (fun h => by omega) (fun _ _ far xs _ _ _ Y hxs f1 f2 => ?_)
      · have := ris_len (xs := P.people.map natD) (m := 4) (low := 0) (by have := ph_ok5 hP; simpa [okP, ascB] using this)
        omega
      · obtain rfl : P.people.map natD = xs := by have h : some (D.tup (P.people.map natD)) = some (.tup xs) := hxs
                                                  injection h with h; injection h
        refine add2 (R := { P with people := P.people ++ [far] }) (R' := { P with people := [far] }) ?_ ⟨hP.shot, hP.stars, hP.place, hP.owner, hP.tags, ⟨pw_snoc hP.people.1 i4 f1, mem_snoc hP.people.2 f2⟩, hP.wd, hP.ht⟩ ?_ ⟨hP.shot, hP.stars, hP.place, hP.owner, hP.tags, ⟨by simp, by simpa using f2⟩, hP.wd, hP.ht⟩ ?_
        · simp [tupP, Ph.ds]
        · simp only [Ph.inB, all_far f1, Bool.and_false]
        · have := all_far (ks := []) f1
          simp only [List.nil_append] at this
          simp only [Ph.inB, this, Bool.and_false]
  · obtain ⟨Ps, T, rfl, hR, hl, o6, o7, o8, o9, rfl⟩ := pp
    simp only [u_ret, u_varS, u_var0]
    refine ret_lst2 (plL_clo (k := 3) (plL_all.mpr fun x hx => ?_)) (q Ps hR)
    obtain ⟨R, hR1, rfl⟩ := List.mem_map.mp hx
    exact ph_plT (hR R hR1).1 (by decide)
end DL.K04
set_option maxHeartbeats 1000000
namespace DL.K04
open PySem PySem.Spec L2 DL
variable {W : XD} {ds : List D} {S : Sto} {Q : DK} {E : String → List D → Sto → Prop}
theorem pl_noPhoto {k : Nat} {d : D} (h : pl k d = true) : ∃ t, tgIn OWNL S d = some t ∧ isTg t (.o "Photo") = false := by
  rw [tgIn_pl h]
  rcases pl_casesN h with rfl | ⟨b, rfl⟩ | ⟨i, rfl⟩ | ⟨s, rfl, _⟩ | ⟨j, ys, rfl, _⟩ | ⟨j, ys, rfl, _⟩ <;> exact ⟨_, rfl, rfl⟩
theorem rng_map : ∀ (n lo : Nat), rngD (lo : Int) n = (List.range' lo n).map natD
  | 0, _ => rfl
  | n + 1, lo => by
    rw [List.range'_succ, List.map_cons]
    have := rng_map n (lo + 1)
    rw [← this]
    simp [rngD, natD]
theorem rng_nat {n : Nat} : rngD 0 n = (List.range n).map natD := by
  rw [List.range_eq_range']; exact rng_map n 0
theorem is_good {N : Nm} {P : Ph} {R : DK} {E' : String → List D → Sto → Prop} (hN : N.Ok) (hP : P.Ok) (r : R (.bl (P.inB N)) S) : Φ_is_photo_of [N.D, P.D] S R E' := ⟨N, rfl, hN, .inl ⟨P, rfl, hP, r⟩⟩
theorem same_bl {b : Bool} {R : DK} {E' : String → List D → Sto → Prop} (r : R (.bl true) S) : Φ__law_same 6 [.bl b, .bl b] S R E' :=
  ⟨rfl, rfl, by rw [show eqD (vw S (.bl b)) (vw S (.bl b)) = true from eqD_refl (.bl b) 6 rfl]; exact r⟩
def edgeP (N : Nm) : Ph := ⟨9999, 5, N.places.length - 1, N.viewers.length - 1, List.range N.tags.length, List.range N.people.length, 9, 9⟩
theorem range_pw {n : Nat} : (List.range n).Pairwise (· < ·) := List.pairwise_lt_range
theorem edge_ok {N : Nm} (h : N.Ok) : (edgeP N).Ok := by
  have := h.lt; have := h.lp; have := h.ll; have := h.lv
  refine ⟨by show 9999 < 10000; decide, by show 5 < 6; decide, by simp [edgeP]; omega, by simp [edgeP]; omega, ⟨range_pw, fun k hk => ?_⟩, ⟨range_pw, fun k hk => ?_⟩, by simp [edgeP], by simp [edgeP]⟩
  · have := List.mem_range.mp hk; omega
  · have := List.mem_range.mp hk; omega
theorem edge_in {N : Nm} (h : N.Ok) : (edgeP N).inB N = true := by
  have := h.ll; have := h.lv
  simp only [edgeP, Ph.inB, Bool.and_eq_true, decide_eq_true_eq, List.all_eq_true]
  exact ⟨decide_eq_true (by omega), decide_eq_true (by omega), fun k hk => List.mem_range.mp hk, fun k hk => List.mem_range.mp hk⟩
theorem body_rest {N M : Nm} {P : Ph} {T : Sto} {w : Nat} {p o : D} {o0 o7 o8 o9 o10 o11 o12 : Option D} {Dn : DEnds} (hN : N.Ok) (hM : M.Ok) (hP : P.Ok) (hin : P.inB N = true) (hw : (S ++ T)[w]? = some .well) (hp : sqL (S ++ T) p = some N.ds) (ho : sqL (S ++ T) o = some M.ds)
    (hrt : Dn.rt = fun d S' => ∃ d' S'', Cut fo S S' d d' S'' ∧ Q d' S'') (q : Q (.bl true) S) :
  (dSeq (dSet 7 (dCall Φ__law_photo W (dCons (dVar 6) dNil)))
  (dSeq (dIf (dOr (dTest (dOp (dIs true) (dCall Φ_is_photo_of W (dCons (dVar 4) (dCons (dVar 7) dNil))) (dC (.bl true)))) (dNot (dTest (dCall (Φ__law_same 6) W (dCons (dCall Φ__law_fits W (dCons (dVar 3) (dCons (dVar 6) dNil))) (dCons (dCall Φ_is_photo_of W (dCons (dVar 5) (dCons (dVar 7) dNil))) dNil))))))
  (dRet (dC (.bl false)))
  dNext)
  (dSeq (dFor (diAny (dCall Φ__law_beyond W (dCons (dVar 1) (dCons (dVar 2) (dCons (dVar 6) dNil))))) (dgName 8)
  (dSeq (dIf (dTest (dOp (dIs true) (dCall Φ_is_photo_of W (dCons (dVar 4) (dCons (dCall Φ__law_photo W (dCons (dVar 8) dNil)) dNil))) (dC (.bl false))))
  (dRet (dC (.bl false)))
  dNext)
  (dIf (dNot (dTest (dCall (Φ__law_same 6) W (dCons (dCall Φ__law_fits W (dCons (dVar 3) (dCons (dVar 8) dNil))) (dCons (dCall Φ_is_photo_of W (dCons (dVar 5) (dCons (dCall Φ__law_photo W (dCons (dVar 8) dNil)) dNil))) dNil)))))
  (dRet (dC (.bl false)))
  dNext)))
  (dSeq (dSet 9 (dTup (dCons (dC (.int 9999)) (dCons (dC (.int 5)) (dCons (dOp dSub (dCB dLen (dCons (dOp dIx (dVar 2) (dC (.int 2))) dNil)) (dC (.int 1))) (dCons (dOp dSub (dCB dLen (dCons (dOp dIx (dVar 2) (dC (.int 3))) dNil)) (dC (.int 1))) (dCons (dTupRg (dCB dLen (dCons (dOp dIx (dVar 2) (dC (.int 0))) dNil))) (dCons (dTupRg (dCB dLen (dCons (dOp dIx (dVar 2) (dC (.int 1))) dNil))) dNil))))))))
  (dSeq (dSet 10 (dCall Φ__law_photo W (dCons (dOp dAddF (dVar 9) (dTup (dCons (dC (.int 9)) (dCons (dC (.int 9)) dNil)))) dNil)))
  (dSeq (dSet 11 (dCall Φ__law_fits W (dCons (dVar 3) (dCons (dVar 9) dNil))))
  (dSeq (dIf (dOr (dTest (dOp (dIs true) (dCallK Φ_is_photo_of W 2 [0, 1] (dCons (dVar 4) (dCons (dVar 10) dNil))) (dC (.bl true)))) (dNot (dTest (dCall (Φ__law_same 6) W (dCons (dVar 11) (dCons (dCall Φ_is_photo_of W (dCons (dVar 5) (dCons (dVar 10) dNil))) dNil))))))
  (dRet (dC (.bl false)))
  dNext)
  (dSeq (dSet 12 (dOp dIx (dLstF (dCons (dC .non) (dCons (dVar 6) (dCons (dCB dListF (dCons (dVar 6) dNil)) (dCons (dOp dIx (dVar 6) (dC (.int 0))) (dCons (dC (.str "photo")) (dCons (dVar 4) (dCons (dCall Φ__law_odd W (dCons (dVar 1) dNil)) (dCons (dTup (dCons (dVar 7) dNil)) (dCons (dLstF (dCons (dVar 7) dNil)) (dCons (dC (.bl true)) dNil))))))))))) (dCall Φ__law_take W (dCons (dVar 1) (dCons (dC (.int 10)) dNil)))))
  (dSeq (dIf (dTest (dOp (dIs true) (dCall Φ_is_photo_of W (dCons (dVar 4) (dCons (dVar 12) dNil))) (dC (.bl false))))
  (dRet (dC (.bl false)))
  dNext)
  (dRet (dAndV (dOp (dIs false) (dCall Φ_is_photo_of W (dCons (dVar 4) (dCons (dVar 7) dNil))) (dC (.bl true))) (dCall (Φ__law_same 6) W (dCons (dVar 6) (dCons (dCall Φ_fields W (dCons (dVar 7) dNil)) dNil)))))))))))))) Dn [o0, some (.ref w), some p, some o, some N.D, some M.D, some (.tup P.ds), o7, o8, o9, o10, o11, o12] (S ++ T) := by
  have ll := hN.ll; have lv := hN.lv; have lt := hN.lt; have lp := hN.lp
  generalize hX : S ++ T = X at hw hp ho
  have sx := sqL_sq hp
  show dSeq _ _ _ _ _
  rw [u_seq, u_set]
  simp only [u_call, u_cons, u_nil, u_varS, u_var0]
  refine ⟨P, hP, rfl, ?_⟩
  simp only [List.set_cons_succ, List.set_cons_zero]
  show dSeq _ _ _ _ _
  rw [u_seq]
  simp only [u_if, u_or, u_not, u_test, u_op, u_call, u_cons, u_nil, u_varS, u_var0, u_c]
  refine is_good hN hP ?_
  rw [u_isbl, hin]
  refine ⟨_, rfl, ?_⟩
  simp only [isBl, if_true, Bool.not_true, Bool.false_eq_true, if_false, u_not, u_test, u_call, u_cons, u_nil, u_varS, u_var0]
  rw [if_neg (by decide)]
  refine ⟨M, P, [natD P.wd, natD P.ht], hM, hP, ho, rfl, is_good hM hP (same_bl ⟨_, rfl, ?_⟩)⟩
  simp only [Bool.not_true, Bool.false_eq_true, if_false, u_next]
  show dSeq _ _ _ _ _
  rw [u_seq]
  simp only [u_for, u_any, u_call, u_cons, u_nil, u_varS, u_var0]
  refine ⟨N, P, hN, hP, hin, hw, hp, rfl, fun Ps hPs => any_sq (xs := Ps.map fun P => .tup P.ds) rfl ?_⟩
  refine dLoop_inv (fun i e s => s = X ∧ ∃ o8, e = [o0, some (.ref w), some p, some o, some N.D, some M.D, some (.tup P.ds), some P.D, o8, o9, o10, o11, o12])
    (fun _ _ _ _ _ => rfl) (fun i x e s N' hi pp nx => ?_) (fun e s pp => ?_) ⟨rfl, _, rfl⟩
  · obtain ⟨rfl, o8, rfl⟩ := pp
    rw [List.getElem?_map] at hi
    obtain ⟨R, hR, rfl⟩ := Option.map_eq_some_iff.mp hi
    obtain ⟨hR1, hR2⟩ := hPs R (List.mem_of_getElem? hR)
    simp only [u_gname, List.set_cons_succ, List.set_cons_zero]
    show dSeq _ _ _ _ _
    rw [u_seq]
    simp only [u_if, u_test, u_op, u_call, u_cons, u_nil, u_varS, u_var0, u_c]
    refine ⟨R, hR1, rfl, is_good hN hR1 ?_⟩
    rw [u_isbl, hR2]
    refine ⟨_, rfl, ?_⟩
    rw [if_neg (by decide)]
    simp only [u_next, u_if, u_not, u_test, u_call, u_cons, u_nil, u_varS, u_var0]
    refine ⟨M, R, [natD R.wd, natD R.ht], hM, hR1, ho, rfl, R, hR1, rfl, is_good hM hR1 (same_bl ⟨_, rfl, ?_⟩)⟩
    simp only [Bool.not_true, Bool.false_eq_true, if_false, u_next]
    exact nx _ _ ⟨rfl, _, rfl⟩
  · obtain ⟨rfl, o8, rfl⟩ := pp
    dsimp only
    rw [u_seq, u_set]
    simp only [u_tup, u_op, u_cb, u_tupRg, u_cons, u_nil, u_varS, u_var0, u_c]
    refine ix_sq sx (v := .tup (N.places.map plD)) rfl (len_tup ?_)
    rw [u_sub]
    refine ix_sq sx (v := .tup (N.viewers.map D.str)) rfl (len_tup ?_)
    rw [u_sub]
    refine ix_sq sx (v := .tup (N.tags.map D.str)) rfl (len_tup ⟨_, rfl, RgOk.of_le (Int.le_refl 0) (by simp; omega) (by decide) (by simp), ?_⟩)
    refine ix_sq sx (v := .tup (N.people.map D.str)) rfl (len_tup ⟨_, rfl, RgOk.of_le (Int.le_refl 0) (by simp; omega) (by decide) (by simp), ⟨sz100 (k := 6) (by decide), ?_⟩⟩)
    simp only [List.length_map, Int.toNat_natCast, rng_nat]
    have e1 : ((N.places.length : Nat) : Int) - 1 = ((N.places.length - 1 : Nat) : Int) := by omega
    have e2 : ((N.viewers.length : Nat) : Int) - 1 = ((N.viewers.length - 1 : Nat) : Int) := by omega
    rw [e1, e2]
    rw [show [D.int 9999, D.int 5, D.int ((N.places.length - 1 : Nat) : Int), D.int ((N.viewers.length - 1 : Nat) : Int), D.tup ((List.range N.tags.length).map natD), D.tup ((List.range N.people.length).map natD)] = (edgeP N).hd from rfl]
    have hE := edge_ok hN
    have hEi := edge_in hN
    simp only [List.set_cons_succ, List.set_cons_zero]
    show dSeq _ _ _ _ _
    rw [u_seq, u_set]
    simp only [u_call, u_tup, u_op, u_cons, u_nil, u_varS, u_var0, u_c]
    refine ⟨sz100 (k := 2) (by decide), ?_⟩
    rw [u_addtF]
    refine ⟨sz100 (k := 8) (by decide), edgeP N, hE, rfl, ?_⟩
    simp only [List.set_cons_succ, List.set_cons_zero]
    show dSeq _ _ _ _ _
    rw [u_seq, u_set]
    simp only [u_call, u_cons, u_nil, u_varS, u_var0]
    refine ⟨M, edgeP N, [], hM, hE, ho, by rw [List.append_nil]; rfl, ?_⟩
    simp only [List.set_cons_succ, List.set_cons_zero]
    show dSeq _ _ _ _ _
    rw [u_seq]
    simp only [u_if, u_or, u_not, u_test, u_op, u_call, u_callK, u_cons, u_nil, u_varS, u_var0, u_c]
    refine ⟨rfl, is_good hN hE ?_⟩
    rw [u_isbl, hEi]
    refine ⟨_, rfl, ?_⟩
    rw [if_neg (by decide)]
    refine is_good hM hE (same_bl ⟨_, rfl, ?_⟩)
    simp only [Bool.not_true, Bool.false_eq_true, if_false, u_next]
    show dSeq _ _ _ _ _
    rw [u_seq, u_set]
    simp only [u_op, u_lstF, u_tup, u_cb, u_call, u_cons, u_nil, u_varS, u_var0, u_c]
    refine list_sq rfl (ix_sq (xs := P.ds) rfl (v := natD P.shot) rfl ⟨hw, fun d hd => ⟨sz100 (k := 1) (by decide), sz100 (k := 1) (by decide), sz100 (k := 10) (by decide), take_nat hw (by decide) (by decide) fun i hi => ?_⟩⟩)
    refine ix_pick rfl (by omega) (by simpa using hi) fun v hv => ?_
    have hno : ∃ t, tgIn OWNL s v = some t ∧ isTg t (.o "Photo") = false := by
      simp only [List.mem_cons, List.not_mem_nil, or_false] at hv
      rcases hv with rfl | rfl | rfl | rfl | rfl | rfl | rfl | rfl | rfl | rfl
      · exact ⟨_, rfl, rfl⟩
      · exact ⟨_, rfl, rfl⟩
      · exact ⟨_, rfl, rfl⟩
      · exact ⟨_, rfl, rfl⟩
      · exact ⟨_, rfl, rfl⟩
      · exact ⟨_, rfl, rfl⟩
      · exact pl_noPhoto hd
      · exact ⟨_, rfl, rfl⟩
      · exact ⟨_, rfl, rfl⟩
      · exact ⟨_, rfl, rfl⟩
    obtain ⟨t, ht1, ht2⟩ := hno
    simp only [List.set_cons_succ, List.set_cons_zero]
    show dSeq _ _ _ _ _
    rw [u_seq]
    simp only [u_if, u_test, u_op, u_call, u_cons, u_nil, u_varS, u_var0, u_c]
    refine ⟨N, rfl, hN, .inr ⟨t, ht1, ht2, ?_⟩⟩
    show dIs true _ (.bl false) _ _
    rw [u_isbl]
    refine ⟨_, rfl, ?_⟩
    rw [if_neg (by decide)]
    simp only [u_next, u_ret, u_andV, u_op, u_call, u_cons, u_nil, u_varS, u_var0, u_c]
    refine is_good hN hP ?_
    rw [u_isbl, hin]
    refine ⟨_, rfl, ?_⟩
    rw [if_pos (by decide)]
    refine ⟨P, rfl, ?_⟩
    have pp := ph_plT hP (k := 6) (by decide)
    refine ⟨by rw [vw_pl pp]; exact pp, by rw [vw_pl pp]; exact pp, ?_⟩
    rw [vw_pl pp, eqD_refl _ _ pp, hrt, ← hX]
    exact ret_new rfl q
end DL.K04
set_option maxHeartbeats 1000000
namespace DL.K04
open PySem PySem.Spec L2 DL
variable {W : XD} {ds : List D} {S : Sto} {Q : DK} {E : String → List D → Sto → Prop}
theorem sem__law_body (h : Φ__law_body ds S Q E) : r__law_body W (endsOf fo S Q) (startD 13 ds) S := by
  unfold Φ__law_body at h
  split at h <;> try exact h.elim
  rename_i ns
  obtain ⟨hl, q⟩ := h
  simp only [r__law_body, startD, endsOf, List.map_cons, List.map_nil, List.length_cons, List.length_nil, List.cons_append, List.nil_append, List.replicate]
  show dSeq _ _ _ _ _
  rw [u_seq, u_set]
  simp only [u_call, u_cons, u_nil, u_c, u_varS, u_var0, List.set_cons_succ, List.set_cons_zero]
  refine ⟨by decide, by decide, hl, ?_⟩
  show dSeq _ _ _ _ _
  rw [u_seq, u_set]
  simp only [u_call, u_cons, u_nil, u_c, u_varS, u_var0, List.set_cons_succ, List.set_cons_zero]
  refine ⟨by decide, by decide, hl, ?_⟩
  refine ⟨get_end, fun N hN => ?_⟩
  show dSeq _ _ _ _ _
  rw [u_seq, u_set]
  simp only [u_call, u_cons, u_nil, u_c, u_varS, u_var0, List.set_cons_succ, List.set_cons_zero]
  refine ⟨by decide, by decide, hl, ?_⟩
  refine ⟨get_end, fun M hM => ?_⟩
  have n0 : (S ++ [Ob.well] ++ [Ob.well] ++ [Ob.lst N.ds])[(S ++ [Ob.well] ++ [Ob.well]).length]? = some (.lst N.ds) := get_end
  have hsN : ∀ T : Sto, sqL (S ++ [Ob.well] ++ [Ob.well] ++ [Ob.lst N.ds] ++ T) (.ref (S ++ [Ob.well] ++ [Ob.well]).length) = some N.ds := fun T => sqL_ref (get_app n0)
  have hsN1 : ∀ T U : Sto, sqL (S ++ [Ob.well] ++ [Ob.well] ++ [Ob.lst N.ds] ++ T ++ U) (.ref (S ++ [Ob.well] ++ [Ob.well]).length) = some N.ds := fun T U => sqL_app (hsN T)
  have m0 : (S ++ [Ob.well] ++ [Ob.well] ++ [Ob.lst N.ds] ++ [Ob.well] ++ [Ob.lst M.ds])[(S ++ [Ob.well] ++ [Ob.well] ++ [Ob.lst N.ds] ++ [Ob.well]).length]? = some (.lst M.ds) := get_end
  show dSeq _ _ _ _ _
  rw [u_seq, u_set]
  simp only [u_call, u_cons, u_nil, u_c, u_varS, u_var0, List.set_cons_succ, List.set_cons_zero]
  refine ⟨N, hN, sqL_app (hsN _), ?_⟩
  show dSeq _ _ _ _ _
  rw [u_seq, u_set]
  simp only [u_call, u_cons, u_nil, u_c, u_varS, u_var0, List.set_cons_succ, List.set_cons_zero]
  refine ⟨M, hM, sqL_ref m0, ?_⟩
  show dSeq _ _ _ _ _
  rw [u_seq, u_set]
  simp only [u_call, u_cons, u_nil, u_c, u_varS, u_var0, List.set_cons_succ, List.set_cons_zero]
  refine ⟨by decide, by decide, hl, ?_⟩
  refine ⟨N, hN, get_end, sqL_app (sqL_app (hsN _)), fun P hP hin => ?_⟩
  generalize hp : (S ++ [Ob.well] ++ [Ob.well]).length = pn at hsN hsN1
  generalize ho : (S ++ [Ob.well] ++ [Ob.well] ++ [Ob.lst N.ds] ++ [Ob.well]).length = on at m0
  rw [show S ++ [Ob.well] ++ [Ob.well] ++ [Ob.lst N.ds] ++ [Ob.well] ++ [Ob.lst M.ds] ++ [Ob.well] = S ++ ([Ob.well] ++ [Ob.well] ++ [Ob.lst N.ds] ++ [Ob.well] ++ [Ob.lst M.ds] ++ [Ob.well]) by simp]
  have hsN2 : sqL (S ++ ([Ob.well] ++ [Ob.well] ++ [Ob.lst N.ds] ++ [Ob.well] ++ [Ob.lst M.ds] ++ [Ob.well])) (.ref pn) = some N.ds := by
    have := sqL_app (T := [Ob.well]) (hsN1 [Ob.well] [Ob.lst M.ds]); simpa using this
  have hsM2 : sqL (S ++ ([Ob.well] ++ [Ob.well] ++ [Ob.lst N.ds] ++ [Ob.well] ++ [Ob.lst M.ds] ++ [Ob.well])) (.ref on) = some M.ds := by
    have := sqL_app (T := [Ob.well]) (sqL_ref m0); simpa using this
  exact body_rest hN hM hP hin (by simp) hsN2 hsM2 rfl q
end DL.K04
set_option maxHeartbeats 4000000
/-! K04: the assembly (printed by asm.py). -/
namespace DL.K04
open PySem PySem.Spec L2 L2H DL
open PyProof.Rows (envOfC)
theorem mo_is_number : MoP Φ_is_number := ⟨fun {ds S Q Q2 E E2} hq he => by unfold Φ_is_number; split <;> (repeat (first | exact id | exact hq _ _ | exact he _ _ _ | refine And.imp ?_ ?_ | refine Exists.imp (fun _ => ?_) | refine forall_imp (fun _ => ?_) | refine imp_imp_imp id ?_ | refine Or.imp ?_ ?_ | exact madeN_mono hq he | exact made_mono hq he | (refine fun h => ?_; exact h.elim) | split))⟩
theorem len_is_number {ds : List D} {S : Sto} {Q : DK} {E : String → List D → Sto → Prop} (h : Φ_is_number ds S Q E) : ds.length = 2 := by
  unfold Φ_is_number at h; split at h <;> first | rfl | exact h.elim | (simp [h.1]; done) | (obtain ⟨h, _⟩ := h; simp [h]; done) | (simp only [List.length_cons, h.1]; done)
theorem mo_is_sequence : MoP Φ_is_sequence := ⟨fun {ds S Q Q2 E E2} hq he => by unfold Φ_is_sequence; split <;> (repeat (first | exact id | exact hq _ _ | exact he _ _ _ | refine And.imp ?_ ?_ | refine Exists.imp (fun _ => ?_) | refine forall_imp (fun _ => ?_) | refine imp_imp_imp id ?_ | refine Or.imp ?_ ?_ | exact madeN_mono hq he | exact made_mono hq he | (refine fun h => ?_; exact h.elim) | split))⟩
theorem len_is_sequence {ds : List D} {S : Sto} {Q : DK} {E : String → List D → Sto → Prop} (h : Φ_is_sequence ds S Q E) : ds.length = 1 := by
  unfold Φ_is_sequence at h; split at h <;> first | rfl | exact h.elim | (simp [h.1]; done) | (obtain ⟨h, _⟩ := h; simp [h]; done) | (simp only [List.length_cons, h.1]; done)
theorem mo_is_ascending : MoP Φ_is_ascending := ⟨fun {ds S Q Q2 E E2} hq he => by unfold Φ_is_ascending; split <;> (repeat (first | exact id | exact hq _ _ | exact he _ _ _ | refine And.imp ?_ ?_ | refine Exists.imp (fun _ => ?_) | refine forall_imp (fun _ => ?_) | refine imp_imp_imp id ?_ | refine Or.imp ?_ ?_ | exact madeN_mono hq he | exact made_mono hq he | (refine fun h => ?_; exact h.elim) | split))⟩
theorem len_is_ascending {ds : List D} {S : Sto} {Q : DK} {E : String → List D → Sto → Prop} (h : Φ_is_ascending ds S Q E) : ds.length = 2 := by
  unfold Φ_is_ascending at h; split at h <;> first | rfl | exact h.elim | (simp [h.1]; done) | (obtain ⟨h, _⟩ := h; simp [h]; done) | (simp only [List.length_cons, h.1]; done)
theorem mo_is_word : MoP Φ_is_word := ⟨fun {ds S Q Q2 E E2} hq he => by unfold Φ_is_word; split <;> (repeat (first | exact id | exact hq _ _ | exact he _ _ _ | refine And.imp ?_ ?_ | refine Exists.imp (fun _ => ?_) | refine forall_imp (fun _ => ?_) | refine imp_imp_imp id ?_ | refine Or.imp ?_ ?_ | exact madeN_mono hq he | exact made_mono hq he | (refine fun h => ?_; exact h.elim) | split))⟩
theorem len_is_word {ds : List D} {S : Sto} {Q : DK} {E : String → List D → Sto → Prop} (h : Φ_is_word ds S Q E) : ds.length = 1 := by
  unfold Φ_is_word at h; split at h <;> first | rfl | exact h.elim | (simp [h.1]; done) | (obtain ⟨h, _⟩ := h; simp [h]; done) | (simp only [List.length_cons, h.1]; done)
theorem mo_word_of : MoP Φ_word_of := ⟨fun {ds S Q Q2 E E2} hq he => by unfold Φ_word_of; split <;> (repeat (first | exact id | exact hq _ _ | exact he _ _ _ | refine And.imp ?_ ?_ | refine Exists.imp (fun _ => ?_) | refine forall_imp (fun _ => ?_) | refine imp_imp_imp id ?_ | refine Or.imp ?_ ?_ | exact madeN_mono hq he | exact made_mono hq he | (refine fun h => ?_; exact h.elim) | split))⟩
theorem len_word_of {ds : List D} {S : Sto} {Q : DK} {E : String → List D → Sto → Prop} (h : Φ_word_of ds S Q E) : ds.length = 3 := by
  unfold Φ_word_of at h; split at h <;> first | rfl | exact h.elim | (simp [h.1]; done) | (obtain ⟨h, _⟩ := h; simp [h]; done) | (simp only [List.length_cons, h.1]; done)
theorem mo_wrong_place : MoP Φ_wrong_place := ⟨fun {ds S Q Q2 E E2} hq he => by unfold Φ_wrong_place; split <;> (repeat (first | exact id | exact hq _ _ | exact he _ _ _ | refine And.imp ?_ ?_ | refine Exists.imp (fun _ => ?_) | refine forall_imp (fun _ => ?_) | refine imp_imp_imp id ?_ | refine Or.imp ?_ ?_ | exact madeN_mono hq he | exact made_mono hq he | (refine fun h => ?_; exact h.elim) | split))⟩
theorem len_wrong_place {ds : List D} {S : Sto} {Q : DK} {E : String → List D → Sto → Prop} (h : Φ_wrong_place ds S Q E) : ds.length = 3 := by
  unfold Φ_wrong_place at h; split at h <;> first | rfl | exact h.elim | (simp [h.1]; done) | (obtain ⟨h, _⟩ := h; simp [h]; done) | (simp only [List.length_cons, h.1]; done)
theorem mo_Names__init__ : MoP Φ_Names__init__ := ⟨fun {ds S Q Q2 E E2} hq he => by unfold Φ_Names__init__; split <;> (repeat (first | exact id | exact hq _ _ | exact he _ _ _ | refine And.imp ?_ ?_ | refine Exists.imp (fun _ => ?_) | refine forall_imp (fun _ => ?_) | refine imp_imp_imp id ?_ | refine Or.imp ?_ ?_ | exact madeN_mono hq he | exact made_mono hq he | (refine fun h => ?_; exact h.elim) | split))⟩
theorem len_Names__init__ {ds : List D} {S : Sto} {Q : DK} {E : String → List D → Sto → Prop} (h : Φ_Names__init__ ds S Q E) : ds.length = 5 := by
  unfold Φ_Names__init__ at h; split at h <;> first | rfl | exact h.elim | (simp [h.1]; done) | (obtain ⟨h, _⟩ := h; simp [h]; done) | (simp only [List.length_cons, h.1]; done)
theorem mo_Names__eq__ : MoP Φ_Names__eq__ := ⟨fun {ds S Q Q2 E E2} hq he => by unfold Φ_Names__eq__; split <;> (repeat (first | exact id | exact hq _ _ | exact he _ _ _ | refine And.imp ?_ ?_ | refine Exists.imp (fun _ => ?_) | refine forall_imp (fun _ => ?_) | refine imp_imp_imp id ?_ | refine Or.imp ?_ ?_ | exact madeN_mono hq he | exact made_mono hq he | (refine fun h => ?_; exact h.elim) | split))⟩
theorem len_Names__eq__ {ds : List D} {S : Sto} {Q : DK} {E : String → List D → Sto → Prop} (h : Φ_Names__eq__ ds S Q E) : ds.length = 2 := by
  unfold Φ_Names__eq__ at h; split at h <;> first | rfl | exact h.elim | (simp [h.1]; done) | (obtain ⟨h, _⟩ := h; simp [h]; done) | (simp only [List.length_cons, h.1]; done)
theorem mo_is_side : MoP Φ_is_side := ⟨fun {ds S Q Q2 E E2} hq he => by unfold Φ_is_side; split <;> (repeat (first | exact id | exact hq _ _ | exact he _ _ _ | refine And.imp ?_ ?_ | refine Exists.imp (fun _ => ?_) | refine forall_imp (fun _ => ?_) | refine imp_imp_imp id ?_ | refine Or.imp ?_ ?_ | exact madeN_mono hq he | exact made_mono hq he | (refine fun h => ?_; exact h.elim) | split))⟩
theorem len_is_side {ds : List D} {S : Sto} {Q : DK} {E : String → List D → Sto → Prop} (h : Φ_is_side ds S Q E) : ds.length = 1 := by
  unfold Φ_is_side at h; split at h <;> first | rfl | exact h.elim | (simp [h.1]; done) | (obtain ⟨h, _⟩ := h; simp [h]; done) | (simp only [List.length_cons, h.1]; done)
theorem mo_is_field : MoP Φ_is_field := ⟨fun {ds S Q Q2 E E2} hq he => by unfold Φ_is_field; split <;> (repeat (first | exact id | exact hq _ _ | exact he _ _ _ | refine And.imp ?_ ?_ | refine Exists.imp (fun _ => ?_) | refine forall_imp (fun _ => ?_) | refine imp_imp_imp id ?_ | refine Or.imp ?_ ?_ | exact madeN_mono hq he | exact made_mono hq he | (refine fun h => ?_; exact h.elim) | split))⟩
theorem len_is_field {ds : List D} {S : Sto} {Q : DK} {E : String → List D → Sto → Prop} (h : Φ_is_field ds S Q E) : ds.length = 2 := by
  unfold Φ_is_field at h; split at h <;> first | rfl | exact h.elim | (simp [h.1]; done) | (obtain ⟨h, _⟩ := h; simp [h]; done) | (simp only [List.length_cons, h.1]; done)
theorem mo_Photo__init__ : MoP Φ_Photo__init__ := ⟨fun {ds S Q Q2 E E2} hq he => by unfold Φ_Photo__init__; split <;> (repeat (first | exact id | exact hq _ _ | exact he _ _ _ | refine And.imp ?_ ?_ | refine Exists.imp (fun _ => ?_) | refine forall_imp (fun _ => ?_) | refine imp_imp_imp id ?_ | refine Or.imp ?_ ?_ | exact madeN_mono hq he | exact made_mono hq he | (refine fun h => ?_; exact h.elim) | split))⟩
theorem len_Photo__init__ {ds : List D} {S : Sto} {Q : DK} {E : String → List D → Sto → Prop} (h : Φ_Photo__init__ ds S Q E) : ds.length = 9 := by
  unfold Φ_Photo__init__ at h; split at h <;> first | rfl | exact h.elim | (simp [h.1]; done) | (obtain ⟨h, _⟩ := h; simp [h]; done) | (simp only [List.length_cons, h.1]; done)
theorem mo_Photo__eq__ : MoP Φ_Photo__eq__ := ⟨fun {ds S Q Q2 E E2} hq he => by unfold Φ_Photo__eq__; split <;> (repeat (first | exact id | exact hq _ _ | exact he _ _ _ | refine And.imp ?_ ?_ | refine Exists.imp (fun _ => ?_) | refine forall_imp (fun _ => ?_) | refine imp_imp_imp id ?_ | refine Or.imp ?_ ?_ | exact madeN_mono hq he | exact made_mono hq he | (refine fun h => ?_; exact h.elim) | split))⟩
theorem len_Photo__eq__ {ds : List D} {S : Sto} {Q : DK} {E : String → List D → Sto → Prop} (h : Φ_Photo__eq__ ds S Q E) : ds.length = 2 := by
  unfold Φ_Photo__eq__ at h; split at h <;> first | rfl | exact h.elim | (simp [h.1]; done) | (obtain ⟨h, _⟩ := h; simp [h]; done) | (simp only [List.length_cons, h.1]; done)
theorem mo_fields : MoP Φ_fields := ⟨fun {ds S Q Q2 E E2} hq he => by unfold Φ_fields; split <;> (repeat (first | exact id | exact hq _ _ | exact he _ _ _ | refine And.imp ?_ ?_ | refine Exists.imp (fun _ => ?_) | refine forall_imp (fun _ => ?_) | refine imp_imp_imp id ?_ | refine Or.imp ?_ ?_ | exact madeN_mono hq he | exact made_mono hq he | (refine fun h => ?_; exact h.elim) | split))⟩
theorem len_fields {ds : List D} {S : Sto} {Q : DK} {E : String → List D → Sto → Prop} (h : Φ_fields ds S Q E) : ds.length = 1 := by
  unfold Φ_fields at h; split at h <;> first | rfl | exact h.elim | (simp [h.1]; done) | (obtain ⟨h, _⟩ := h; simp [h]; done) | (simp only [List.length_cons, h.1]; done)
theorem mo_is_photo_of : MoP Φ_is_photo_of := ⟨fun {ds S Q Q2 E E2} hq he => by unfold Φ_is_photo_of; split <;> (repeat (first | exact id | exact hq _ _ | exact he _ _ _ | refine And.imp ?_ ?_ | refine Exists.imp (fun _ => ?_) | refine forall_imp (fun _ => ?_) | refine imp_imp_imp id ?_ | refine Or.imp ?_ ?_ | exact madeN_mono hq he | exact made_mono hq he | (refine fun h => ?_; exact h.elim) | split))⟩
theorem len_is_photo_of {ds : List D} {S : Sto} {Q : DK} {E : String → List D → Sto → Prop} (h : Φ_is_photo_of ds S Q E) : ds.length = 2 := by
  unfold Φ_is_photo_of at h; split at h <;> first | rfl | exact h.elim | (simp [h.1]; done) | (obtain ⟨h, _⟩ := h; simp [h]; done) | (simp only [List.length_cons, h.1]; done)
theorem mo__law_well : MoP Φ__law_well := ⟨fun {ds S Q Q2 E E2} hq he => by unfold Φ__law_well Φ_well; split <;> (repeat (first | exact id | exact hq _ _ | exact he _ _ _ | refine And.imp ?_ ?_ | refine Exists.imp (fun _ => ?_) | refine forall_imp (fun _ => ?_) | refine imp_imp_imp id ?_ | refine Or.imp ?_ ?_ | exact madeN_mono hq he | exact made_mono hq he | (refine fun h => ?_; exact h.elim) | split))⟩
theorem len__law_well {ds : List D} {S : Sto} {Q : DK} {E : String → List D → Sto → Prop} (h : Φ__law_well ds S Q E) : ds.length = 2 := by
  unfold Φ__law_well Φ_well at h; split at h <;> first | rfl | exact h.elim | (simp [h.1]; done) | (obtain ⟨h, _⟩ := h; simp [h]; done) | (simp only [List.length_cons, h.1]; done)
theorem mo__law_same {k : Nat} : MoP (Φ__law_same k) := ⟨fun {ds S Q Q2 E E2} hq he => by unfold Φ__law_same; split <;> (repeat (first | exact id | exact hq _ _ | exact he _ _ _ | refine And.imp ?_ ?_ | refine Exists.imp (fun _ => ?_) | refine forall_imp (fun _ => ?_) | refine imp_imp_imp id ?_ | refine Or.imp ?_ ?_ | exact madeN_mono hq he | exact made_mono hq he | (refine fun h => ?_; exact h.elim) | split))⟩
theorem len__law_same {k : Nat} {ds : List D} {S : Sto} {Q : DK} {E : String → List D → Sto → Prop} (h : Φ__law_same k ds S Q E) : ds.length = 2 := by
  unfold Φ__law_same at h; split at h <;> first | rfl | exact h.elim | (simp [h.1]; done) | (obtain ⟨h, _⟩ := h; simp [h]; done) | (simp only [List.length_cons, h.1]; done)
theorem mo__law_word : MoP Φ__law_word := ⟨fun {ds S Q Q2 E E2} hq he => by unfold Φ__law_word; split <;> (repeat (first | exact id | exact hq _ _ | exact he _ _ _ | refine And.imp ?_ ?_ | refine Exists.imp (fun _ => ?_) | refine forall_imp (fun _ => ?_) | refine imp_imp_imp id ?_ | refine Or.imp ?_ ?_ | exact madeN_mono hq he | exact made_mono hq he | (refine fun h => ?_; exact h.elim) | split))⟩
theorem len__law_word {ds : List D} {S : Sto} {Q : DK} {E : String → List D → Sto → Prop} (h : Φ__law_word ds S Q E) : ds.length = 2 := by
  unfold Φ__law_word at h; split at h <;> first | rfl | exact h.elim | (simp [h.1]; done) | (obtain ⟨h, _⟩ := h; simp [h]; done) | (simp only [List.length_cons, h.1]; done)
theorem mo__law_lists : MoP Φ__law_lists := ⟨fun {ds S Q Q2 E E2} hq he => by unfold Φ__law_lists; split <;> (repeat (first | exact id | exact hq _ _ | exact he _ _ _ | refine And.imp ?_ ?_ | refine Exists.imp (fun _ => ?_) | refine forall_imp (fun _ => ?_) | refine imp_imp_imp id ?_ | refine Or.imp ?_ ?_ | exact madeN_mono hq he | exact made_mono hq he | (refine fun h => ?_; exact h.elim) | split))⟩
theorem len__law_lists {ds : List D} {S : Sto} {Q : DK} {E : String → List D → Sto → Prop} (h : Φ__law_lists ds S Q E) : ds.length = 1 := by
  unfold Φ__law_lists at h; split at h <;> first | rfl | exact h.elim | (simp [h.1]; done) | (obtain ⟨h, _⟩ := h; simp [h]; done) | (simp only [List.length_cons, h.1]; done)
theorem mo__law_made : MoP Φ__law_made := ⟨fun {ds S Q Q2 E E2} hq he => by unfold Φ__law_made; split <;> (repeat (first | exact id | exact hq _ _ | exact he _ _ _ | refine And.imp ?_ ?_ | refine Exists.imp (fun _ => ?_) | refine forall_imp (fun _ => ?_) | refine imp_imp_imp id ?_ | refine Or.imp ?_ ?_ | exact madeN_mono hq he | exact made_mono hq he | (refine fun h => ?_; exact h.elim) | split))⟩
theorem len__law_made {ds : List D} {S : Sto} {Q : DK} {E : String → List D → Sto → Prop} (h : Φ__law_made ds S Q E) : ds.length = 1 := by
  unfold Φ__law_made at h; split at h <;> first | rfl | exact h.elim | (simp [h.1]; done) | (obtain ⟨h, _⟩ := h; simp [h]; done) | (simp only [List.length_cons, h.1]; done)
theorem mo__law_some : MoP Φ__law_some := ⟨fun {ds S Q Q2 E E2} hq he => by unfold Φ__law_some; split <;> (repeat (first | exact id | exact hq _ _ | exact he _ _ _ | refine And.imp ?_ ?_ | refine Exists.imp (fun _ => ?_) | refine forall_imp (fun _ => ?_) | refine imp_imp_imp id ?_ | refine Or.imp ?_ ?_ | exact madeN_mono hq he | exact made_mono hq he | (refine fun h => ?_; exact h.elim) | split))⟩
theorem len__law_some {ds : List D} {S : Sto} {Q : DK} {E : String → List D → Sto → Prop} (h : Φ__law_some ds S Q E) : ds.length = 2 := by
  unfold Φ__law_some at h; split at h <;> first | rfl | exact h.elim | (simp [h.1]; done) | (obtain ⟨h, _⟩ := h; simp [h]; done) | (simp only [List.length_cons, h.1]; done)
theorem mo__law_pic : MoP Φ__law_pic := ⟨fun {ds S Q Q2 E E2} hq he => by unfold Φ__law_pic; split <;> (repeat (first | exact id | exact hq _ _ | exact he _ _ _ | refine And.imp ?_ ?_ | refine Exists.imp (fun _ => ?_) | refine forall_imp (fun _ => ?_) | refine imp_imp_imp id ?_ | refine Or.imp ?_ ?_ | exact madeN_mono hq he | exact made_mono hq he | (refine fun h => ?_; exact h.elim) | split))⟩
theorem len__law_pic {ds : List D} {S : Sto} {Q : DK} {E : String → List D → Sto → Prop} (h : Φ__law_pic ds S Q E) : ds.length = 2 := by
  unfold Φ__law_pic at h; split at h <;> first | rfl | exact h.elim | (simp [h.1]; done) | (obtain ⟨h, _⟩ := h; simp [h]; done) | (simp only [List.length_cons, h.1]; done)
theorem mo__law_photo : MoP Φ__law_photo := ⟨fun {ds S Q Q2 E E2} hq he => by unfold Φ__law_photo; split <;> (repeat (first | exact id | exact hq _ _ | exact he _ _ _ | refine And.imp ?_ ?_ | refine Exists.imp (fun _ => ?_) | refine forall_imp (fun _ => ?_) | refine imp_imp_imp id ?_ | refine Or.imp ?_ ?_ | exact madeN_mono hq he | exact made_mono hq he | (refine fun h => ?_; exact h.elim) | split))⟩
theorem len__law_photo {ds : List D} {S : Sto} {Q : DK} {E : String → List D → Sto → Prop} (h : Φ__law_photo ds S Q E) : ds.length = 1 := by
  unfold Φ__law_photo at h; split at h <;> first | rfl | exact h.elim | (simp [h.1]; done) | (obtain ⟨h, _⟩ := h; simp [h]; done) | (simp only [List.length_cons, h.1]; done)
theorem mo__law_odd : MoP Φ__law_odd := ⟨fun {ds S Q Q2 E E2} hq he => by unfold Φ__law_odd; split <;> (repeat (first | exact id | exact hq _ _ | exact he _ _ _ | refine And.imp ?_ ?_ | refine Exists.imp (fun _ => ?_) | refine forall_imp (fun _ => ?_) | refine imp_imp_imp id ?_ | refine Or.imp ?_ ?_ | exact madeN_mono hq he | exact made_mono hq he | (refine fun h => ?_; exact h.elim) | split))⟩
theorem len__law_odd {ds : List D} {S : Sto} {Q : DK} {E : String → List D → Sto → Prop} (h : Φ__law_odd ds S Q E) : ds.length = 1 := by
  unfold Φ__law_odd at h; split at h <;> first | rfl | exact h.elim | (simp [h.1]; done) | (obtain ⟨h, _⟩ := h; simp [h]; done) | (simp only [List.length_cons, h.1]; done)
theorem mo__law_beyond : MoP Φ__law_beyond := ⟨fun {ds S Q Q2 E E2} hq he => by unfold Φ__law_beyond; split <;> (repeat (first | exact id | exact hq _ _ | exact he _ _ _ | refine And.imp ?_ ?_ | refine Exists.imp (fun _ => ?_) | refine forall_imp (fun _ => ?_) | refine imp_imp_imp id ?_ | refine Or.imp ?_ ?_ | exact madeN_mono hq he | exact made_mono hq he | (refine fun h => ?_; exact h.elim) | split))⟩
theorem len__law_beyond {ds : List D} {S : Sto} {Q : DK} {E : String → List D → Sto → Prop} (h : Φ__law_beyond ds S Q E) : ds.length = 3 := by
  unfold Φ__law_beyond at h; split at h <;> first | rfl | exact h.elim | (simp [h.1]; done) | (obtain ⟨h, _⟩ := h; simp [h]; done) | (simp only [List.length_cons, h.1]; done)
theorem mo__law_fits : MoP Φ__law_fits := ⟨fun {ds S Q Q2 E E2} hq he => by unfold Φ__law_fits; split <;> (repeat (first | exact id | exact hq _ _ | exact he _ _ _ | refine And.imp ?_ ?_ | refine Exists.imp (fun _ => ?_) | refine forall_imp (fun _ => ?_) | refine imp_imp_imp id ?_ | refine Or.imp ?_ ?_ | exact madeN_mono hq he | exact made_mono hq he | (refine fun h => ?_; exact h.elim) | split))⟩
theorem len__law_fits {ds : List D} {S : Sto} {Q : DK} {E : String → List D → Sto → Prop} (h : Φ__law_fits ds S Q E) : ds.length = 2 := by
  unfold Φ__law_fits at h; split at h <;> first | rfl | exact h.elim | (simp [h.1]; done) | (obtain ⟨h, _⟩ := h; simp [h]; done) | (simp only [List.length_cons, h.1]; done)
theorem mo__law_body : MoP Φ__law_body := ⟨fun {ds S Q Q2 E E2} hq he => by unfold Φ__law_body; split <;> (repeat (first | exact id | exact hq _ _ | exact he _ _ _ | refine And.imp ?_ ?_ | refine Exists.imp (fun _ => ?_) | refine forall_imp (fun _ => ?_) | refine imp_imp_imp id ?_ | refine Or.imp ?_ ?_ | exact madeN_mono hq he | exact made_mono hq he | (refine fun h => ?_; exact h.elim) | split))⟩
theorem len__law_body {ds : List D} {S : Sto} {Q : DK} {E : String → List D → Sto → Prop} (h : Φ__law_body ds S Q E) : ds.length = 1 := by
  unfold Φ__law_body at h; split at h <;> first | rfl | exact h.elim | (simp [h.1]; done) | (obtain ⟨h, _⟩ := h; simp [h]; done) | (simp only [List.length_cons, h.1]; done)
theorem mo_law : MoP Φ_law := ⟨fun {ds S Q Q2 E E2} hq he => by unfold Φ_law; split <;> (repeat (first | exact id | exact hq _ _ | exact he _ _ _ | refine And.imp ?_ ?_ | refine Exists.imp (fun _ => ?_) | refine forall_imp (fun _ => ?_) | refine imp_imp_imp id ?_ | refine Or.imp ?_ ?_ | exact madeN_mono hq he | exact made_mono hq he | (refine fun h => ?_; exact h.elim) | split))⟩
theorem len_law {ds : List D} {S : Sto} {Q : DK} {E : String → List D → Sto → Prop} (h : Φ_law ds S Q E) : ds.length = 1 := by
  unfold Φ_law at h; split at h <;> first | rfl | exact h.elim | (simp [h.1]; done) | (obtain ⟨h, _⟩ := h; simp [h]; done) | (simp only [List.length_cons, h.1]; done)
def fo_eq : True := trivial
theorem tx_of {P : Program} {w : World} {K : PySem.W.Frag} {mg : Str → Option Value} {base h : Heap} (X : K.In h) (G : h.Ns mainGlobals mg) (c : SaysF fal fnl tsl w K) : Tx P w K mg base (caK K) :=
  ⟨He.free_ok X G (c.fact 0),
  He.free_ok X G (c.fact 1),
  He.free_ok X G (c.fact 2),
  He.free_ok X G (c.fact 3),
  He.free_ok X G (c.fact 4),
  He.free_ok X G (c.fact 5),
  He.free_ok X G (c.fact 6),
  He.str_ok X G (c.fact 7),
  He.free_ok X G (c.fact 8),
  He.int_ok X G (c.fact 9),
  He.free_ok X G (c.fact 10),
  ⟨_, He.glo_ok X G (c.fact 12), kd_of (c.tab 0) (c.fact 11)⟩,
  He.free_ok X G (c.fact 13),
  ⟨_, He.glo_ok X G (c.fact 15), kd_of (c.tab 1) (c.fact 14)⟩,
  clsF_of rfl (fun x hx => by simp only [List.mem_cons, List.not_mem_nil, or_false] at hx; subst hx; exact ⟨c.fact 16, c.fact 17⟩),
  clsF_of rfl (fun x hx => by simp only [List.mem_cons, List.not_mem_nil, or_false] at hx; subst hx; exact ⟨c.fact 16, c.fact 18⟩),
  clsF_of rfl (fun x hx => by simp only [List.mem_cons, List.not_mem_nil, or_false] at hx; subst hx; exact ⟨c.fact 16, c.fact 19⟩),
  clsF_of rfl (fun x hx => by simp only [List.mem_cons, List.not_mem_nil, or_false] at hx; subst hx; exact ⟨c.fact 16, c.fact 20⟩),
  (by
    obtain ⟨fd, F⟩ := c.fun_ 28
    exact xc_of (fs := ["part", "place"]) rfl (He.glo_ok X G (c.fact 22)) rfl (by decide) (c.fact 21) (F.binds fun _ _ _ _ _ _ us hl => match us, hl with | [_, _, _], _ => rfl) (ok_ex2 F ⟨rfl, rfl, rfl, by decide +kernel, rfl, by decide +kernel, by decide +kernel⟩ rfl (.inl rfl) (.inl rfl) (.inl rfl) (by decide) (by decide) (by decide) (by decide) (by decide) (by decide))),
  clsF_of rfl (fun x hx => by simp only [List.mem_cons, List.not_mem_nil, or_false] at hx; subst hx; exact ⟨c.fact 16, c.fact 17⟩),
  clsF_of rfl (fun x hx => by simp only [List.mem_cons, List.not_mem_nil, or_false] at hx; subst hx; exact ⟨c.fact 16, c.fact 18⟩),
  clsF_of rfl (fun x hx => by simp only [List.mem_cons, List.not_mem_nil, or_false] at hx; rcases hx with rfl | rfl; (· exact ⟨c.fact 16, c.fact 19⟩); (· exact ⟨c.fact 23, c.fact 24⟩)),
  clsF_of rfl (fun x hx => by simp only [List.mem_cons, List.not_mem_nil, or_false] at hx; rcases hx with rfl | rfl; (· exact ⟨c.fact 16, c.fact 20⟩); (· exact ⟨c.fact 23, c.fact 25⟩)),
  He.glo_ok X G (c.fact 26),
  He.int_ok X G (c.fact 27),
  He.int_ok X G (c.fact 28),
  He.int_ok X G (c.fact 29),
  He.int_ok X G (c.fact 30),
  He.int_ok X G (c.fact 31),
  He.int_ok X G (c.fact 32),
  He.int_ok X G (c.fact 33),
  clsF_of rfl (fun x hx => by simp only [List.mem_cons, List.not_mem_nil, or_false] at hx; subst hx; exact ⟨c.fact 23, c.fact 34⟩),
  clsF_of rfl (fun x hx => by simp only [List.mem_cons, List.not_mem_nil, or_false] at hx; subst hx; exact ⟨c.fact 23, c.fact 35⟩),
  clsF_of rfl (fun x hx => by simp only [List.mem_cons, List.not_mem_nil, or_false] at hx; subst hx; exact ⟨c.fact 23, c.fact 24⟩),
  clsF_of rfl (fun x hx => by simp only [List.mem_cons, List.not_mem_nil, or_false] at hx; subst hx; exact ⟨c.fact 23, c.fact 25⟩),
  clsF_of rfl (fun x hx => by simp only [List.mem_cons, List.not_mem_nil, or_false] at hx; subst hx; exact ⟨c.fact 23, c.fact 36⟩),
  clsF_of rfl (fun x hx => by simp only [List.mem_cons, List.not_mem_nil, or_false] at hx; subst hx; exact ⟨c.fact 23, c.fact 37⟩),
  clsF_of rfl (fun x hx => by simp only [List.mem_cons, List.not_mem_nil, or_false] at hx; subst hx; exact ⟨c.fact 23, c.fact 38⟩),
  clsF_of rfl (fun x hx => by simp only [List.mem_cons, List.not_mem_nil, or_false] at hx; subst hx; exact ⟨c.fact 23, c.fact 39⟩),
  (by
    obtain ⟨fd, F⟩ := c.fun_ 29
    exact xc_of (fs := ["part"]) rfl (He.glo_ok X G (c.fact 41)) rfl (by decide) (c.fact 40) (F.binds fun _ _ _ _ _ _ us hl => match us, hl with | [_, _], _ => rfl) (ok_ex1 F ⟨rfl, rfl, rfl, by decide +kernel, rfl, by decide +kernel, by decide +kernel⟩ rfl (.inl rfl) (.inl rfl) (by decide) (by decide) (by decide) (by decide))),
  He.glo_ok X G (c.fact 42),
  clsF_of rfl (fun x hx => by simp only [List.mem_cons, List.not_mem_nil, or_false] at hx; subst hx; exact ⟨c.fact 23, c.fact 34⟩),
  clsF_of rfl (fun x hx => by simp only [List.mem_cons, List.not_mem_nil, or_false] at hx; subst hx; exact ⟨c.fact 23, c.fact 35⟩),
  clsF_of rfl (fun x hx => by simp only [List.mem_cons, List.not_mem_nil, or_false] at hx; subst hx; exact ⟨c.fact 23, c.fact 36⟩),
  clsF_of rfl (fun x hx => by simp only [List.mem_cons, List.not_mem_nil, or_false] at hx; subst hx; exact ⟨c.fact 23, c.fact 37⟩),
  clsF_of rfl (fun x hx => by simp only [List.mem_cons, List.not_mem_nil, or_false] at hx; subst hx; exact ⟨c.fact 23, c.fact 38⟩),
  clsF_of rfl (fun x hx => by simp only [List.mem_cons, List.not_mem_nil, or_false] at hx; subst hx; exact ⟨c.fact 23, c.fact 39⟩),
  He.free_ok X G (c.fact 43),
  He.free_ok X G (c.fact 44),
  ownB_ok rfl (c.fact 45)⟩
theorem fd_is_number {P : Program} {w : World} {K : PySem.W.Frag} {mg : Str → Option Value} {base h : Heap} (X : K.In h) (G : h.Ns mainGlobals mg) (c : SaysF fal fnl tsl w K) : FD P w K mg base (GG (caK K)) "is_number" 1 ["value", "many"] Φ_is_number := by
  obtain ⟨fd, F⟩ : ∃ fd, Fun K "is_number" "is_number" s_is_number (He.fAd K ("is_number", none)) fd := c.fun_ 0
  exact fd_of F (He.glo_ok X G (c.fact 46)) sc_is_number mo_is_number (F.binds fun _ _ _ _ _ _ us hl => match us, hl with | [_, _], _ => rfl) (fun ds S Q E h => len_is_number h) (fun cdv A outer s H E hid ι0 H0 W hr tk => b_is_number (tx_of X G c) hr tk) (fun ds S Q E h => sem_is_number h)
theorem fd_is_sequence {P : Program} {w : World} {K : PySem.W.Frag} {mg : Str → Option Value} {base h : Heap} (X : K.In h) (G : h.Ns mainGlobals mg) (c : SaysF fal fnl tsl w K) : FD P w K mg base (GG (caK K)) "is_sequence" 1 ["value"] Φ_is_sequence := by
  obtain ⟨fd, F⟩ : ∃ fd, Fun K "is_sequence" "is_sequence" s_is_sequence (He.fAd K ("is_sequence", none)) fd := c.fun_ 1
  exact fd_of F (He.glo_ok X G (c.fact 47)) sc_is_sequence mo_is_sequence (F.binds fun _ _ _ _ _ _ us hl => match us, hl with | [_], _ => rfl) (fun ds S Q E h => len_is_sequence h) (fun cdv A outer s H E hid ι0 H0 W hr tk => b_is_sequence (tx_of X G c) hr tk) (fun ds S Q E h => sem_is_sequence h)
theorem fd_is_ascending {P : Program} {w : World} {K : PySem.W.Frag} {mg : Str → Option Value} {base h : Heap} (X : K.In h) (G : h.Ns mainGlobals mg) (c : SaysF fal fnl tsl w K) : FD P w K mg base (GG (caK K)) "is_ascending" 2 ["value", "many"] Φ_is_ascending := by
  obtain ⟨fd, F⟩ : ∃ fd, Fun K "is_ascending" "is_ascending" s_is_ascending (He.fAd K ("is_ascending", none)) fd := c.fun_ 2
  exact fd_of F (He.glo_ok X G (c.fact 48)) sc_is_ascending mo_is_ascending (F.binds fun _ _ _ _ _ _ us hl => match us, hl with | [_, _], _ => rfl) (fun ds S Q E h => len_is_ascending h) (fun cdv A outer s H E hid ι0 H0 W hr tk => b_is_ascending (tx_of X G c) (F_is_number := fd_is_number X G c) hr tk) (fun ds S Q E h => sem_is_ascending h)
theorem fd_is_word {P : Program} {w : World} {K : PySem.W.Frag} {mg : Str → Option Value} {base h : Heap} (X : K.In h) (G : h.Ns mainGlobals mg) (c : SaysF fal fnl tsl w K) : FD P w K mg base (GG (caK K)) "is_word" 1 ["value"] Φ_is_word := by
  obtain ⟨fd, F⟩ : ∃ fd, Fun K "is_word" "is_word" s_is_word (He.fAd K ("is_word", none)) fd := c.fun_ 3
  exact fd_of F (He.glo_ok X G (c.fact 49)) sc_is_word mo_is_word (F.binds fun _ _ _ _ _ _ us hl => match us, hl with | [_], _ => rfl) (fun ds S Q E h => len_is_word h) (fun cdv A outer s H E hid ι0 H0 W hr tk => b_is_word (tx_of X G c) hr tk) (fun ds S Q E h => sem_is_word h)
theorem fd_word_of {P : Program} {w : World} {K : PySem.W.Frag} {mg : Str → Option Value} {base h : Heap} (X : K.In h) (G : h.Ns mainGlobals mg) (c : SaysF fal fnl tsl w K) : FD P w K mg base (GG (caK K)) "word_of" 2 ["part", "row", "at"] Φ_word_of := by
  obtain ⟨fd, F⟩ : ∃ fd, Fun K "word_of" "word_of" s_word_of (He.fAd K ("word_of", none)) fd := c.fun_ 4
  exact fd_of F (He.glo_ok X G (c.fact 50)) sc_word_of mo_word_of (F.binds fun _ _ _ _ _ _ us hl => match us, hl with | [_, _, _], _ => rfl) (fun ds S Q E h => len_word_of h) (fun cdv A outer s H E hid ι0 H0 W hr tk => b_word_of (tx_of X G c) (F_is_number := fd_is_number X G c) hr tk) (fun ds S Q E h => sem_word_of h)
theorem fd_wrong_place {P : Program} {w : World} {K : PySem.W.Frag} {mg : Str → Option Value} {base h : Heap} (X : K.In h) (G : h.Ns mainGlobals mg) (c : SaysF fal fnl tsl w K) : FD P w K mg base (GG (caK K)) "wrong_place" 3 ["part", "rows", "earlier"] Φ_wrong_place := by
  obtain ⟨fd, F⟩ : ∃ fd, Fun K "wrong_place" "wrong_place" s_wrong_place (He.fAd K ("wrong_place", none)) fd := c.fun_ 5
  exact fd_of F (He.glo_ok X G (c.fact 51)) sc_wrong_place mo_wrong_place (F.binds fun _ _ _ _ _ _ us hl => match us, hl with | [_, _, _], _ => rfl) (fun ds S Q E h => len_wrong_place h) (fun cdv A outer s H E hid ι0 H0 W hr tk => b_wrong_place (tx_of X G c) (F_is_word := fd_is_word X G c) (F_word_of := fd_word_of X G c) hr tk) (fun ds S Q E h => sem_wrong_place h)
theorem cd_Names__init__ {P : Program} {w : World} {K : PySem.W.Frag} {mg : Str → Option Value} {base h : Heap} (X : K.In h) (G : h.Ns mainGlobals mg) (c : SaysF fal fnl tsl w K) : CD P w K mg base (GG (caK K)) "Names" "Names" 4 ["self", "tags", "people", "places", "viewers"] Φ_Names__init__ := by
  obtain ⟨fd, F⟩ : ∃ fd, Fun K "__init__" "Names.__init__" s_Names__init__ (He.fAd K ("Names", some "__init__")) fd := c.fun_ 6
  exact ⟨mo_Names__init__, He.glo_ok X G (c.fact 26), _, fd, He.mkr_ok (c.fact 52), F.binds fun _ _ _ _ _ _ us hl => match us, hl with | [_, _, _, _, _], _ => rfl, fun hid => fnok_of F sc_Names__init__ (fun ds S Q E h => len_Names__init__ h) (fun cdv A outer s H E hid ι0 H0 W hr tk => b_Names__init__ (tx_of X G c) (F_word_of := fd_word_of X G c) (F_wrong_place := fd_wrong_place X G c) (F_is_sequence := fd_is_sequence X G c) hr tk) (fun ds S Q E h => sem_Names__init__ h) hid⟩
theorem eq_Names__eq__ {P : Program} {w : World} {K : PySem.W.Frag} {mg : Str → Option Value} {base h : Heap} (X : K.In h) (G : h.Ns mainGlobals mg) (c : SaysF fal fnl tsl w K) : EqC P w K mg base (GG (caK K)) "Names" 1 Φ_Names__eq__ := by
  obtain ⟨fd, F⟩ : ∃ fd, Fun K "__eq__" "Names.__eq__" s_Names__eq__ (He.fAd K ("Names", some "__eq__")) fd := c.fun_ 7
  exact eqc_of rfl (c.fact 53) mo_Names__eq__ (F.binds fun _ _ _ _ _ _ us hl => match us, hl with | [_, _], _ => rfl) (fun hid => fnok_of F sc_Names__eq__ (fun ds S Q E h => len_Names__eq__ h) (fun cdv A outer s H E hid ι0 H0 W hr tk => b_Names__eq__ (tx_of X G c) hr tk) (fun ds S Q E h => sem_Names__eq__ h) hid)
theorem fd_is_side {P : Program} {w : World} {K : PySem.W.Frag} {mg : Str → Option Value} {base h : Heap} (X : K.In h) (G : h.Ns mainGlobals mg) (c : SaysF fal fnl tsl w K) : FD P w K mg base (GG (caK K)) "is_side" 2 ["value"] Φ_is_side := by
  obtain ⟨fd, F⟩ : ∃ fd, Fun K "is_side" "is_side" s_is_side (He.fAd K ("is_side", none)) fd := c.fun_ 8
  exact fd_of F (He.glo_ok X G (c.fact 54)) sc_is_side mo_is_side (F.binds fun _ _ _ _ _ _ us hl => match us, hl with | [_], _ => rfl) (fun ds S Q E h => len_is_side h) (fun cdv A outer s H E hid ι0 H0 W hr tk => b_is_side (tx_of X G c) (F_is_number := fd_is_number X G c) hr tk) (fun ds S Q E h => sem_is_side h)
theorem fd_is_field {P : Program} {w : World} {K : PySem.W.Frag} {mg : Str → Option Value} {base h : Heap} (X : K.In h) (G : h.Ns mainGlobals mg) (c : SaysF fal fnl tsl w K) : FD P w K mg base (GG (caK K)) "is_field" 3 ["field", "value"] Φ_is_field := by
  obtain ⟨fd, F⟩ : ∃ fd, Fun K "is_field" "is_field" s_is_field (He.fAd K ("is_field", none)) fd := c.fun_ 9
  exact fd_of F (He.glo_ok X G (c.fact 55)) sc_is_field mo_is_field (F.binds fun _ _ _ _ _ _ us hl => match us, hl with | [_, _], _ => rfl) (fun ds S Q E h => len_is_field h) (fun cdv A outer s H E hid ι0 H0 W hr tk => b_is_field (tx_of X G c) (F_is_number := fd_is_number X G c) (F_is_side := fd_is_side X G c) (F_is_ascending := fd_is_ascending X G c) hr tk) (fun ds S Q E h => sem_is_field h)
theorem cd_Photo__init__ {P : Program} {w : World} {K : PySem.W.Frag} {mg : Str → Option Value} {base h : Heap} (X : K.In h) (G : h.Ns mainGlobals mg) (c : SaysF fal fnl tsl w K) : CD P w K mg base (GG (caK K)) "Photo" "Photo" 4 ["self", "shot", "stars", "place", "owner", "tags", "people", "width", "height"] Φ_Photo__init__ := by
  obtain ⟨fd, F⟩ : ∃ fd, Fun K "__init__" "Photo.__init__" s_Photo__init__ (He.fAd K ("Photo", some "__init__")) fd := c.fun_ 10
  exact ⟨mo_Photo__init__, He.glo_ok X G (c.fact 42), _, fd, He.mkr_ok (c.fact 56), F.binds fun _ _ _ _ _ _ us hl => match us, hl with | [_, _, _, _, _, _, _, _, _], _ => rfl, fun hid => fnok_of F sc_Photo__init__ (fun ds S Q E h => len_Photo__init__ h) (fun cdv A outer s H E hid ι0 H0 W hr tk => b_Photo__init__ (tx_of X G c) (F_is_field := fd_is_field X G c) hr tk) (fun ds S Q E h => sem_Photo__init__ h) hid⟩
theorem fd_fields {P : Program} {w : World} {K : PySem.W.Frag} {mg : Str → Option Value} {base h : Heap} (X : K.In h) (G : h.Ns mainGlobals mg) (c : SaysF fal fnl tsl w K) : FD P w K mg base (GG (caK K)) "fields" 1 ["photo"] Φ_fields := by
  obtain ⟨fd, F⟩ : ∃ fd, Fun K "fields" "fields" s_fields (He.fAd K ("fields", none)) fd := c.fun_ 12
  exact fd_of F (He.glo_ok X G (c.fact 57)) sc_fields mo_fields (F.binds fun _ _ _ _ _ _ us hl => match us, hl with | [_], _ => rfl) (fun ds S Q E h => len_fields h) (fun cdv A outer s H E hid ι0 H0 W hr tk => b_fields (tx_of X G c) hr tk) (fun ds S Q E h => sem_fields h)
theorem eq_Photo__eq__ {P : Program} {w : World} {K : PySem.W.Frag} {mg : Str → Option Value} {base h : Heap} (X : K.In h) (G : h.Ns mainGlobals mg) (c : SaysF fal fnl tsl w K) : EqC P w K mg base (GG (caK K)) "Photo" 2 Φ_Photo__eq__ := by
  obtain ⟨fd, F⟩ : ∃ fd, Fun K "__eq__" "Photo.__eq__" s_Photo__eq__ (He.fAd K ("Photo", some "__eq__")) fd := c.fun_ 11
  exact eqc_of rfl (c.fact 58) mo_Photo__eq__ (F.binds fun _ _ _ _ _ _ us hl => match us, hl with | [_, _], _ => rfl) (fun hid => fnok_of F sc_Photo__eq__ (fun ds S Q E h => len_Photo__eq__ h) (fun cdv A outer s H E hid ι0 H0 W hr tk => b_Photo__eq__ (tx_of X G c) (F_fields := fd_fields X G c) hr tk) (fun ds S Q E h => sem_Photo__eq__ h) hid)
theorem fd_is_photo_of {P : Program} {w : World} {K : PySem.W.Frag} {mg : Str → Option Value} {base h : Heap} (X : K.In h) (G : h.Ns mainGlobals mg) (c : SaysF fal fnl tsl w K) : FD P w K mg base (GG (caK K)) "is_photo_of" 3 ["names", "value"] Φ_is_photo_of := by
  obtain ⟨fd, F⟩ : ∃ fd, Fun K "is_photo_of" "is_photo_of" s_is_photo_of (He.fAd K ("is_photo_of", none)) fd := c.fun_ 13
  exact fd_of F (He.glo_ok X G (c.fact 59)) sc_is_photo_of mo_is_photo_of (F.binds fun _ _ _ _ _ _ us hl => match us, hl with | [_, _], _ => rfl) (fun ds S Q E h => len_is_photo_of h) (fun cdv A outer s H E hid ι0 H0 W hr tk => b_is_photo_of (tx_of X G c) (F_is_ascending := fd_is_ascending X G c) hr tk) (fun ds S Q E h => sem_is_photo_of h)
theorem fdk_is_photo_of {P : Program} {w : World} {K : PySem.W.Frag} {mg : Str → Option Value} {base h : Heap} (X : K.In h) (G : h.Ns mainGlobals mg) (c : SaysF fal fnl tsl w K) : FDK P w K mg base (GG (caK K)) "is_photo_of" 3 ["names", "value"] ["names", "value"] [0, 1] Φ_is_photo_of := by
  obtain ⟨fd, F⟩ : ∃ fd, Fun K "is_photo_of" "is_photo_of" s_is_photo_of (He.fAd K ("is_photo_of", none)) fd := c.fun_ 13
  exact fdk_of F (He.glo_ok X G (c.fact 59)) mo_is_photo_of (fun kV doc pm an cdv ct us ws h1 h2 => match us, ws, h1, h2 with | [], [_, _], _, _ => rfl) (fun hid => fnok_of F sc_is_photo_of (fun ds S Q E h => len_is_photo_of h) (fun cdv A outer s H E hid ι0 H0 W hr tk => b_is_photo_of (tx_of X G c) (F_is_ascending := fd_is_ascending X G c) hr tk) (fun ds S Q E h => sem_is_photo_of h) hid)
theorem fd__law_well {P : Program} {w : World} {K : PySem.W.Frag} {mg : Str → Option Value} {base h : Heap} (X : K.In h) (G : h.Ns mainGlobals mg) (c : SaysF fal fnl tsl w K) : FD P w K mg base (GG (caK K)) "_law_well" 1 ["script", "k"] Φ__law_well := by
  obtain ⟨fd, F⟩ : ∃ fd, Fun K "_law_well" "_law_well" s__law_well (He.fAd K ("_law_well", none)) fd := c.fun_ 14
  exact fd_of F (He.glo_ok X G (c.fact 60)) sc__law_well mo__law_well (F.binds fun _ _ _ _ _ _ us hl => match us, hl with | [_, _], _ => rfl) (fun ds S Q E h => len__law_well h) (fun cdv A outer s H E hid ι0 H0 W hr tk => b__law_well (tx_of X G c) hr tk) (fun ds S Q E h => sem__law_well h)
theorem fd__law_take {P : Program} {w : World} {K : PySem.W.Frag} {mg : Str → Option Value} {base h : Heap} (X : K.In h) (G : h.Ns mainGlobals mg) (c : SaysF fal fnl tsl w K) : FD P w K mg base (GG (caK K)) "_law_take" 1 ["well", "many"] Φ__law_take := by
  obtain ⟨fd, F⟩ : ∃ fd, Fun K "_law_take" "_law_take" s__law_take (He.fAd K ("_law_take", none)) fd := c.fun_ 15
  exact fd_take (fd_of F (He.glo_ok X G (c.fact 61)) sc__law_take mo_takeR (F.binds fun _ _ _ _ _ _ us hl => match us, hl with | [_, _], _ => rfl) (fun ds S Q E h => len_takeR h) (fun cdv A outer s H E hid ι0 H0 W hr tk => b__law_take (tx_of X G c) hr tk) (fun ds S Q E h => sem__law_take h))
theorem fd__law_same {P : Program} {w : World} {K : PySem.W.Frag} {mg : Str → Option Value} {base h : Heap} (X : K.In h) (G : h.Ns mainGlobals mg) (c : SaysF fal fnl tsl w K) : ∀ k, FD P w K mg base (GG (caK K)) "_law_same" (0 + k + 1) ["due", "got"] (Φ__law_same k)
  | 0 => by
    obtain ⟨fd, F⟩ : ∃ fd, Fun K "_law_same" "_law_same" s__law_same (He.fAd K ("_law_same", none)) fd := c.fun_ 16
    exact fd_of (k := 0 + 0) F (He.glo_ok X G (c.fact 62)) sc__law_same mo__law_same (F.binds fun _ _ _ _ _ _ us hl => match us, hl with | [_, _], _ => rfl) (fun ds S Q E h => len__law_same h) (fun cdv A outer s H E hid ι0 H0 W hr tk => b__law_same (tx_of X G c) (F__law_same := (fd0 F (He.glo_ok X G (c.fact 62)) (F.binds fun _ _ _ _ _ _ us hl => match us, hl with | [_, _], _ => rfl))) hr tk) (fun ds S Q E h => sem__law_same (fun j e => by cases e) h)
  | k + 1 => by
    obtain ⟨fd, F⟩ : ∃ fd, Fun K "_law_same" "_law_same" s__law_same (He.fAd K ("_law_same", none)) fd := c.fun_ 16
    exact fd_of (k := 0 + (k + 1)) F (He.glo_ok X G (c.fact 62)) sc__law_same mo__law_same (F.binds fun _ _ _ _ _ _ us hl => match us, hl with | [_, _], _ => rfl) (fun ds S Q E h => len__law_same h) (fun cdv A outer s H E hid ι0 H0 W hr tk => b__law_same (tx_of X G c) (F__law_same := (fd__law_same X G c k)) hr tk) (fun ds S Q E h => sem__law_same (fun j e => by cases e; rfl) h)
theorem fdh__law_same {P : Program} {w : World} {K : PySem.W.Frag} {mg : Str → Option Value} {base h : Heap} (X : K.In h) (G : h.Ns mainGlobals mg) (c : SaysF fal fnl tsl w K) : ∀ k, FDH P w K mg base (GG (caK K)) "_law_same" (0 + k + 1) ["due", "got"] (Φ__law_same k)
  | 0 => by
    obtain ⟨fd, F⟩ : ∃ fd, Fun K "_law_same" "_law_same" s__law_same (He.fAd K ("_law_same", none)) fd := c.fun_ 16
    exact fdh_of (k := 0 + 0) F (He.glo_ok X G (c.fact 62)) sc__law_same mo__law_same (F.binds fun _ _ _ _ _ _ us hl => match us, hl with | [_, _], _ => rfl) (fun ds S Q E h => len__law_same h) (fun cdv A outer s H E p hid ι0 H0 hr hot => bh__law_same (tx_of X G c) (H__law_same := (fdh0 F (He.glo_ok X G (c.fact 62)) (F.binds fun _ _ _ _ _ _ us hl => match us, hl with | [_, _], _ => rfl))) hr hot) (fun ds S Q E h => sem__law_same (W := W0) (fun j e => by cases e) h)
  | k + 1 => by
    obtain ⟨fd, F⟩ : ∃ fd, Fun K "_law_same" "_law_same" s__law_same (He.fAd K ("_law_same", none)) fd := c.fun_ 16
    exact fdh_of (k := 0 + (k + 1)) F (He.glo_ok X G (c.fact 62)) sc__law_same mo__law_same (F.binds fun _ _ _ _ _ _ us hl => match us, hl with | [_, _], _ => rfl) (fun ds S Q E h => len__law_same h) (fun cdv A outer s H E p hid ι0 H0 hr hot => bh__law_same (tx_of X G c) (H__law_same := (fdh__law_same X G c k)) hr hot) (fun ds S Q E h => sem__law_same (W := W0) (fun j e => by cases e; rfl) h)
theorem fd__law_word {P : Program} {w : World} {K : PySem.W.Frag} {mg : Str → Option Value} {base h : Heap} (X : K.In h) (G : h.Ns mainGlobals mg) (c : SaysF fal fnl tsl w K) : FD P w K mg base (GG (caK K)) "_law_word" 2 ["well", "used"] Φ__law_word := by
  obtain ⟨fd, F⟩ : ∃ fd, Fun K "_law_word" "_law_word" s__law_word (He.fAd K ("_law_word", none)) fd := c.fun_ 17
  exact fd_of F (He.glo_ok X G (c.fact 63)) sc__law_word mo__law_word (F.binds fun _ _ _ _ _ _ us hl => match us, hl with | [_, _], _ => rfl) (fun ds S Q E h => len__law_word h) (fun cdv A outer s H E hid ι0 H0 W hr tk => b__law_word (tx_of X G c) (F__law_take := fd__law_take X G c) hr tk) (fun ds S Q E h => sem__law_word h)
theorem fd__law_lists {P : Program} {w : World} {K : PySem.W.Frag} {mg : Str → Option Value} {base h : Heap} (X : K.In h) (G : h.Ns mainGlobals mg) (c : SaysF fal fnl tsl w K) : FD P w K mg base (GG (caK K)) "_law_lists" 3 ["well"] Φ__law_lists := by
  obtain ⟨fd, F⟩ : ∃ fd, Fun K "_law_lists" "_law_lists" s__law_lists (He.fAd K ("_law_lists", none)) fd := c.fun_ 18
  exact fd_of F (He.glo_ok X G (c.fact 64)) sc__law_lists mo__law_lists (F.binds fun _ _ _ _ _ _ us hl => match us, hl with | [_], _ => rfl) (fun ds S Q E h => len__law_lists h) (fun cdv A outer s H E hid ι0 H0 W hr tk => b__law_lists (tx_of X G c) (F__law_take := fd__law_take X G c) (F__law_word := fd__law_word X G c) hr tk) (fun ds S Q E h => sem__law_lists h)
theorem fd__law_made {P : Program} {w : World} {K : PySem.W.Frag} {mg : Str → Option Value} {base h : Heap} (X : K.In h) (G : h.Ns mainGlobals mg) (c : SaysF fal fnl tsl w K) : FD P w K mg base (GG (caK K)) "_law_made" 6 ["lists"] Φ__law_made := by
  obtain ⟨fd, F⟩ : ∃ fd, Fun K "_law_made" "_law_made" s__law_made (He.fAd K ("_law_made", none)) fd := c.fun_ 19
  exact fd_of F (He.glo_ok X G (c.fact 65)) sc__law_made mo__law_made (F.binds fun _ _ _ _ _ _ us hl => match us, hl with | [_], _ => rfl) (fun ds S Q E h => len__law_made h) (fun cdv A outer s H E hid ι0 H0 W hr tk => b__law_made (tx_of X G c) (M_Names__init__ := cd_Names__init__ X G c) hr tk) (fun ds S Q E h => sem__law_made h)
theorem fd__law_some {P : Program} {w : World} {K : PySem.W.Frag} {mg : Str → Option Value} {base h : Heap} (X : K.In h) (G : h.Ns mainGlobals mg) (c : SaysF fal fnl tsl w K) : FD P w K mg base (GG (caK K)) "_law_some" 2 ["well", "size"] Φ__law_some := by
  obtain ⟨fd, F⟩ : ∃ fd, Fun K "_law_some" "_law_some" s__law_some (He.fAd K ("_law_some", none)) fd := c.fun_ 20
  exact fd_of F (He.glo_ok X G (c.fact 66)) sc__law_some mo__law_some (F.binds fun _ _ _ _ _ _ us hl => match us, hl with | [_, _], _ => rfl) (fun ds S Q E h => len__law_some h) (fun cdv A outer s H E hid ι0 H0 W hr tk => b__law_some (tx_of X G c) (F__law_take := fd__law_take X G c) hr tk) (fun ds S Q E h => sem__law_some h)
theorem fd__law_pic {P : Program} {w : World} {K : PySem.W.Frag} {mg : Str → Option Value} {base h : Heap} (X : K.In h) (G : h.Ns mainGlobals mg) (c : SaysF fal fnl tsl w K) : FD P w K mg base (GG (caK K)) "_law_pic" 3 ["well", "lists"] Φ__law_pic := by
  obtain ⟨fd, F⟩ : ∃ fd, Fun K "_law_pic" "_law_pic" s__law_pic (He.fAd K ("_law_pic", none)) fd := c.fun_ 21
  exact fd_of F (He.glo_ok X G (c.fact 67)) sc__law_pic mo__law_pic (F.binds fun _ _ _ _ _ _ us hl => match us, hl with | [_, _], _ => rfl) (fun ds S Q E h => len__law_pic h) (fun cdv A outer s H E hid ι0 H0 W hr tk => b__law_pic (tx_of X G c) (F__law_some := fd__law_some X G c) (F__law_take := fd__law_take X G c) hr tk) (fun ds S Q E h => sem__law_pic h)
theorem fd__law_photo {P : Program} {w : World} {K : PySem.W.Frag} {mg : Str → Option Value} {base h : Heap} (X : K.In h) (G : h.Ns mainGlobals mg) (c : SaysF fal fnl tsl w K) : FD P w K mg base (GG (caK K)) "_law_photo" 6 ["pic"] Φ__law_photo := by
  obtain ⟨fd, F⟩ : ∃ fd, Fun K "_law_photo" "_law_photo" s__law_photo (He.fAd K ("_law_photo", none)) fd := c.fun_ 22
  exact fd_of F (He.glo_ok X G (c.fact 68)) sc__law_photo mo__law_photo (F.binds fun _ _ _ _ _ _ us hl => match us, hl with | [_], _ => rfl) (fun ds S Q E h => len__law_photo h) (fun cdv A outer s H E hid ι0 H0 W hr tk => b__law_photo (tx_of X G c) (M_Photo__init__ := cd_Photo__init__ X G c) hr tk) (fun ds S Q E h => sem__law_photo h)
theorem fd__law_odd {P : Program} {w : World} {K : PySem.W.Frag} {mg : Str → Option Value} {base h : Heap} (X : K.In h) (G : h.Ns mainGlobals mg) (c : SaysF fal fnl tsl w K) : FD P w K mg base (GG (caK K)) "_law_odd" 2 ["well"] Φ__law_odd := by
  obtain ⟨fd, F⟩ : ∃ fd, Fun K "_law_odd" "_law_odd" s__law_odd (He.fAd K ("_law_odd", none)) fd := c.fun_ 23
  exact fd_of F (He.glo_ok X G (c.fact 69)) sc__law_odd mo__law_odd (F.binds fun _ _ _ _ _ _ us hl => match us, hl with | [_], _ => rfl) (fun ds S Q E h => len__law_odd h) (fun cdv A outer s H E hid ι0 H0 W hr tk => b__law_odd (tx_of X G c) (F__law_take := fd__law_take X G c) hr tk) (fun ds S Q E h => sem__law_odd h)
theorem fd__law_beyond {P : Program} {w : World} {K : PySem.W.Frag} {mg : Str → Option Value} {base h : Heap} (X : K.In h) (G : h.Ns mainGlobals mg) (c : SaysF fal fnl tsl w K) : FD P w K mg base (GG (caK K)) "_law_beyond" 2 ["well", "lists", "pic"] Φ__law_beyond := by
  obtain ⟨fd, F⟩ : ∃ fd, Fun K "_law_beyond" "_law_beyond" s__law_beyond (He.fAd K ("_law_beyond", none)) fd := c.fun_ 24
  exact fd_of F (He.glo_ok X G (c.fact 70)) sc__law_beyond mo__law_beyond (F.binds fun _ _ _ _ _ _ us hl => match us, hl with | [_, _, _], _ => rfl) (fun ds S Q E h => len__law_beyond h) (fun cdv A outer s H E hid ι0 H0 W hr tk => b__law_beyond (tx_of X G c) (F__law_take := fd__law_take X G c) hr tk) (fun ds S Q E h => sem__law_beyond h)
theorem fd__law_fits {P : Program} {w : World} {K : PySem.W.Frag} {mg : Str → Option Value} {base h : Heap} (X : K.In h) (G : h.Ns mainGlobals mg) (c : SaysF fal fnl tsl w K) : FD P w K mg base (GG (caK K)) "_law_fits" 1 ["lists", "pic"] Φ__law_fits := by
  obtain ⟨fd, F⟩ : ∃ fd, Fun K "_law_fits" "_law_fits" s__law_fits (He.fAd K ("_law_fits", none)) fd := c.fun_ 25
  exact fd_of F (He.glo_ok X G (c.fact 71)) sc__law_fits mo__law_fits (F.binds fun _ _ _ _ _ _ us hl => match us, hl with | [_, _], _ => rfl) (fun ds S Q E h => len__law_fits h) (fun cdv A outer s H E hid ι0 H0 W hr tk => b__law_fits (tx_of X G c) hr tk) (fun ds S Q E h => sem__law_fits h)
theorem fd__law_body {P : Program} {w : World} {K : PySem.W.Frag} {mg : Str → Option Value} {base h : Heap} (X : K.In h) (G : h.Ns mainGlobals mg) (c : SaysF fal fnl tsl w K) : FD P w K mg base (GG (caK K)) "_law_body" 8 ["script"] Φ__law_body := by
  obtain ⟨fd, F⟩ : ∃ fd, Fun K "_law_body" "_law_body" s__law_body (He.fAd K ("_law_body", none)) fd := c.fun_ 26
  exact fd_of F (He.glo_ok X G (c.fact 72)) sc__law_body mo__law_body (F.binds fun _ _ _ _ _ _ us hl => match us, hl with | [_], _ => rfl) (fun ds S Q E h => len__law_body h) (fun cdv A outer s H E hid ι0 H0 W hr tk => b__law_body (tx_of X G c) (F__law_same := fd__law_same X G c 6) (F_fields := fd_fields X G c) (F_is_photo_of := fd_is_photo_of X G c) (F__law_take := fd__law_take X G c) (F__law_odd := fd__law_odd X G c) (FK_is_photo_of := fdk_is_photo_of X G c) (F__law_fits := fd__law_fits X G c) (F__law_photo := fd__law_photo X G c) (F__law_beyond := fd__law_beyond X G c) (F__law_pic := fd__law_pic X G c) (F__law_well := fd__law_well X G c) (F__law_made := fd__law_made X G c) (F__law_lists := fd__law_lists X G c) hr tk) (fun ds S Q E h => sem__law_body h)
theorem fd_law {P : Program} {w : World} {K : PySem.W.Frag} {mg : Str → Option Value} {base h : Heap} (X : K.In h) (G : h.Ns mainGlobals mg) (c : SaysF fal fnl tsl w K) : FD P w K mg base (GG (caK K)) "law" 9 ["script"] Φ_law := by
  obtain ⟨fd, F⟩ : ∃ fd, Fun K "law" "law" s_law (He.fAd K ("law", none)) fd := c.fun_ 27
  exact fd_of F (He.glo_ok X G (c.fact 73)) sc_law mo_law (F.binds fun _ _ _ _ _ _ us hl => match us, hl with | [_], _ => rfl) (fun ds S Q E h => len_law h) (fun cdv A outer s H E hid ι0 H0 W hr tk => b_law (tx_of X G c) (F__law_body := fd__law_body X G c) hr tk) (fun ds S Q E h => sem_law h)
theorem facts {P : Program} {w : World} {K : PySem.W.Frag} {h : Heap} {mg : Str → Option Value} {f : Addr} (X : K.In h) (G : h.Ns mainGlobals mg) (c : SaysF fal fnl tsl w K) (hfa : mg ("law" : Str) = some (.ref f)) :
    ∃ fd : FuncData, (∀ (s : Shared) (u : Value), BindsTo s fd ⟨[u], []⟩ [("script", u)]) ∧ ∀ base : Heap, K.In base → base.Ns mainGlobals mg → FnOk P w K mg base (L2N.CX P w) 9 f fd ["script"] (lSp K (GG (caK K)) Φ_law) := by
  obtain ⟨fd, F⟩ := c.fun_ 27
  have e := hfa.symm.trans (He.glo_ok X G (c.fact 73))
  cases e
  have b : Binds K fd ["script"] [] := F.binds fun _ _ _ _ _ _ us hl => match us, hl with | [_], _ => rfl
  refine ⟨fd, fun s u => ?_, fun base _ _ => ?_⟩
  · obtain ⟨oc, od, kV, doc, pm, an, cdv, ct, osl, rfl, lk, hcd⟩ := F.ex
    exact .of_eq rfl
  · exact fnok_of F sc_law (fun ds S Q E h => len_law h) (fun cdv A outer s H E hid ι0 H0 W hr tk => b_law (tx_of X G c) (F__law_body := fd__law_body X G c) hr tk) (fun ds S Q E h => sem_law h) []
end DL.K04
open PySem PySem.W PySem.Calls PyProof.Rows
theorem PySem.Challenge.cw_keptlight_k04_photos_of_some_names_holds : PySem.Challenge.rw_keptlight_k04_photos_of_some_names.Holds := by
  w_on; o_law
  refine HandSHeadRun.head_any (r := OpenLaw.row PySem.Challenge.rw_keptlight_k04_photos_of_some_names) (q := view (OpenLaw.row PySem.Challenge.rw_keptlight_k04_photos_of_some_names).prog [43]) (H := DL.K04.hk) (ob := DL.K04.ob) (M := 6000) (loose := DL.K04.looseL) (d := HandSHeadRun.topDef (OpenLaw.row PySem.Challenge.rw_keptlight_k04_photos_of_some_names).prog 43) (kwd := []) DL.K04.ob_eq
    (by kernel_rfl) (fun s => by kernel_rfl) DL.K04.run (by kernel_rfl) (by kernel_rfl) (by kernel_rfl) (by rfl) (by first | assumption | decide +kernel) (by decide +kernel) ⟨rfl, rfl, rfl, rfl, rfl, by decide +kernel⟩ ?hw ?hc
  case hw => w_witness2
  case hc =>
    refine DL.walk_ofN (l := PySem.Challenge.rw_keptlight_k04_photos_of_some_names) (n := 63) (k := 9) (x := "script") rfl (by decide) (by kernel_rfl) ⟨rfl, by decide, by decide⟩ ?F
    intro w mg fa h Y G hmg0
    obtain ⟨K, KX, c⟩ := Y
    have hmg : mg ("law" : PySem.Str) = some (.ref fa) := by
      have e : (HandSHeadRun.topDef (OpenLaw.row PySem.Challenge.rw_keptlight_k04_photos_of_some_names).prog 43).name = ("law" : PySem.Str) := by kernel_rfl
      rw [← e]
      exact hmg0
    obtain ⟨fd, hb, hF⟩ := DL.K04.facts (P := (PySem.Challenge.rw_keptlight_k04_photos_of_some_names).prog) (w := w) KX G c hmg
    exact ⟨K, fd, DL.lSp K (DL.K04.GG (DL.caK K)) DL.K04.Φ_law, KX, hb, fun H a ns hl hO hS => DL.law_in rfl hO hS (by show ns.length ≤ 1000 ∧ _; exact ⟨by omega, fun v H' ι' _ _ r => r.bl_inv⟩), hF⟩
