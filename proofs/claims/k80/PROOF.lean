import PyProof.Rows.All
import HandS.ForExc
import HandS.Comp
import HandS.Iter
import HandS.Flow
import HandS.Zip
import HandS.TupAny
import HandS.TupMul
import HandS.IsInst
import HandS.OwnEq
import HandS.TupSets
import HandS.Sort
import HandS.Wide
import KE.KDictKeyed
import KE.GoesEnum
import KE.KTupSum
import HandS.Codes
import KE.KDictDisplayH
import PySem.Challenge.RW_clearhall_k80_whole_rows_that_part_kinds
set_option Elab.async false
set_option linter.all false
set_option maxRecDepth 100000
set_option maxHeartbeats 4000000
/-! DV1: values told as deep data over the hand layer: D, what a value denotes (Dn), owned objects (O), the state (Sta), and the judgements RE, RT, RA, RN, RI, RG, RS. -/
namespace DV
open PySem PySem.Spec PyProof.Rows L2

/-- deep data -/
inductive D where
  | non | bl (b : Bool) | int (i : Int) | str (x : Str)
  | tup (ds : List D) | lst (ds : List D) | fls (ds : List D) | ins (C : Addr) (fs : List (Str × D)) | ptr (a : Addr) | ty (n : String)

/-- an owned object -/
inductive O where
  | lst (ds : List D)
  | ins (C : Addr) (fs : List (Str × D))
  | raw (o : HO)
  /-- a dict whose keys are nested tuples -/
  | dkn (P : Program) (w : World) (kvs : List (NestedKey × D))
mutual
/-- a nested key as data -/
def keyD : NestedKey → D
  | .none => .non
  | .num i => .int i
  | .text x => .str x
  | .tup ks => .tup (keyDs ks)
def keyDs : List NestedKey → List D
  | [] => []
  | k :: ks => keyD k :: keyDs ks
end
/-- the dict at p, its entries with the keys' addresses -/
def DKf (P : Program) (w : World) (p : Addr) (xs : List (NestedKey × Addr × V)) (h : Heap) : Prop := (p == sysModules) = false ∧ ∃ us : List (NestedKey × Addr × Value),
  Paired (fun (x : NestedKey × Addr × V) (u : NestedKey × Addr × Value) => x.1 = u.1 ∧ x.2.1 = u.2.1 ∧ RelV x.2.2 u.2.2) xs us ∧
  ∃ o es ep, h.get? p = some o ∧ o.ExactDict ∧ o.data = .dict es ep ∧ es.toList = us.map (entryOfKey (nestedKind P w)) ∧ (us.map (·.1)).Nodup
def DKO (P : Program) (w : World) (p : Addr) (xs : List (NestedKey × Addr × V)) : HO := .ext (DKf P w p xs)
abbrev Om := List (Addr × O)
abbrev Sl := List (Option D)

section
variable (K : PySem.W.Frag) (N : Addr → Prop) (H : Hp)
/-- a tuple, a list that is read and that is none of the owned ones -/
def TupN (a : Addr) (xs : List V) : Prop := (¬ N a ∧ Rd H a (.tup xs)) ∨
  ∃ (o : Obj) (its : Array Value) (n : Nat), K.lookup a = some o ∧ o.cls = .type "tuple" ∧ o.data = .seq its n ∧ its.size ≤ sizeLine ∧ Vals xs its.toList
def LstN (a : Addr) (xs : List V) : Prop := ¬ N a ∧ H a = some (.lst xs)
/-- a list that stands frozen, or that the module holds -/
def FlsN (a : Addr) (xs : List V) : Prop := (¬ N a ∧ Rd H a (.lst xs)) ∨
  ∃ (o : Obj) (its : Array Value) (n : Nat), K.lookup a = some o ∧ o.cls = .type "list" ∧ o.dict = none ∧ o.data = .seq its n ∧ its.size ≤ sizeLine ∧ Vals xs its.toList
mutual
def Dn : D → V → Prop
  | .non, v => v = .non
  | .bl b, v => v = .bl b
  | .int i, v => v = .int i
  | .str x, v => v = .str x
  | .ptr a, v => v = .ref a
  | .ty n, v => v = .ty n
  | .tup ds, v => ∃ a xs, v = .ref a ∧ TupN K N H a xs ∧ Dns ds xs
  | .lst ds, v => ∃ a xs, v = .ref a ∧ LstN N H a xs ∧ Dns ds xs
  | .fls ds, v => ∃ a xs, v = .ref a ∧ FlsN K N H a xs ∧ Dns ds xs
  | .ins C fs, v => ∃ a dx vs, v = .ref a ∧ ¬ N a ∧ H a = some (.ins C dx vs) ∧ DnF fs vs
def Dns : List D → List V → Prop
  | [], xs => xs = []
  | d :: ds, xs => ∃ x r, xs = x :: r ∧ Dn d x ∧ Dns ds r
def DnF : List (Str × D) → List (Str × V) → Prop
  | [], xs => xs = []
  | (n, d) :: fs, xs => ∃ x r, xs = (n, x) :: r ∧ Dn d x ∧ DnF fs r
end
end

theorem TupN.seq {K : PySem.W.Frag} {N : Addr → Prop} {H : Hp} {a : Addr} {xs : List V} (h : TupN K N H a xs) : SqT K H a xs := by
  rcases h with ⟨_, h⟩ | h
  · exact .inl h
  · exact .inr h
theorem LstN.seq {K : PySem.W.Frag} {N : Addr → Prop} {H : Hp} {a : Addr} {xs : List V} (h : LstN N H a xs) : SqL K H a xs := .inl (.inl h.2)
theorem FlsN.seq {K : PySem.W.Frag} {N : Addr → Prop} {H : Hp} {a : Addr} {xs : List V} (h : FlsN K N H a xs) : SqL K H a xs := by
  rcases h with ⟨_, h⟩ | h
  · exact .inl h
  · exact .inr h

section
variable {K : PySem.W.Frag} {N N' : Addr → Prop} {H H' : Hp}
/-- what is read under N in H stands under N' in H' -/
def Carry (N N' : Addr → Prop) (H H' : Hp) : Prop := ∀ a o, H a = some o → ¬ N a → H' a = some o ∧ ¬ N' a
theorem Carry.rd (c : Carry N N' H H') {a : Addr} {u : HO} (hn : ¬ N a) (h : Rd H a u) : ¬ N' a ∧ Rd H' a u := by
  rcases h with h | ⟨o, h⟩
  · exact ⟨(c a _ h hn).2, .inl (c a _ h hn).1⟩
  · exact ⟨(c a _ h hn).2, .inr ⟨o, (c a _ h hn).1⟩⟩
theorem Carry.tup (c : Carry N N' H H') {a : Addr} {xs : List V} (h : TupN K N H a xs) : TupN K N' H' a xs := by
  rcases h with ⟨hn, h⟩ | h
  · exact .inl (c.rd hn h)
  · exact .inr h
theorem Carry.lst (c : Carry N N' H H') {a : Addr} {xs : List V} (h : LstN N H a xs) : LstN N' H' a xs := ⟨(c a _ h.2 h.1).2, (c a _ h.2 h.1).1⟩
theorem Carry.fls (c : Carry N N' H H') {a : Addr} {xs : List V} (h : FlsN K N H a xs) : FlsN K N' H' a xs := by
  rcases h with ⟨hn, h⟩ | h
  · exact .inl (c.rd hn h)
  · exact .inr h
mutual
theorem Dn.carry (c : Carry N N' H H') : ∀ {d : D} {v : V}, Dn K N H d v → Dn K N' H' d v
  | .non, _, h => by unfold Dn at *; exact h
  | .bl _, _, h => by unfold Dn at *; exact h
  | .int _, _, h => by unfold Dn at *; exact h
  | .str _, _, h => by unfold Dn at *; exact h
  | .ptr _, _, h => by unfold Dn at *; exact h
  | .ty _, _, h => by unfold Dn at *; exact h
  | .tup ds, v, h => by
    unfold Dn at *
    obtain ⟨a, xs, e, ht, hd⟩ := h
    exact ⟨a, xs, e, c.tup ht, Dns.carry c hd⟩
  | .lst ds, v, h => by
    unfold Dn at *
    obtain ⟨a, xs, e, ht, hd⟩ := h
    exact ⟨a, xs, e, c.lst ht, Dns.carry c hd⟩
  | .fls ds, v, h => by
    unfold Dn at *
    obtain ⟨a, xs, e, ht, hd⟩ := h
    exact ⟨a, xs, e, c.fls ht, Dns.carry c hd⟩
  | .ins C fs, v, h => by
    unfold Dn at *
    obtain ⟨a, dx, vs, e, hn, hh, hd⟩ := h
    exact ⟨a, dx, vs, e, (c a _ hh hn).2, (c a _ hh hn).1, DnF.carry c hd⟩
theorem Dns.carry (c : Carry N N' H H') : ∀ {ds : List D} {xs : List V}, Dns K N H ds xs → Dns K N' H' ds xs
  | [], _, h => by unfold Dns at *; exact h
  | d :: ds, xs, h => by
    unfold Dns at *
    obtain ⟨x, r, e, h1, h2⟩ := h
    exact ⟨x, r, e, Dn.carry c h1, Dns.carry c h2⟩
theorem DnF.carry (c : Carry N N' H H') : ∀ {fs : List (Str × D)} {xs : List (Str × V)}, DnF K N H fs xs → DnF K N' H' fs xs
  | [], _, h => by unfold DnF at *; exact h
  | (n, d) :: fs, xs, h => by
    unfold DnF at *
    obtain ⟨x, r, e, h1, h2⟩ := h
    exact ⟨x, r, e, Dn.carry c h1, DnF.carry c h2⟩
end
theorem dns_nil : Dns K N H [] [] := by unfold Dns; rfl
theorem dns_cons {d : D} {ds : List D} {x : V} {xs : List V} (h : Dn K N H d x) (h2 : Dns K N H ds xs) : Dns K N H (d :: ds) (x :: xs) := by
  unfold Dns; exact ⟨x, xs, rfl, h, h2⟩
theorem Dns.len : ∀ {ds : List D} {xs : List V}, Dns K N H ds xs → xs.length = ds.length
  | [], _, h => by unfold Dns at h; subst h; rfl
  | d :: ds, xs, h => by
    unfold Dns at h
    obtain ⟨x, r, rfl, _, h2⟩ := h
    show r.length + 1 = ds.length + 1
    rw [h2.len]
theorem Dns.get : ∀ {ds : List D} {xs : List V} {i : Nat} {d : D}, Dns K N H ds xs → ds[i]? = some d → ∃ x, xs[i]? = some x ∧ Dn K N H d x
  | [], _, _, _, _, e => by simp at e
  | d' :: ds, xs, 0, d, h, e => by
    unfold Dns at h
    obtain ⟨x, r, rfl, h1, _⟩ := h
    simp at e; subst e
    exact ⟨x, rfl, h1⟩
  | d' :: ds, xs, i + 1, d, h, e => by
    unfold Dns at h
    obtain ⟨x, r, rfl, _, h2⟩ := h
    obtain ⟨y, e1, h1⟩ := Dns.get (i := i) h2 (by simpa using e)
    exact ⟨y, by simpa using e1, h1⟩
theorem Dns.get' : ∀ {ds : List D} {xs : List V} {i : Nat} {x : V}, Dns K N H ds xs → xs[i]? = some x → ∃ d, ds[i]? = some d ∧ Dn K N H d x := fun {ds xs i x} h e => by
  have hl := h.len
  have hi : i < ds.length := by rw [← hl]; exact (List.getElem?_eq_some_iff.mp e).1
  obtain ⟨y, e1, h1⟩ := h.get (List.getElem?_eq_getElem hi)
  rw [e] at e1; cases e1
  exact ⟨_, List.getElem?_eq_getElem hi, h1⟩
theorem Dns.append : ∀ {ds es : List D} {xs ys : List V}, Dns K N H ds xs → Dns K N H es ys → Dns K N H (ds ++ es) (xs ++ ys)
  | [], _, _, _, h, h2 => by unfold Dns at h; subst h; exact h2
  | d :: ds, es, xs, ys, h, h2 => by
    unfold Dns at h
    obtain ⟨x, r, rfl, h1, h3⟩ := h
    exact dns_cons h1 (h3.append h2)
theorem Dns.take (n : Nat) : ∀ {ds : List D} {xs : List V}, Dns K N H ds xs → Dns K N H (ds.take n) (xs.take n) := by
  induction n with
  | zero => intro ds xs h; simp only [List.take_zero]; exact dns_nil
  | succ n ih =>
    intro ds xs h
    cases ds with
    | nil => unfold Dns at h; subst h; simp only [List.take_nil]; exact dns_nil
    | cons d ds =>
      unfold Dns at h
      obtain ⟨x, r, rfl, h1, h3⟩ := h
      exact dns_cons h1 (ih h3)
theorem Dns.drop (n : Nat) : ∀ {ds : List D} {xs : List V}, Dns K N H ds xs → Dns K N H (ds.drop n) (xs.drop n) := by
  induction n with
  | zero => intro ds xs h; exact h
  | succ n ih =>
    intro ds xs h
    cases ds with
    | nil => unfold Dns at h; subst h; simp only [List.drop_nil]; exact dns_nil
    | cons d ds =>
      unfold Dns at h
      obtain ⟨x, r, rfl, h1, h3⟩ := h
      exact ih h3
theorem Dns.set {d : D} {x : V} (hd : Dn K N H d x) : ∀ {ds : List D} {xs : List V} (i : Nat), Dns K N H ds xs → Dns K N H (ds.set i d) (xs.set i x)
  | [], _, _, h => by unfold Dns at h; subst h; exact dns_nil
  | e :: ds, xs, 0, h => by
    unfold Dns at h
    obtain ⟨y, r, rfl, h1, h3⟩ := h
    exact dns_cons hd h3
  | e :: ds, xs, i + 1, h => by
    unfold Dns at h
    obtain ⟨y, r, rfl, h1, h3⟩ := h
    exact dns_cons h1 (h3.set hd i)
theorem DnF.names : ∀ {fs : List (Str × D)} {vs : List (Str × V)}, DnF K N H fs vs → vs.map (·.1) = fs.map (·.1)
  | [], _, h => by unfold DnF at h; subst h; rfl
  | (n, d) :: fs, vs, h => by
    unfold DnF at h
    obtain ⟨x, r, rfl, h1, h3⟩ := h
    simp only [List.map_cons]
    rw [h3.names]
theorem DnF.lookup {f : Str} {d : D} : ∀ {fs : List (Str × D)} {vs : List (Str × V)}, DnF K N H fs vs → fs.lookup f = some d → ∃ x, vs.lookup f = some x ∧ Dn K N H d x
  | [], _, h, e => by simp at e
  | (n, d') :: fs, vs, h, e => by
    unfold DnF at h
    obtain ⟨x, r, rfl, h1, h3⟩ := h
    rw [List.lookup_cons] at e ⊢
    cases hb : f == n with
    | true => rw [hb] at e; cases e; exact ⟨x, rfl, h1⟩
    | false => rw [hb] at e; exact h3.lookup e
theorem DnF.lookup_none {f : Str} : ∀ {fs : List (Str × D)} {vs : List (Str × V)}, DnF K N H fs vs → fs.lookup f = none → vs.lookup f = none
  | [], _, h, e => by unfold DnF at h; subst h; rfl
  | (n, d') :: fs, vs, h, e => by
    unfold DnF at h
    obtain ⟨x, r, rfl, h1, h3⟩ := h
    rw [List.lookup_cons] at e ⊢
    cases hb : f == n with
    | true => rw [hb] at e; cases e
    | false => rw [hb] at e; exact h3.lookup_none e
end

/-- entries by their keys, told as data -/
def DkOk (K : PySem.W.Frag) (N : Addr → Prop) (H : Hp) : List (NestedKey × D) → List (NestedKey × Addr × V) → Prop
  | [], xs => xs = []
  | (k, d) :: r, xs => ∃ a v s, xs = (k, a, v) :: s ∧ k.depth ≤ 8 ∧ Dn K N H (keyD k) (.ref a) ∧ Dn K N H d v ∧ DkOk K N H r s
theorem DkOk.carry {K : PySem.W.Frag} {N N' : Addr → Prop} {H H' : Hp} (c : ∀ d v, Dn K N H d v → Dn K N' H' d v) : ∀ {kvs : List (NestedKey × D)} {xs : List (NestedKey × Addr × V)}, DkOk K N H kvs xs → DkOk K N' H' kvs xs
  | [], _, h => h
  | (k, d) :: r, _, h => by
    obtain ⟨a, v, s, e, h1, h2, h3, h4⟩ := h
    exact ⟨a, v, s, e, h1, c _ _ h2, c _ _ h3, h4.carry c⟩
/-! ### the state -/
/-- what must not be reached by deep data: foreign changing objects and the owned ones -/
def Mt (M : Addr → Prop) (ω : Om) : Addr → Prop := fun a => M a ∨ a ∈ ω.map (·.1)
def OOk (K : PySem.W.Frag) (N : Addr → Prop) (H : Hp) (p : Addr) : O → Prop
  | .lst ds => ∃ xs, H p = some (.lst xs) ∧ Dns K N H ds xs
  | .ins C fs => ∃ dx vs, H p = some (.ins C dx vs) ∧ DnF K N H fs vs
  | .raw o => H p = some o
  | .dkn P w kvs => ∃ xs, H p = some (DKO P w p xs) ∧ DkOk K N H kvs xs
structure Sta (K : PySem.W.Frag) (M : Addr → Prop) (ω : Om) (H : Hp) : Prop where
  m0 : ∀ a, M a → H a ≠ none
  dis : ∀ a ∈ ω.map (·.1), ¬ M a
  nd : (ω.map (·.1)).Nodup
  own : ∀ x ∈ ω, OOk K (Mt M ω) H x.1 x.2
structure Stp (ω : Om) (H : Hp) (ω' : Om) (H' : Hp) : Prop where
  keep : ∀ a o, H a = some o → a ∉ ω.map (·.1) → H' a = some o
  keys : ∀ a ∈ ω'.map (·.1), a ∈ ω.map (·.1) ∨ H a = none
  there : ∀ a o, H a = some o → H' a ≠ none
section
variable {K : PySem.W.Frag} {M : Addr → Prop} {ω ω' ω1 ω2 : Om} {H H' H1 H2 : Hp}
theorem Stp.refl (ω : Om) (H : Hp) : Stp ω H ω H := ⟨fun _ _ h _ => h, fun _ h => .inl h, fun a o h => by rw [h]; exact nofun⟩
theorem Stp.trans (a : Stp ω H ω1 H1) (b : Stp ω1 H1 ω2 H2) : Stp ω H ω2 H2 where
  keep := fun x o h hn => b.keep x o (a.keep x o h hn) fun hx => by
    rcases a.keys x hx with z | z
    · exact hn z
    · rw [h] at z; cases z
  keys := fun x hx => by
    rcases b.keys x hx with z | z
    · exact a.keys x z
    · cases q : H x with
      | none => exact .inr rfl
      | some o => exact absurd z (a.there x o q)
  there := fun x o h => by
    cases q : H1 x with
    | none => exact absurd q (a.there x o h)
    | some o' => exact b.there x o' q
theorem Stp.carry (a : Stp ω H ω' H') : Carry (Mt M ω) (Mt M ω') H H' := fun x o h hn => by
  have hk : x ∉ ω.map (·.1) := fun z => hn (.inr z)
  refine ⟨a.keep x o h hk, fun z => ?_⟩
  rcases z with z | z
  · exact hn (.inl z)
  · rcases a.keys x z with z | z
    · exact hk z
    · rw [h] at z; cases z
theorem Sta.get (st : Sta K M ω H) {i : Nat} {p : Addr} {o : O} (h : ω[i]? = some (p, o)) : OOk K (Mt M ω) H p o := st.own _ (List.mem_of_getElem? h)
theorem OOk.there {N : Addr → Prop} {p : Addr} {o : O} (h : OOk K N H p o) : ∃ u, H p = some u := by
  cases o with
  | lst ds => obtain ⟨_, h, _⟩ := h; exact ⟨_, h⟩
  | ins C fs => obtain ⟨_, _, h, _⟩ := h; exact ⟨_, h⟩
  | raw o => exact ⟨_, h⟩
  | dkn P w kvs => obtain ⟨_, h, _⟩ := h; exact ⟨_, h⟩
theorem OOk.carry {N N' : Addr → Prop} {p : Addr} {o : O} (c : Carry N N' H H') (hp : H' p = H p) (h : OOk K N H p o) : OOk K N' H' p o := by
  cases o with
  | lst ds => obtain ⟨xs, h, hd⟩ := h; exact ⟨xs, hp.trans h, hd.carry c⟩
  | ins C fs => obtain ⟨dx, vs, h, hd⟩ := h; exact ⟨dx, vs, hp.trans h, hd.carry c⟩
  | raw o => exact hp.trans h
  | dkn P w kvs => obtain ⟨xs, h, hd⟩ := h; exact ⟨xs, hp.trans h, hd.carry fun _ _ z => z.carry c⟩
/-- the heap grew, nothing owned has changed -/
theorem Sta.ext (st : Sta K M ω H) (e : ∀ a o, H a = some o → H' a = some o) : Sta K M ω H' ∧ Stp ω H ω H' := by
  have sp : Stp ω H ω H' := ⟨fun a o h _ => e a o h, fun _ h => .inl h, fun a o h => by rw [e a o h]; exact nofun⟩
  refine ⟨⟨fun a ha => ?_, st.dis, st.nd, fun x hx => ?_⟩, sp⟩
  · cases q : H a with
    | none => exact absurd q (st.m0 a ha)
    | some o => rw [e a o q]; exact nofun
  · have h := st.own x hx
    obtain ⟨u, hu⟩ := h.there
    exact h.carry sp.carry ((e _ _ hu).trans hu.symm)
theorem Sta.new (st : Sta K M ω H) {p : Addr} {o : HO} (hp : H p = none) : Sta K M ω (upd H p o) ∧ Stp ω H ω (upd H p o) :=
  st.ext fun a u h => by rw [upd_ne (ne_of_none h hp)]; exact h
theorem Sta.notM (st : Sta K M ω H) {p : Addr} (hp : H p = none) : ¬ Mt M ω p := fun z => by
  rcases z with z | z
  · exact st.m0 p z hp
  · obtain ⟨x, hx, e⟩ := List.mem_map.mp z
    obtain ⟨u, hu⟩ := (st.own x hx).there
    rw [e, hp] at hu; cases hu
/-- a new tuple -/
theorem dn_newtup (st : Sta K M ω H) {p : Addr} {ds : List D} {xs : List V} (hp : H p = none) (h : Dns K (Mt M ω) H ds xs) :
    Sta K M ω (upd H p (.tup xs)) ∧ Stp ω H ω (upd H p (.tup xs)) ∧ Dn K (Mt M ω) (upd H p (.tup xs)) (.tup ds) (.ref p) := by
  obtain ⟨a, b⟩ := st.new (o := .tup xs) hp
  refine ⟨a, b, ?_⟩
  unfold Dn
  exact ⟨p, xs, rfl, .inl ⟨st.notM hp, .inl upd_same⟩, h.carry b.carry⟩
/-- a new object that is owned -/
theorem Sta.take (st : Sta K M ω H) {p : Addr} {o : HO} {ob : O} (hp : H p = none) (hok : ∀ N' H', (∀ d v, Dn K (Mt M ω) H d v → Dn K N' H' d v) → H' p = some o → OOk K N' H' p ob) :
    Sta K M ((p, ob) :: ω) (upd H p o) ∧ Stp ω H ((p, ob) :: ω) (upd H p o) := by
  have e : ∀ a u, H a = some u → upd H p o a = some u := fun a u h => by rw [upd_ne (ne_of_none h hp)]; exact h
  have np : p ∉ ω.map (·.1) := fun z => st.notM hp (.inr z)
  have sp : Stp ω H ((p, ob) :: ω) (upd H p o) := by
    refine ⟨fun a u h _ => e a u h, fun a ha => ?_, fun a u h => by rw [e a u h]; exact nofun⟩
    rcases List.mem_cons.mp ha with z | z
    · rw [z]; exact .inr hp
    · exact .inl z
  refine ⟨⟨fun a ha => ?_, fun a ha hm => ?_, List.nodup_cons.mpr ⟨np, st.nd⟩, fun x hx => ?_⟩, sp⟩
  · cases q : H a with
    | none => exact absurd q (st.m0 a ha)
    | some u => rw [e a u q]; exact nofun
  · rcases List.mem_cons.mp ha with z | z
    · rw [z] at hm; exact st.m0 p hm hp
    · exact st.dis a z hm
  · rcases List.mem_cons.mp hx with rfl | hx
    · exact hok _ _ (fun d v h => h.carry sp.carry) upd_same
    · have h := st.own x hx
      obtain ⟨u, hu⟩ := h.there
      exact h.carry sp.carry ((e _ _ hu).trans hu.symm)
theorem mt_cons {p : Addr} {ob : O} {a : Addr} : Mt M ((p, ob) :: ω) a ↔ a = p ∨ Mt M ω a := by
  unfold Mt
  simp only [List.map_cons, List.mem_cons]
  constructor
  · rintro (h | h | h)
    · exact .inr (.inl h)
    · exact .inl h
    · exact .inr (.inr h)
  · rintro (h | h | h)
    · exact .inr (.inl h)
    · exact .inl h
    · exact .inr (.inr h)
/-- an owned object is let go: it is not changed any more -/
theorem carry_drop {p : Addr} {ob : O} : Carry (Mt M ((p, ob) :: ω)) (Mt M ω) H H := fun a o h hn => ⟨h, fun z => hn (mt_cons.mpr (.inr z))⟩
theorem Sta.drop1 {p : Addr} {ob : O} (st : Sta K M ((p, ob) :: ω) H) : Sta K M ω H :=
  ⟨st.m0, fun a ha => st.dis a (List.mem_cons_of_mem _ ha), (List.nodup_cons.mp st.nd).2, fun x hx => (st.own x (List.mem_cons_of_mem _ hx)).carry carry_drop rfl⟩
/-- a list of which we know that it isn't foreign is frozen -/
theorem Sta.freeze {p : Addr} {ds : List D} (st : Sta K M ((p, .lst ds) :: ω) H) : Sta K M ω H ∧ Dn K (Mt M ω) H (.lst ds) (.ref p) := by
  refine ⟨st.drop1, ?_⟩
  obtain ⟨xs, h, hd⟩ := st.own (p, .lst ds) List.mem_cons_self
  unfold Dn
  refine ⟨p, xs, rfl, ⟨fun z => ?_, h⟩, hd.carry carry_drop⟩
  rcases z with z | z
  · exact st.dis p List.mem_cons_self z
  · exact (List.nodup_cons.mp st.nd).1 z
theorem Sta.freezeI {p C : Addr} {fs : List (Str × D)} (st : Sta K M ((p, .ins C fs) :: ω) H) : Sta K M ω H ∧ Dn K (Mt M ω) H (.ins C fs) (.ref p) := by
  refine ⟨st.drop1, ?_⟩
  obtain ⟨dx, vs, h, hd⟩ := st.own (p, .ins C fs) List.mem_cons_self
  unfold Dn
  refine ⟨p, dx, vs, rfl, fun z => ?_, h, hd.carry carry_drop⟩
  rcases z with z | z
  · exact st.dis p List.mem_cons_self z
  · exact (List.nodup_cons.mp st.nd).1 z
theorem Stp.drop1 {p : Addr} {ob : O} (sp : Stp ω H ((p, ob) :: ω') H') : Stp ω H ω' H' :=
  ⟨sp.keep, fun a ha => sp.keys a (List.mem_cons_of_mem _ ha), sp.there⟩
theorem keys_set {i : Nat} {p : Addr} {o ob : O} (h : ω[i]? = some (p, o)) : (ω.set i (p, ob)).map (·.1) = ω.map (·.1) := by
  rw [List.map_set]
  refine List.ext_getElem? fun j => ?_
  by_cases e : i = j
  · subst e
    have hi : i < (ω.map (·.1)).length := by rw [List.length_map]; exact (List.getElem?_eq_some_iff.mp h).1
    rw [List.getElem?_set_self hi, List.getElem?_map, h]
    rfl
  · rw [List.getElem?_set_ne e]
theorem mt_set {i : Nat} {p : Addr} {o ob : O} (h : ω[i]? = some (p, o)) : Mt M (ω.set i (p, ob)) = Mt M ω := by
  unfold Mt; rw [keys_set h]
/-- an owned object is changed -/
theorem Sta.change (st : Sta K M ω H) {i : Nat} {p : Addr} {o ob : O} {u : HO} (h : ω[i]? = some (p, o)) (hok : ∀ H', (∀ d v, Dn K (Mt M ω) H d v → Dn K (Mt M ω) H' d v) → H' p = some u → OOk K (Mt M ω) H' p ob) :
    Sta K M (ω.set i (p, ob)) (upd H p u) ∧ Stp ω H (ω.set i (p, ob)) (upd H p u) := by
  have hm : p ∈ ω.map (·.1) := List.mem_map.mpr ⟨_, List.mem_of_getElem? h, rfl⟩
  have c : Carry (Mt M ω) (Mt M ω) H (upd H p u) := fun a v e hn => by
    have : a ≠ p := fun z => hn (.inr (z ▸ hm))
    exact ⟨by rw [upd_ne this]; exact e, hn⟩
  have th : ∀ a v, H a = some v → upd H p u a ≠ none := fun a v e => by
    by_cases z : a = p
    · subst z; rw [upd_same]; exact nofun
    · rw [upd_ne z, e]; exact nofun
  refine ⟨⟨fun a ha => ?_, by rw [keys_set h]; exact st.dis, by rw [keys_set h]; exact st.nd, fun x hx => ?_⟩, ⟨fun a v e hn => ?_, fun a ha => ?_, th⟩⟩
  · cases q : H a with
    | none => exact absurd q (st.m0 a ha)
    | some v => exact th a v q
  · rw [mt_set h]
    obtain ⟨j, hj⟩ := List.mem_iff_getElem?.mp hx
    by_cases e : i = j
    · subst e
      rw [List.getElem?_set_self (List.getElem?_eq_some_iff.mp h).1] at hj
      cases hj
      exact hok _ (fun d v hd => hd.carry c) upd_same
    · rw [List.getElem?_set_ne e] at hj
      have ho := st.get (p := x.1) (o := x.2) hj
      refine ho.carry c (upd_ne fun z => e ?_)
      have n1 : (ω.map (·.1))[i]? = some p := by rw [List.getElem?_map, h]; rfl
      have n2 : (ω.map (·.1))[j]? = some p := by rw [List.getElem?_map, hj]; exact congrArg some z
      obtain ⟨h1, e1⟩ := List.getElem?_eq_some_iff.mp n1
      obtain ⟨h2, e2⟩ := List.getElem?_eq_some_iff.mp n2
      exact (List.getElem_inj st.nd).mp (e1.trans e2.symm)
  · have z : a ≠ p := fun z => hn (by rw [z]; exact hm)
    rw [upd_ne z]; exact e
  · rw [keys_set h] at ha; exact .inl ha
end

/-- the slots -/
def Slots (K : PySem.W.Frag) (N : Addr → Prop) (H : Hp) (σ : L2.St) (δ : Sl) : Prop :=
  σ.length = δ.length ∧ ∀ (i : Nat) (d : D), δ[i]? = some (some d) → ∃ v : V, σ[i]? = some (some v) ∧ Dn K N H d v
section
variable {K : PySem.W.Frag} {N N' : Addr → Prop} {H H' : Hp} {σ : L2.St} {δ : Sl}
theorem Slots.carry (c : Carry N N' H H') (h : Slots K N H σ δ) : Slots K N' H' σ δ :=
  ⟨h.1, fun i d e => let ⟨v, e1, h1⟩ := h.2 i d e; ⟨v, e1, h1.carry c⟩⟩
theorem Slots.set {i : Nat} {d : D} {v : V} (h : Slots K N H σ δ) (hd : Dn K N H d v) : Slots K N H (σ.set i (some v)) (δ.set i (some d)) := by
  refine ⟨by rw [List.length_set, List.length_set]; exact h.1, fun j e hj => ?_⟩
  by_cases q : i = j
  · subst q
    by_cases hi : i < δ.length
    · rw [List.getElem?_set_self hi] at hj
      cases hj
      exact ⟨v, List.getElem?_set_self (by rw [h.1]; exact hi), hd⟩
    · rw [List.getElem?_eq_none (by rw [List.length_set]; omega)] at hj; cases hj
  · rw [List.getElem?_set_ne q] at hj
    obtain ⟨w, e1, h1⟩ := h.2 j e hj
    exact ⟨w, by rw [List.getElem?_set_ne q]; exact e1, h1⟩
theorem Slots.start : ∀ {ds : List D} {vs : List V} (n : Nat), Dns K N H ds vs → Slots K N H (vs.map some ++ List.replicate n none) (ds.map some ++ List.replicate n none) := fun {ds vs} n h => by
  refine ⟨by simp [h.len], fun i d e => ?_⟩
  by_cases hi : i < ds.length
  · rw [List.getElem?_append_left (by simpa using hi), List.getElem?_map] at e
    have e' : ds[i]? = some d := by
      cases q : ds[i]? with
      | none => rw [q] at e; cases e
      | some z => rw [q] at e; simpa using e
    obtain ⟨v, e1, h1⟩ := h.get e'
    refine ⟨v, ?_, h1⟩
    rw [List.getElem?_append_left (by rw [List.length_map, h.len]; exact hi), List.getElem?_map, e1]
    rfl
  · rw [List.getElem?_append_right (by simpa using hi), List.getElem?_replicate] at e
    split at e <;> cases e
end
/-- the slots forgotten -/
def wipeD (δ : Sl) : List Nat → Sl
  | [] => δ
  | v :: vs => (wipeD δ vs).set v none
theorem Slots.wipe {K : PySem.W.Frag} {N : Addr → Prop} {H : Hp} {σ : L2.St} {δ : Sl} (h : Slots K N H σ δ) : ∀ vs : List Nat, Slots K N H (L2.wipe σ vs) (wipeD δ vs)
  | [] => h
  | v :: vs => by
    have ih := Slots.wipe h vs
    refine ⟨?_, fun i d e => ?_⟩
    · unfold L2.wipe wipeD
      rw [List.length_set, List.length_set]; exact ih.1
    · unfold wipeD at e
      unfold L2.wipe
      by_cases q : v = i
      · subst q
        by_cases hv : v < (wipeD δ vs).length
        · rw [List.getElem?_set_self hv] at e; cases e
        · rw [List.getElem?_eq_none (by rw [List.length_set]; omega)] at e; cases e
      · rw [List.getElem?_set_ne q] at e ⊢
        exact ih.2 i d e

/-! ### judgements -/
section
variable (X : Cx) (M : Addr → Prop)
def EPost (pins : List (Addr × Obj)) (σ : L2.St) (ω : Om) (H : Hp) (d : D) (ω' : Om) (u : Value) (s' : Shared) : Prop :=
  ∃ v H', Inv X pins σ H' s' ∧ RelV v u ∧ Sta X.K M ω' H' ∧ Stp ω H ω' H' ∧ Dn X.K (Mt M ω') H' d v
/-- the expression gives d -/
structure RE (e : Expr) (δ : Sl) (ω : Om) (d : D) (ω' : Om) : Prop where
  run : ∀ pins s σ H, Inv X pins σ H s → Sta X.K M ω H → Slots X.K (Mt M ω) H σ δ → wpAny (model X.prog X.w) X.A (eval e X.env) (EPost X M pins σ ω H d ω') X.xe s
/-- the expression gives a new list, owned from now on -/
structure RN (e : Expr) (δ : Sl) (ω : Om) (ds : List D) (ω' : Om) : Prop where
  run : ∀ pins s σ H, Inv X pins σ H s → Sta X.K M ω H → Slots X.K (Mt M ω) H σ δ → wpAny (model X.prog X.w) X.A (eval e X.env)
    (fun u s' => ∃ p H', H p = none ∧ Inv X pins σ H' s' ∧ u = .ref p ∧ Sta X.K M ((p, .lst ds) :: ω') H' ∧ Stp ω H ((p, .lst ds) :: ω') H') X.xe s
/-- the test gives b -/
structure RT (e : Expr) (δ : Sl) (ω : Om) (b : Bool) (ω' : Om) : Prop where
  run : ∀ pins s σ H, Inv X pins σ H s → Sta X.K M ω H → Slots X.K (Mt M ω) H σ δ → wpAny (model X.prog X.w) X.A (isTrue e X.env (eval e X.env))
    (fun c s' => c = b ∧ ∃ H', Inv X pins σ H' s' ∧ Sta X.K M ω' H' ∧ Stp ω H ω' H') X.xe s
/-- .. whatever its whole is -/
structure RW (e : Expr) (δ : Sl) (ω : Om) (b : Bool) (ω' : Om) : Prop where
  run : ∀ whole pins s σ H, Inv X pins σ H s → Sta X.K M ω H → Slots X.K (Mt M ω) H σ δ → wpAny (model X.prog X.w) X.A (isTrue e X.env whole)
    (fun c s' => c = b ∧ ∃ H', Inv X pins σ H' s' ∧ Sta X.K M ω' H' ∧ Stp ω H ω' H') X.xe s
/-- the arguments give ds -/
def tA0 (δ : Sl) (ω : Om) (ds : List D) (ω' : Om) (t : TA) : Prop := ∀ σ H Q, Sta X.K M ω H → Slots X.K (Mt M ω) H σ δ →
  (∀ vs H', Sta X.K M ω' H' → Stp ω H ω' H' → Dns X.K (Mt M ω') H' ds vs → Q vs H') → t σ H Q
def RA (es : List Expr) (δ : Sl) (ω : Om) (ds : List D) (ω' : Om) : Prop := ∃ t, PA X es t ∧ tA0 X M δ ω ds ω' t
end
section
variable {X : Cx} {M : Addr → Prop} {e : Expr} {δ : Sl} {ω ω' : Om} {d : D} {b : Bool} {ds : List D}
/-- what is wanted of an expression, by its judgement -/
def tE (X : Cx) (M : Addr → Prop) (e : Expr) : TE := fun σ H Q => ∃ δ ω d ω', RE X M e δ ω d ω' ∧ Sta X.K M ω H ∧ Slots X.K (Mt M ω) H σ δ ∧
  ∀ v H', Sta X.K M ω' H' → Stp ω H ω' H' → Dn X.K (Mt M ω') H' d v → Q v H'
def tN (X : Cx) (M : Addr → Prop) (e : Expr) : TE := fun σ H Q => ∃ δ ω ds ω', RN X M e δ ω ds ω' ∧ Sta X.K M ω H ∧ Slots X.K (Mt M ω) H σ δ ∧
  ∀ p H', H p = none → Sta X.K M ((p, .lst ds) :: ω') H' → Stp ω H ((p, .lst ds) :: ω') H' → Q (.ref p) H'
def tT (X : Cx) (M : Addr → Prop) (e : Expr) : TT := fun σ H Q => ∃ δ ω b ω', RT X M e δ ω b ω' ∧ Sta X.K M ω H ∧ Slots X.K (Mt M ω) H σ δ ∧
  ∀ H', Sta X.K M ω' H' → Stp ω H ω' H' → Q b H'
def tW (X : Cx) (M : Addr → Prop) (e : Expr) : TT := fun σ H Q => ∃ δ ω b ω', RW X M e δ ω b ω' ∧ Sta X.K M ω H ∧ Slots X.K (Mt M ω) H σ δ ∧
  ∀ H', Sta X.K M ω' H' → Stp ω H ω' H' → Q b H'
theorem peE (X : Cx) (M : Addr → Prop) (e : Expr) : PE X e (tE X M e) := ⟨fun pins s σ H Q I h => by
  obtain ⟨δ, ω, d, ω', r, st, sl, k⟩ := h
  exact thn (r.run pins s σ H I st sl) fun u s' ⟨v, H', I', rv, st', sp, hd⟩ => ⟨v, H', I', rv, k v H' st' sp hd⟩⟩
theorem peN (X : Cx) (M : Addr → Prop) (e : Expr) : PE X e (tN X M e) := ⟨fun pins s σ H Q I h => by
  obtain ⟨δ, ω, d, ω', r, st, sl, k⟩ := h
  exact thn (r.run pins s σ H I st sl) fun u s' ⟨p, H', hp, I', eu, st', sp⟩ => ⟨.ref p, H', I', eu, k p H' hp st' sp⟩⟩
theorem ptT (X : Cx) (M : Addr → Prop) (e : Expr) : PT X e (tT X M e) := ⟨fun pins s σ H Q I h => by
  obtain ⟨δ, ω, d, ω', r, st, sl, k⟩ := h
  exact thn (r.run pins s σ H I st sl) fun c s' ⟨ec, H', I', st', sp⟩ => ⟨H', I', by rw [ec]; exact k H' st' sp⟩⟩
theorem pwW (X : Cx) (M : Addr → Prop) (e : Expr) : PW X e (tW X M e) := ⟨fun wh pins s σ H Q I h => by
  obtain ⟨δ, ω, d, ω', r, st, sl, k⟩ := h
  exact thn (r.run wh pins s σ H I st sl) fun c s' ⟨ec, H', I', st', sp⟩ => ⟨H', I', by rw [ec]; exact k H' st' sp⟩⟩
/-- a judgement from a rule of the hand layer and its reading -/
theorem re_of {t : TE} (hp : PE X e t) (hr : ∀ σ H Q, Sta X.K M ω H → Slots X.K (Mt M ω) H σ δ → (∀ v H', Sta X.K M ω' H' → Stp ω H ω' H' → Dn X.K (Mt M ω') H' d v → Q v H') → t σ H Q) : RE X M e δ ω d ω' :=
  ⟨fun pins s σ H I st sl => thn (hp.run pins s σ H (fun v H' => Sta X.K M ω' H' ∧ Stp ω H ω' H' ∧ Dn X.K (Mt M ω') H' d v) I (hr σ H _ st sl fun v H' a b c => ⟨a, b, c⟩))
    fun u s' ⟨v, H', I', rv, a, b, c⟩ => ⟨v, H', I', rv, a, b, c⟩⟩
theorem rn_of {t : TE} (hp : PE X e t) (hr : ∀ σ H Q, Sta X.K M ω H → Slots X.K (Mt M ω) H σ δ → (∀ p H', H p = none → Sta X.K M ((p, .lst ds) :: ω') H' → Stp ω H ((p, .lst ds) :: ω') H' → Q (.ref p) H') → t σ H Q) : RN X M e δ ω ds ω' :=
  ⟨fun pins s σ H I st sl => thn (hp.run pins s σ H (fun v H' => ∃ p, v = .ref p ∧ H p = none ∧ Sta X.K M ((p, .lst ds) :: ω') H' ∧ Stp ω H ((p, .lst ds) :: ω') H') I (hr σ H _ st sl fun p H' a b c => ⟨p, rfl, a, b, c⟩))
    fun u s' ⟨v, H', I', rv, p, ev, a, b, c⟩ => by subst ev; exact ⟨p, H', a, I', rv, b, c⟩⟩
theorem rt_of {t : TT} (hp : PT X e t) (hr : ∀ σ H Q, Sta X.K M ω H → Slots X.K (Mt M ω) H σ δ → (∀ H', Sta X.K M ω' H' → Stp ω H ω' H' → Q b H') → t σ H Q) : RT X M e δ ω b ω' :=
  ⟨fun pins s σ H I st sl => thn (hp.run pins s σ H (fun c H' => c = b ∧ Sta X.K M ω' H' ∧ Stp ω H ω' H') I (hr σ H _ st sl fun H' a b => ⟨rfl, a, b⟩))
    fun u s' ⟨H', I', ec, a, b⟩ => ⟨ec, H', I', a, b⟩⟩
theorem rw_of {t : TT} (hp : PW X e t) (hr : ∀ σ H Q, Sta X.K M ω H → Slots X.K (Mt M ω) H σ δ → (∀ H', Sta X.K M ω' H' → Stp ω H ω' H' → Q b H') → t σ H Q) : RW X M e δ ω b ω' :=
  ⟨fun wh pins s σ H I st sl => thn (hp.run wh pins s σ H (fun c H' => c = b ∧ Sta X.K M ω' H' ∧ Stp ω H ω' H') I (hr σ H _ st sl fun H' a b => ⟨rfl, a, b⟩))
    fun u s' ⟨H', I', ec, a, b⟩ => ⟨ec, H', I', a, b⟩⟩
theorem RW.rt (h : RW X M e δ ω b ω') : RT X M e δ ω b ω' := ⟨h.run _⟩
theorem RE.t (h : RE X M e δ ω d ω') {σ : L2.St} {H : Hp} {Q : VK} (st : Sta X.K M ω H) (sl : Slots X.K (Mt M ω) H σ δ) (k : ∀ v H', Sta X.K M ω' H' → Stp ω H ω' H' → Dn X.K (Mt M ω') H' d v → Q v H') : tE X M e σ H Q := ⟨δ, ω, d, ω', h, st, sl, k⟩
theorem RT.t (h : RT X M e δ ω b ω') {σ : L2.St} {H : Hp} {Q : Bool → Hp → Prop} (st : Sta X.K M ω H) (sl : Slots X.K (Mt M ω) H σ δ) (k : ∀ H', Sta X.K M ω' H' → Stp ω H ω' H' → Q b H') : tT X M e σ H Q := ⟨δ, ω, b, ω', h, st, sl, k⟩
theorem RW.t (h : RW X M e δ ω b ω') {σ : L2.St} {H : Hp} {Q : Bool → Hp → Prop} (st : Sta X.K M ω H) (sl : Slots X.K (Mt M ω) H σ δ) (k : ∀ H', Sta X.K M ω' H' → Stp ω H ω' H' → Q b H') : tW X M e σ H Q := ⟨δ, ω, b, ω', h, st, sl, k⟩
theorem RN.t (h : RN X M e δ ω ds ω') {σ : L2.St} {H : Hp} {Q : VK} (st : Sta X.K M ω H) (sl : Slots X.K (Mt M ω) H σ δ) (k : ∀ p H', H p = none → Sta X.K M ((p, .lst ds) :: ω') H' → Stp ω H ((p, .lst ds) :: ω') H' → Q (.ref p) H') : tN X M e σ H Q := ⟨δ, ω, ds, ω', h, st, sl, k⟩
/-- a new list that is not changed any more -/
theorem RN.re (h : RN X M e δ ω ds ω') : RE X M e δ ω (.lst ds) ω' := re_of (peN X M e) fun σ H Q st sl k => h.t st sl fun p H' hp st' sp => by
  obtain ⟨a, b⟩ := st'.freeze
  exact k _ _ a sp.drop1 b
theorem ra_nil : RA X M [] δ ω [] ω := ⟨_, pa_nil, fun σ H Q st sl k => k [] H st (Stp.refl _ _) dns_nil⟩
theorem ra_cons {es : List Expr} {ω1 : Om} (h : RE X M e δ ω d ω1) (hr : RA X M es δ ω1 ds ω') (hs : starEach (e :: es) X.env = (false, eval e X.env) :: starEach es X.env := by rfl) : RA X M (e :: es) δ ω (d :: ds) ω' := by
  obtain ⟨t, hp, ht⟩ := hr
  refine ⟨_, pa_cons (peE X M e) hp hs, fun σ H Q st sl k => h.t st sl fun v H1 st1 sp1 hd => ?_⟩
  exact ht σ H1 _ st1 (sl.carry sp1.carry) fun vs H2 st2 sp2 hds => k _ H2 st2 (sp1.trans sp2) (dns_cons (hd.carry sp2.carry) hds)
end
end DV
/-! DV2: rules of expressions over deep data. -/
namespace DV
open PySem PySem.Spec PyProof.Rows L2

theorem sz100 {n : Nat} (h : n ≤ 100000) : n ≤ sizeLine := Nat.le_trans h (by decide)
theorem dns_map {K : PySem.W.Frag} {N N' : Addr → Prop} {H H' : Hp} (c : ∀ d v, Dn K N H d v → Dn K N' H' d v) : ∀ {ds : List D} {xs : List V}, Dns K N H ds xs → Dns K N' H' ds xs
  | [], _, h => by unfold Dns at h; subst h; exact dns_nil
  | d :: ds, _, h => by
    unfold Dns at h
    obtain ⟨x, r, rfl, h1, h2⟩ := h
    exact dns_cons (c _ _ h1) (dns_map c h2)
/-! ### plain data: == -/
mutual
def toPy : D → PyData
  | .non => .none
  | .bl b => .bool b
  | .int i => .int i
  | .str x => .str x
  | .tup ds => .tuple (toPys ds)
  | .lst ds => .list (toPys ds)
  | .fls ds => .list (toPys ds)
  | .ins _ _ => .dict []
  | .ptr _ => .dict []
  | .ty _ => .dict []
def toPys : List D → List PyData
  | [] => []
  | d :: ds => toPy d :: toPys ds
end
theorem toPys_map (ds : List D) : toPys ds = ds.map toPy := by
  induction ds with
  | nil => unfold toPys; rfl
  | cons d ds ih => unfold toPys; rw [ih]; rfl
/-- plain, of depth n at most -/
def Pl (n : Nat) (d : D) : Prop := (toPy d).canLay0 = true ∧ (toPy d).depth ≤ n
theorem pl_non {n : Nat} : Pl n .non := ⟨by unfold toPy PyData.canLay0; rfl, by unfold toPy PyData.depth; exact Nat.zero_le _⟩
theorem pl_bl {n : Nat} {b : Bool} : Pl n (.bl b) := ⟨by unfold toPy PyData.canLay0; rfl, by unfold toPy PyData.depth; exact Nat.zero_le _⟩
theorem pl_int {n : Nat} {i : Int} : Pl n (.int i) := ⟨by unfold toPy PyData.canLay0; rfl, by unfold toPy PyData.depth; exact Nat.zero_le _⟩
theorem pl_all {n : Nat} : ∀ {ds : List D}, (∀ d ∈ ds, Pl n d) → PyData.canLayAll0 (toPys ds) = true ∧ PyData.depthAll (toPys ds) ≤ n
  | [], _ => ⟨by unfold toPys PyData.canLayAll0; rfl, by unfold toPys PyData.depthAll; exact Nat.zero_le _⟩
  | d :: ds, h => by
    obtain ⟨a, b⟩ := h d List.mem_cons_self
    obtain ⟨a2, b2⟩ := pl_all fun e he => h e (List.mem_cons_of_mem _ he)
    unfold toPys PyData.canLayAll0 PyData.depthAll
    exact ⟨by rw [a, a2]; rfl, Nat.max_le.mpr ⟨b, b2⟩⟩
theorem pl_tup {n : Nat} {ds : List D} (h : ∀ d ∈ ds, Pl n d) : Pl (n + 1) (.tup ds) := by
  obtain ⟨a, b⟩ := pl_all h
  unfold Pl toPy PyData.canLay0 PyData.depth
  exact ⟨a, Nat.succ_le_succ b⟩
theorem pl_lst {n : Nat} {ds : List D} (h : ∀ d ∈ ds, Pl n d) : Pl (n + 1) (.lst ds) := by
  obtain ⟨a, b⟩ := pl_all h
  unfold Pl toPy PyData.canLay0 PyData.depth
  exact ⟨a, Nat.succ_le_succ b⟩
theorem Pl.mono {n m : Nat} {d : D} (h : Pl n d) (l : n ≤ m) : Pl m d := ⟨h.1, Nat.le_trans h.2 l⟩
theorem Pl.shaped {d : D} (h : Pl 64 d) : SeqAt.shaped (toPy d) = true := by
  unfold SeqAt.shaped
  rw [h.1, decide_eq_true h.2]; rfl
theorem pl_ints {n : Nat} {xs : List Int} : Pl (n + 1) (.tup (xs.map .int)) := pl_tup fun d hd => by
  obtain ⟨i, _, rfl⟩ := List.mem_map.mp hd
  exact pl_int
section
variable {K : PySem.W.Frag} {N : Addr → Prop} {H : Hp}
mutual
theorem dn_dp : ∀ {d : D} {v : V}, (toPy d).canLay0 = true → Dn K N H d v → Dp K H v (toPy d)
  | .non, _, _, h => by unfold Dn at h; subst h; unfold toPy; exact .non
  | .bl b, _, _, h => by unfold Dn at h; subst h; unfold toPy; exact .bl b
  | .int i, _, _, h => by unfold Dn at h; subst h; unfold toPy; exact .int i
  | .str x, _, _, h => by unfold Dn at h; subst h; unfold toPy; exact .str x
  | .tup ds, _, c, h => by
    unfold Dn at h; obtain ⟨a, xs, rfl, ht, hd⟩ := h
    unfold toPy PyData.canLay0 at c
    unfold toPy
    exact .tup ht.seq (dns_dp c hd)
  | .lst ds, _, c, h => by
    unfold Dn at h; obtain ⟨a, xs, rfl, ht, hd⟩ := h
    unfold toPy PyData.canLay0 at c
    unfold toPy
    exact .lst ht.seq (dns_dp c hd)
  | .fls ds, _, c, h => by
    unfold Dn at h; obtain ⟨a, xs, rfl, ht, hd⟩ := h
    unfold toPy PyData.canLay0 at c
    unfold toPy
    exact .lst ht.seq (dns_dp c hd)
  | .ins _ _, _, c, _ => by unfold toPy PyData.canLay0 at c; cases c
  | .ptr _, _, c, _ => by unfold toPy PyData.canLay0 at c; cases c
  | .ty _, _, c, _ => by unfold toPy PyData.canLay0 at c; cases c
theorem dns_dp : ∀ {ds : List D} {xs : List V}, PyData.canLayAll0 (toPys ds) = true → Dns K N H ds xs → DpAll K H xs (toPys ds)
  | [], _, _, h => by unfold Dns at h; subst h; unfold toPys; exact .nil
  | d :: ds, _, c, h => by
    unfold Dns at h; obtain ⟨x, r, rfl, h1, h2⟩ := h
    unfold toPys PyData.canLayAll0 at c
    have c' := Bool.and_eq_true_iff.mp c
    unfold toPys
    exact .cons (dn_dp c'.1 h1) (dns_dp c'.2 h2)
end
/-- ints -/
theorem dns_ints : ∀ {ns : List Int} {xs : List V}, Dns K N H (ns.map .int) xs → xs = ns.map V.int
  | [], _, h => by unfold List.map Dns at h; exact h
  | n :: ns, _, h => by
    simp only [List.map_cons] at h
    unfold Dns at h; obtain ⟨x, r, rfl, h1, h2⟩ := h
    unfold Dn at h1
    subst h1
    rw [dns_ints h2]; rfl
theorem dns_bls : ∀ {ns : List Bool} {xs : List V}, Dns K N H (ns.map .bl) xs → xs = ns.map V.bl
  | [], _, h => by unfold List.map Dns at h; exact h
  | n :: ns, _, h => by
    simp only [List.map_cons] at h
    unfold Dns at h; obtain ⟨x, r, rfl, h1, h2⟩ := h
    unfold Dn at h1
    subst h1
    rw [dns_bls h2]; rfl
theorem dn_int {i : Int} {v : V} (h : Dn K N H (.int i) v) : v = .int i := by unfold Dn at h; exact h
theorem dn_bl {b : Bool} {v : V} (h : Dn K N H (.bl b) v) : v = .bl b := by unfold Dn at h; exact h
theorem dn_non {v : V} (h : Dn K N H .non v) : v = .non := by unfold Dn at h; exact h
theorem dn_str {x : Str} {v : V} (h : Dn K N H (.str x) v) : v = .str x := by unfold Dn at h; exact h
theorem dn_ptr {a : Addr} {v : V} (h : Dn K N H (.ptr a) v) : v = .ref a := by unfold Dn at h; exact h
theorem dn_tup {ds : List D} {v : V} (h : Dn K N H (.tup ds) v) : ∃ a xs, v = .ref a ∧ TupN K N H a xs ∧ Dns K N H ds xs := by unfold Dn at h; exact h
theorem dn_lst {ds : List D} {v : V} (h : Dn K N H (.lst ds) v) : ∃ a xs, v = .ref a ∧ LstN N H a xs ∧ Dns K N H ds xs := by unfold Dn at h; exact h
theorem dn_fls {ds : List D} {v : V} (h : Dn K N H (.fls ds) v) : ∃ a xs, v = .ref a ∧ FlsN K N H a xs ∧ Dns K N H ds xs := by unfold Dn at h; exact h
theorem dn_ins {C : Addr} {fs : List (Str × D)} {v : V} (h : Dn K N H (.ins C fs) v) : ∃ a dx vs, v = .ref a ∧ ¬ N a ∧ H a = some (.ins C dx vs) ∧ DnF K N H fs vs := by unfold Dn at h; exact h
theorem dn_int' {i : Int} : Dn K N H (.int i) (.int i) := by unfold Dn; rfl
theorem dn_bl' {b : Bool} : Dn K N H (.bl b) (.bl b) := by unfold Dn; rfl
theorem dn_non' : Dn K N H .non .non := by unfold Dn; rfl
theorem dn_str' {x : Str} : Dn K N H (.str x) (.str x) := by unfold Dn; rfl
theorem dn_ty {n : String} {v : V} (h : Dn K N H (.ty n) v) : v = .ty n := by unfold Dn at h; exact h
theorem dn_ty' {n : String} : Dn K N H (.ty n) (.ty n) := by unfold Dn; rfl
theorem dn_ptr' {a : Addr} : Dn K N H (.ptr a) (.ref a) := by unfold Dn; rfl
theorem dns_one {d : D} {xs : List V} (h : Dns K N H [d] xs) : ∃ x, xs = [x] ∧ Dn K N H d x := by
  unfold Dns at h; obtain ⟨x, r, rfl, h1, h2⟩ := h
  unfold Dns at h2; subst h2; exact ⟨x, rfl, h1⟩
theorem dns_two {d e : D} {xs : List V} (h : Dns K N H [d, e] xs) : ∃ x y, xs = [x, y] ∧ Dn K N H d x ∧ Dn K N H e y := by
  unfold Dns at h; obtain ⟨x, r, rfl, h1, h2⟩ := h
  obtain ⟨y, rfl, h3⟩ := dns_one h2; exact ⟨x, y, rfl, h1, h3⟩
end
/-- == by data -/
def eqD (a b : D) : Bool := PyData.eqv (toPy a) (toPy b)
theorem eqD_int {i j : Int} : eqD (.int i) (.int j) = decide (i = j) := by
  unfold eqD toPy PyData.eqv
  exact Bool.beq_eq_decide_eq i j
theorem eqD_bl {i j : Bool} : eqD (.bl i) (.bl j) = decide (i = j) := by
  unfold eqD toPy PyData.eqv
  exact Bool.beq_eq_decide_eq i j
theorem eqvAll_map {α : Type} {f : α → PyData} [DecidableEq α] (hf : ∀ a b, PyData.eqv (f a) (f b) = decide (a = b)) : ∀ xs ys : List α, PyData.eqvAll (xs.map f) (ys.map f) = decide (xs = ys)
  | [], [] => by simp [PyData.eqvAll]
  | [], y :: ys => by simp [PyData.eqvAll]
  | x :: xs, [] => by simp [PyData.eqvAll]
  | x :: xs, y :: ys => by
    simp only [List.map_cons, PyData.eqvAll, hf, eqvAll_map hf xs ys, List.cons.injEq, Bool.decide_and]
theorem eqD_tupmap {α : Type} {f : α → D} [DecidableEq α] (hf : ∀ a b, eqD (f a) (f b) = decide (a = b)) (xs ys : List α) : eqD (.tup (xs.map f)) (.tup (ys.map f)) = decide (xs = ys) := by
  unfold eqD toPy PyData.eqv
  rw [toPys_map, toPys_map, List.map_map, List.map_map]
  exact eqvAll_map (f := toPy ∘ f) hf xs ys
theorem eqD_lstmap {α : Type} {f : α → D} [DecidableEq α] (hf : ∀ a b, eqD (f a) (f b) = decide (a = b)) (xs ys : List α) : eqD (.lst (xs.map f)) (.lst (ys.map f)) = decide (xs = ys) := by
  unfold eqD toPy PyData.eqv
  rw [toPys_map, toPys_map, List.map_map, List.map_map]
  exact eqvAll_map (f := toPy ∘ f) hf xs ys
theorem eqD_ints (xs ys : List Int) : eqD (.tup (xs.map .int)) (.tup (ys.map .int)) = decide (xs = ys) := eqD_tupmap (fun _ _ => eqD_int) xs ys
theorem eqD_intss (xs ys : List (List Int)) : eqD (.tup (xs.map fun x => .tup (x.map .int))) (.tup (ys.map fun x => .tup (x.map .int))) = decide (xs = ys) := eqD_tupmap (fun _ _ => eqD_ints _ _) xs ys
theorem eqD_blsL (xs ys : List Bool) : eqD (.lst (xs.map .bl)) (.lst (ys.map .bl)) = decide (xs = ys) := eqD_lstmap (fun _ _ => eqD_bl) xs ys

/-! ### operations on values -/
section
variable (X : Cx) (M : Addr → Prop)
def OpD (f : Value → Value → Sem Value) (a b : D) (ω : Om) (d : D) (ω' : Om) : Prop := ∃ r : R2, OpR X f r ∧ ∀ x y H Q, Sta X.K M ω H → Dn X.K (Mt M ω) H a x → Dn X.K (Mt M ω) H b y →
  (∀ v H', Sta X.K M ω' H' → Stp ω H ω' H' → Dn X.K (Mt M ω') H' d v → Q v H') → r x y H Q
/-- .. a new list -/
def OpN (f : Value → Value → Sem Value) (a b : D) (ω : Om) (ds : List D) (ω' : Om) : Prop := ∃ r : R2, OpR X f r ∧ ∀ x y H Q, Sta X.K M ω H → Dn X.K (Mt M ω) H a x → Dn X.K (Mt M ω) H b y →
  (∀ p H', H p = none → Sta X.K M ((p, .lst ds) :: ω') H' → Stp ω H ((p, .lst ds) :: ω') H' → Q (.ref p) H') → r x y H Q
def UnD (f : Value → Sem Value) (a : D) (ω : Om) (d : D) (ω' : Om) : Prop := ∃ r : V → Hp → VK → Prop, UnR X f r ∧ ∀ x H Q, Sta X.K M ω H → Dn X.K (Mt M ω) H a x →
  (∀ v H', Sta X.K M ω' H' → Stp ω H ω' H' → Dn X.K (Mt M ω') H' d v → Q v H') → r x H Q
def CallD (f : Value) (ds : List D) (ω : Om) (d : D) (ω' : Om) : Prop := ∃ r : List V → Hp → VK → Prop, CallR X f r ∧ ∀ vs H Q, Sta X.K M ω H → Dns X.K (Mt M ω) H ds vs →
  (∀ v H', Sta X.K M ω' H' → Stp ω H ω' H' → Dn X.K (Mt M ω') H' d v → Q v H') → r vs H Q
def CallN (f : Value) (ds : List D) (ω : Om) (es : List D) (ω' : Om) : Prop := ∃ r : List V → Hp → VK → Prop, CallR X f r ∧ ∀ vs H Q, Sta X.K M ω H → Dns X.K (Mt M ω) H ds vs →
  (∀ p H', H p = none → Sta X.K M ((p, .lst es) :: ω') H' → Stp ω H ((p, .lst es) :: ω') H' → Q (.ref p) H') → r vs H Q
def IxD (a b : D) (ω : Om) (d : D) : Prop := ∃ r : R2, IxR X r ∧ ∀ x y H Q, Sta X.K M ω H → Dn X.K (Mt M ω) H a x → Dn X.K (Mt M ω) H b y → (∀ v, Dn X.K (Mt M ω) H d v → Q v H) → r x y H Q
end
section
variable {X : Cx} {M : Addr → Prop} {δ : Sl} {ω ω1 ω2 ω3 : Om} {d a b c : D} {ds es : List D} {e e1 e2 e3 : Expr} {pos : Pos}

theorem re_var (i : Nat) {x : Str} (h : δ[i]? = some (some d)) (hN : X.N[i]? = some x := by rfl) (hv : Vis X.env.scope x := by first | exact Or.inl rfl | exact Or.inr (Or.inl rfl) | exact Or.inr (Or.inr rfl))
    (hd : (x == ("__debug__" : Str)) = false := by decide) (hcd : (x == ("__classdict__" : Str)) = false := by decide) : RE X M (.Name x pos) δ ω d ω :=
  re_of (pe_var hN hv hd hcd) fun σ H Q st sl k => by
    obtain ⟨v, e1, h1⟩ := sl.2 i d h
    exact ⟨v, e1, k v H st (Stp.refl _ _) h1⟩
theorem re_c {v : V} (hp : PE X e (tC v)) (h : ∀ N H, Dn X.K N H d v) : RE X M e δ ω d ω := re_of hp fun σ H Q st sl k => k v H st (Stp.refl _ _) (h _ _)
theorem re_int {i : Int} {j : Nat} : RE X M (.Constant (.int i) j pos) δ ω (.int i) ω := re_c pe_int fun _ _ => dn_int'
theorem re_bl {i : Bool} {j : Nat} : RE X M (.Constant (.bool i) j pos) δ ω (.bl i) ω := re_c pe_bl fun _ _ => dn_bl'
theorem re_non {j : Nat} : RE X M (.Constant .none j pos) δ ω .non ω := re_c pe_non fun _ _ => dn_non'
theorem re_str {i : Str} {j : Nat} : RE X M (.Constant (.str i) j pos) δ ω (.str i) ω := re_c pe_str fun _ _ => dn_str'
/-- a module's int -/
theorem re_gint {x : Str} {i : Int} {t : Tok} (hm : X.mg x = some (.int i t)) (hg : Gl X x := by rfl) (hd : (x == ("__debug__" : Str)) = false := by decide) : RE X M (.Name x pos) δ ω (.int i) ω :=
  re_c (pe_glob (v := .int i) hg hm ⟨_, rfl⟩ hd) fun _ _ => dn_int'
theorem re_bin {op : Operator} (ha : RE X M e1 δ ω a ω1) (hb : RE X M e2 δ ω1 b ω2) (ho : OpD X M (binaryOp op) a b ω2 c ω3) : RE X M (.BinOp e1 op e2 pos) δ ω c ω3 := by
  obtain ⟨r, hr, h⟩ := ho
  refine re_of (pe_op hr (peE X M e1) (peE X M e2)) fun σ H Q st sl k => ?_
  refine ha.t st sl fun x H1 st1 sp1 hx => hb.t st1 (sl.carry sp1.carry) fun y H2 st2 sp2 hy => h x y H2 Q st2 (hx.carry sp2.carry) hy fun v H3 st3 sp3 hv => ?_
  exact k v H3 st3 ((sp1.trans sp2).trans sp3) hv
theorem rn_bin {op : Operator} (ha : RE X M e1 δ ω a ω1) (hb : RE X M e2 δ ω1 b ω2) (ho : OpN X M (binaryOp op) a b ω2 ds ω3) : RN X M (.BinOp e1 op e2 pos) δ ω ds ω3 := by
  obtain ⟨r, hr, h⟩ := ho
  refine rn_of (pe_op hr (peE X M e1) (peE X M e2)) fun σ H Q st sl k => ?_
  refine ha.t st sl fun x H1 st1 sp1 hx => hb.t st1 (sl.carry sp1.carry) fun y H2 st2 sp2 hy => h x y H2 Q st2 (hx.carry sp2.carry) hy fun p H3 hp st3 sp3 => ?_
  refine k p H3 ?_ st3 ((sp1.trans sp2).trans sp3)
  cases q : H p with
  | none => rfl
  | some o => exact absurd hp ((sp1.trans sp2).there p o q)
theorem re_un {op : UnaryOp} (ha : RE X M e1 δ ω a ω1) (ho : UnD X M (unaryOp op) a ω1 c ω3) : RE X M (.UnaryOp op e1 pos) δ ω c ω3 := by
  obtain ⟨r, hr, h⟩ := ho
  refine re_of (pe_un hr (peE X M e1)) fun σ H Q st sl k => ?_
  exact ha.t st sl fun x H1 st1 sp1 hx => h x H1 Q st1 hx fun v H3 st3 sp3 hv => k v H3 st3 (sp1.trans sp3) hv
/-- ints -/
theorem od_I {f : Value → Value → Sem Value} {C : Int → Int → Prop} {g : Int → Int → Int} {i j : Int} (ho : OpR X f (rI C fun i j => .int (g i j))) (hc : C i j) : OpD X M f (.int i) (.int j) ω (.int (g i j)) ω :=
  ⟨_, ho, fun x y H Q st hx hy k => ⟨i, j, dn_int hx, dn_int hy, hc, k _ H st (Stp.refl _ _) dn_int'⟩⟩
theorem od_I0 {f : Value → Value → Sem Value} {g : Int → Int → Int} {i j : Int} (ho : OpR X f (rI0 fun i j => .int (g i j))) : OpD X M f (.int i) (.int j) ω (.int (g i j)) ω :=
  ⟨_, ho, fun x y H Q st hx hy k => ⟨i, j, dn_int hx, dn_int hy, k _ H st (Stp.refl _ _) dn_int'⟩⟩
theorem od_B0 {f : Value → Value → Sem Value} {g : Int → Int → Bool} {i j : Int} (ho : OpR X f (rI0 fun i j => .bl (g i j))) : OpD X M f (.int i) (.int j) ω (.bl (g i j)) ω :=
  ⟨_, ho, fun x y H Q st hx hy k => ⟨i, j, dn_int hx, dn_int hy, k _ H st (Stp.refl _ _) dn_bl'⟩⟩
theorem od_add {i j : Int} : OpD X M (binaryOp .Add) (.int i) (.int j) ω (.int (i + j)) ω := od_I0 op_add
theorem od_sub {i j : Int} : OpD X M (binaryOp .Sub) (.int i) (.int j) ω (.int (i - j)) ω := od_I0 op_sub
theorem od_mul {i j : Int} (h : CMul i j) : OpD X M (binaryOp .Mult) (.int i) (.int j) ω (.int (i * j)) ω := od_I op_mul h
theorem od_mod {i j : Int} (h : 0 < j) : OpD X M (binaryOp .Mod) (.int i) (.int j) ω (.int (i % j)) ω := od_I op_mod h
theorem od_fdiv {i j : Int} (h : CDiv i j) : OpD X M (binaryOp .FloorDiv) (.int i) (.int j) ω (.int (i / j)) ω := od_I op_fdiv h
theorem od_pow {i j : Int} (h : CPow i j) : OpD X M (binaryOp .Pow) (.int i) (.int j) ω (.int (i ^ j.toNat)) ω := od_I op_pow h
theorem od_shl {i j : Int} (h : CPow i j) : OpD X M (binaryOp .LShift) (.int i) (.int j) ω (.int (i * 2 ^ j.toNat)) ω := od_I op_shl h
theorem od_shr {i j : Int} (h : 0 ≤ j) : OpD X M (binaryOp .RShift) (.int i) (.int j) ω (.int (i / 2 ^ j.toNat)) ω := od_I op_shr h
theorem od_and {i j : Int} : OpD X M (binaryOp .BitAnd) (.int i) (.int j) ω (.int (Builtin.bitAnd i j)) ω := od_I0 op_and
theorem od_or {i j : Int} : OpD X M (binaryOp .BitOr) (.int i) (.int j) ω (.int (Builtin.bitOr i j)) ω := od_I0 op_or
theorem od_xor {i j : Int} : OpD X M (binaryOp .BitXor) (.int i) (.int j) ω (.int (Builtin.bitXor i j)) ω := od_I0 op_xor
theorem iod_add {i j : Int} : OpD X M (inplaceOp .Add) (.int i) (.int j) ω (.int (i + j)) ω := od_I0 iop_add
theorem iod_sub {i j : Int} : OpD X M (inplaceOp .Sub) (.int i) (.int j) ω (.int (i - j)) ω := od_I0 iop_sub
theorem ud_neg {i : Int} : UnD X M (unaryOp .USub) (.int i) ω (.int (-i)) ω := ⟨_, un_neg, fun x H Q st hx k => ⟨i, dn_int hx, k _ H st (Stp.refl _ _) dn_int'⟩⟩
/-- tuples -/
theorem od_catT (hz : ds.length + es.length ≤ 100000) : OpD X M (binaryOp .Add) (.tup ds) (.tup es) ω (.tup (ds ++ es)) ω := ⟨_, op_catA, fun x y H Q st hx hy k => by
  obtain ⟨p, xs, rfl, hp, hds⟩ := dn_tup hx
  obtain ⟨q, ys, rfl, hq, hes⟩ := dn_tup hy
  refine ⟨p, q, xs, ys, rfl, rfl, hp.seq, hq.seq, by rw [hds.len, hes.len]; exact sz100 hz, fun e => ?_, fun _ e => ?_, fun _ _ t ht => ?_⟩
  · refine k _ H st (Stp.refl _ _) ?_
    subst e
    have : ds = [] := by have := hds.len; cases ds with | nil => rfl | cons _ _ => simp at this
    subst this; exact hy
  · refine k _ H st (Stp.refl _ _) ?_
    subst e
    have : es = [] := by have := hes.len; cases es with | nil => rfl | cons _ _ => simp at this
    subst this; rw [List.append_nil]; exact hx
  · obtain ⟨a1, a2, a3⟩ := dn_newtup st ht (hds.append hes)
    exact k _ _ a1 a2 a3⟩
theorem od_ltT {xs ys : List Int} (hu : X.A.units < cLine) : OpD X M (compareOp .Lt) (.tup (xs.map .int)) (.tup (ys.map .int)) ω (.bl (HT.lexLt xs ys)) ω := ⟨_, op_ltT hu, fun x y H Q st hx hy k => by
  obtain ⟨p, us, rfl, hp, hds⟩ := dn_tup hx
  obtain ⟨q, ws, rfl, hq, hes⟩ := dn_tup hy
  rw [dns_ints hds] at hp
  rw [dns_ints hes] at hq
  exact ⟨p, q, xs, ys, rfl, rfl, hp.seq, hq.seq, k _ H st (Stp.refl _ _) dn_bl'⟩⟩
theorem od_eq (hu : X.A.units + 64 < cLine) (ha : Pl 64 a) (hb : Pl 64 b) : OpD X M (compareOp .Eq) a b ω (.bl (eqD a b)) ω := ⟨_, op_eqD hu, fun x y H Q st hx hy k =>
  ⟨toPy a, toPy b, dn_dp ha.1 hx, dn_dp hb.1 hy, ha.shaped, hb.shaped, k _ H st (Stp.refl _ _) dn_bl'⟩⟩
theorem od_ne (hu : X.A.units + 64 < cLine) (ha : Pl 64 a) (hb : Pl 64 b) : OpD X M (compareOp .NotEq) a b ω (.bl (!eqD a b)) ω := ⟨_, op_neD hu, fun x y H Q st hx hy k =>
  ⟨toPy a, toPy b, dn_dp ha.1 hx, dn_dp hb.1 hy, ha.shaped, hb.shaped, k _ H st (Stp.refl _ _) dn_bl'⟩⟩
theorem od_lt {i j : Int} : OpD X M (compareOp .Lt) (.int i) (.int j) ω (.bl (decide (i < j))) ω := od_B0 op_lt
theorem od_le {i j : Int} : OpD X M (compareOp .LtE) (.int i) (.int j) ω (.bl (decide (i ≤ j))) ω := od_B0 op_le
theorem od_gt {i j : Int} : OpD X M (compareOp .Gt) (.int i) (.int j) ω (.bl (decide (j < i))) ω := od_B0 op_gt
theorem od_ge {i j : Int} : OpD X M (compareOp .GtE) (.int i) (.int j) ω (.bl (decide (j ≤ i))) ω := od_B0 op_ge
theorem od_eqI {i j : Int} : OpD X M (compareOp .Eq) (.int i) (.int j) ω (.bl (decide (i = j))) ω := ⟨_, op_eq, fun x y H Q st hx hy k => by
  have e1 := dn_int hx; have e2 := dn_int hy; subst e1; subst e2
  refine ⟨rfl, ?_⟩
  have : decide (V.int i = V.int j) = decide (i = j) := by rw [dec_int]; exact Bool.beq_eq_decide_eq i j
  rw [this]
  exact k _ H st (Stp.refl _ _) dn_bl'⟩
theorem od_neI {i j : Int} : OpD X M (compareOp .NotEq) (.int i) (.int j) ω (.bl (!decide (i = j))) ω := ⟨_, op_ne, fun x y H Q st hx hy k => by
  have e1 := dn_int hx; have e2 := dn_int hy; subst e1; subst e2
  refine ⟨rfl, ?_⟩
  have : decide (V.int i = V.int j) = decide (i = j) := by rw [dec_int]; exact Bool.beq_eq_decide_eq i j
  rw [this]
  exact k _ H st (Stp.refl _ _) dn_bl'⟩
def isNon : D → Bool
  | .non => true
  | _ => false
theorem dn_isnon {K : PySem.W.Frag} {N : Addr → Prop} {H : Hp} {v : V} (h : Dn K N H d v) : decide (v = .non) = isNon d := by
  cases d with
  | non => rw [dn_non h]; rfl
  | bl b => rw [dn_bl h]; rfl
  | int b => rw [dn_int h]; rfl
  | str b => rw [dn_str h]; rfl
  | ptr b => rw [dn_ptr h]; rfl
  | ty b => rw [dn_ty h]; rfl
  | tup ds => obtain ⟨p, xs, rfl, _⟩ := dn_tup h; rfl
  | lst ds => obtain ⟨p, xs, rfl, _⟩ := dn_lst h; rfl
  | fls ds => obtain ⟨p, xs, rfl, _⟩ := dn_fls h; rfl
  | ins C fs => obtain ⟨p, _, xs, rfl, _⟩ := dn_ins h; rfl
theorem od_isN : OpD X M (compareOp .Is) a .non ω (.bl (isNon a)) ω := ⟨_, op_isN, fun x y H Q st hx hy k => ⟨dn_non hy, by rw [dn_isnon hx]; exact k _ H st (Stp.refl _ _) dn_bl'⟩⟩
theorem od_notN : OpD X M (compareOp .IsNot) a .non ω (.bl (!isNon a)) ω := ⟨_, op_notN, fun x y H Q st hx hy k => ⟨dn_non hy, by rw [dn_isnon hx]; exact k _ H st (Stp.refl _ _) dn_bl'⟩⟩

/-! ### comparisons as values, as tests -/
theorem re_cmp {op : CmpOp} {k : Bool} (ha : RE X M e1 δ ω a ω1) (hb : RE X M e2 δ ω1 b ω2) (ho : OpD X M (compareOp op) a b ω2 (.bl k) ω3) (hm : behindInMarks op e2 = false := by first | exact nomark _ | rfl) : RE X M (.Compare e1 [op] [e2] pos) δ ω (.bl k) ω3 := by
  obtain ⟨r, hr, h⟩ := ho
  refine re_of (pe_cmpR hr (peE X M e1) (peE X M e2) hm) fun σ H Q st sl k => ?_
  refine ha.t st sl fun x H1 st1 sp1 hx => hb.t st1 (sl.carry sp1.carry) fun y H2 st2 sp2 hy => h x y H2 Q st2 (hx.carry sp2.carry) hy fun v H3 st3 sp3 hv => ?_
  exact k v H3 st3 ((sp1.trans sp2).trans sp3) hv
theorem rt_cmp {op : CmpOp} {k : Bool} (ha : RE X M e1 δ ω a ω1) (hb : RE X M e2 δ ω1 b ω2) (ho : OpD X M (compareOp op) a b ω2 (.bl k) ω3) (hm : behindInMarks op e2 = false := by first | exact nomark _ | rfl) : RT X M (.Compare e1 [op] [e2] pos) δ ω k ω3 := by
  obtain ⟨r, hr, h⟩ := ho
  refine rt_of (pt_cmpR hr (peE X M e1) (peE X M e2) hm) fun σ H Q st sl k => ?_
  refine ha.t st sl fun x H1 st1 sp1 hx => hb.t st1 (sl.carry sp1.carry) fun y H2 st2 sp2 hy => h x y H2 _ st2 (hx.carry sp2.carry) hy fun v H3 st3 sp3 hv => ?_
  exact ⟨_, dn_bl hv, k H3 st3 ((sp1.trans sp2).trans sp3)⟩
/-- a op b op' c of plain values -/
theorem re_chain {op op' : CmpOp} {k k' : Bool} (ha : RE X M e1 δ ω a ω) (hb : RE X M e2 δ ω b ω) (ho : OpD X M (compareOp op) a b ω (.bl k) ω) (hc : RE X M e3 δ ω c ω) (ho' : OpD X M (compareOp op') b c ω (.bl k') ω)
    (h1 : lastMarks [op, op'] [e2, e3] = false := by rfl) : RE X M (.Compare e1 [op, op'] [e2, e3] pos) δ ω (.bl (k && k')) ω := by
  obtain ⟨r, hr, h⟩ := ho
  obtain ⟨r', hr', h'⟩ := ho'
  refine re_of (pe_chain hr hr' (peE X M e1) (peE X M e2) (peE X M e3) h1) fun σ H Q st sl k => ?_
  refine ha.t st sl fun x H1 st1 sp1 hx => hb.t st1 (sl.carry sp1.carry) fun y H2 st2 sp2 hy => h x y H2 _ st2 (hx.carry sp2.carry) hy fun v H3 st3 sp3 hv => ?_
  refine ⟨_, dn_bl hv, ?_⟩
  rename_i kk
  cases kk with
  | true =>
    rw [if_pos rfl]
    refine hc.t st3 (sl.carry ((sp1.trans sp2).trans sp3).carry) fun z H4 st4 sp4 hz => h' y z H4 _ st4 (hy.carry (sp3.trans sp4).carry) hz fun v H5 st5 sp5 hv => ?_
    rw [Bool.true_and] at k
    exact k v H5 st5 ((((sp1.trans sp2).trans sp3).trans sp4).trans sp5) hv
  | false =>
    rw [if_neg Bool.false_ne_true]
    exact k _ H3 st3 ((sp1.trans sp2).trans sp3) dn_bl'
theorem rt_val {k : Bool} (h : RE X M e δ ω (.bl k) ω1) (he : ∀ whole, isTrue e X.env whole = (do let v ← whole; standAt e.pos; holding [v] (truthy v)) := by intro _; rfl) : RT X M e δ ω k ω1 :=
  rt_of (pt_val (peE X M e) he) fun σ H Q st sl k => h.t st sl fun v H1 st1 sp1 hv => ⟨_, dn_bl hv, k H1 st1 sp1⟩
/-! ### and, or, not -/
variable {k k' : Bool} {rest : List Expr}
theorem re_one {op : BoolOp} (h : RE X M e δ ω a ω1) : RE X M (.BoolOp op [e] pos) δ ω a ω1 := re_of (pe_one (peE X M e)) fun σ H Q st sl k => h.t st sl k
theorem re_andT (h : RE X M e δ ω (.bl true) ω1) (hr : RE X M (.BoolOp .And (e2 :: rest) pos) δ ω1 a ω2) : RE X M (.BoolOp .And (e :: e2 :: rest) pos) δ ω a ω2 :=
  re_of (pe_and (peE X M e) (peE X M _)) fun σ H Q st sl k => h.t st sl fun v H1 st1 sp1 hv => ⟨true, dn_bl hv, by
    rw [if_pos rfl]
    exact hr.t st1 (sl.carry sp1.carry) fun v H2 st2 sp2 hv => k v H2 st2 (sp1.trans sp2) hv⟩
theorem re_andF (h : RE X M e δ ω (.bl false) ω1) : RE X M (.BoolOp .And (e :: e2 :: rest) pos) δ ω (.bl false) ω1 :=
  re_of (pe_and (peE X M e) (peE X M _)) fun σ H Q st sl k => h.t st sl fun v H1 st1 sp1 hv => ⟨false, dn_bl hv, by
    rw [if_neg Bool.false_ne_true]
    exact k _ H1 st1 sp1 dn_bl'⟩
/-- the second is asked only where the first is true -/
theorem re_and (h : RE X M e δ ω (.bl k) ω1) (hr : k = true → RE X M (.BoolOp .And (e2 :: rest) pos) δ ω1 (.bl k') ω1) : RE X M (.BoolOp .And (e :: e2 :: rest) pos) δ ω (.bl (k && k')) ω1 := by
  cases k with
  | true => rw [Bool.true_and]; exact re_andT h (hr rfl)
  | false => exact re_andF h
theorem re_orF (h : RE X M e δ ω (.bl false) ω1) (hr : RE X M (.BoolOp .Or (e2 :: rest) pos) δ ω1 a ω2) : RE X M (.BoolOp .Or (e :: e2 :: rest) pos) δ ω a ω2 :=
  re_of (pe_or (peE X M e) (peE X M _)) fun σ H Q st sl k => h.t st sl fun v H1 st1 sp1 hv => ⟨false, dn_bl hv, by
    rw [if_neg Bool.false_ne_true]
    exact hr.t st1 (sl.carry sp1.carry) fun v H2 st2 sp2 hv => k v H2 st2 (sp1.trans sp2) hv⟩
theorem re_orT (h : RE X M e δ ω (.bl true) ω1) : RE X M (.BoolOp .Or (e :: e2 :: rest) pos) δ ω (.bl true) ω1 :=
  re_of (pe_or (peE X M e) (peE X M _)) fun σ H Q st sl k => h.t st sl fun v H1 st1 sp1 hv => ⟨true, dn_bl hv, by
    rw [if_pos rfl]
    exact k _ H1 st1 sp1 dn_bl'⟩
theorem re_or (h : RE X M e δ ω (.bl k) ω1) (hr : k = false → RE X M (.BoolOp .Or (e2 :: rest) pos) δ ω1 (.bl k') ω1) : RE X M (.BoolOp .Or (e :: e2 :: rest) pos) δ ω (.bl (k || k')) ω1 := by
  cases k with
  | false => rw [Bool.false_or]; exact re_orF h (hr rfl)
  | true => exact re_orT h
theorem re_not (h : RE X M e δ ω (.bl k) ω1) : RE X M (.UnaryOp .Not e pos) δ ω (.bl (!k)) ω1 := re_of (pe_not (peE X M e)) fun σ H Q st sl kk => h.t st sl fun v H1 st1 sp1 hv => ⟨k, dn_bl hv, kk _ H1 st1 sp1 dn_bl'⟩
theorem rt_not (h : RT X M e δ ω k ω1) : RT X M (.UnaryOp .Not e pos) δ ω (!k) ω1 := rt_of (pt_not (ptT X M e)) fun σ H Q st sl kk => h.t st sl fun H1 st1 sp1 => kk H1 st1 sp1
theorem rw_and1 (h : RT X M e δ ω k ω1) : RW X M (.BoolOp .And [e] pos) δ ω k ω1 := rw_of (pw_and1 (ptT X M e)) fun σ H Q st sl kk => h.t st sl fun H1 st1 sp1 => kk H1 st1 sp1
theorem rw_or1 (h : RT X M e δ ω k ω1) : RW X M (.BoolOp .Or [e] pos) δ ω k ω1 := rw_of (pw_or1 (ptT X M e)) fun σ H Q st sl kk => h.t st sl fun H1 st1 sp1 => kk H1 st1 sp1
theorem rw_and (h : RT X M e δ ω k ω1) (hr : k = true → RW X M (.BoolOp .And (e2 :: rest) pos) δ ω1 k' ω1) : RW X M (.BoolOp .And (e :: e2 :: rest) pos) δ ω (k && k') ω1 :=
  rw_of (pw_and (ptT X M e) (pwW X M _)) fun σ H Q st sl kk => h.t st sl fun H1 st1 sp1 => by
    cases k with
    | true =>
      rw [if_pos rfl]
      rw [Bool.true_and] at kk
      exact (hr rfl).t st1 (sl.carry sp1.carry) fun H2 st2 sp2 => kk H2 st2 (sp1.trans sp2)
    | false => rw [if_neg Bool.false_ne_true]; exact kk H1 st1 sp1
theorem rw_or (h : RT X M e δ ω k ω1) (hr : k = false → RW X M (.BoolOp .Or (e2 :: rest) pos) δ ω1 k' ω1) : RW X M (.BoolOp .Or (e :: e2 :: rest) pos) δ ω (k || k') ω1 :=
  rw_of (pw_or (ptT X M e) (pwW X M _)) fun σ H Q st sl kk => h.t st sl fun H1 st1 sp1 => by
    cases k with
    | false =>
      rw [if_neg Bool.false_ne_true]
      rw [Bool.false_or] at kk
      exact (hr rfl).t st1 (sl.carry sp1.carry) fun H2 st2 sp2 => kk H2 st2 (sp1.trans sp2)
    | true => rw [if_pos rfl]; exact kk H1 st1 sp1
theorem re_if (h : RT X M e δ ω k ω1) (h1 : k = true → RE X M e1 δ ω1 a ω2) (h2 : k = false → RE X M e2 δ ω1 a ω2) : RE X M (.IfExp e e1 e2 pos) δ ω a ω2 :=
  re_of (pe_ifExp (ptT X M e) (peE X M e1) (peE X M e2)) fun σ H Q st sl kk => h.t st sl fun H1 st1 sp1 => by
    cases k with
    | true => rw [if_pos rfl]; exact (h1 rfl).t st1 (sl.carry sp1.carry) fun v H2 st2 sp2 hv => kk v H2 st2 (sp1.trans sp2) hv
    | false => rw [if_neg Bool.false_ne_true]; exact (h2 rfl).t st1 (sl.carry sp1.carry) fun v H2 st2 sp2 hv => kk v H2 st2 (sp1.trans sp2) hv
theorem RE.to (h : RE X M e δ ω a ω1) (q : a = b) : RE X M e δ ω b ω1 := q ▸ h
theorem RT.to (h : RT X M e δ ω k ω1) (q : k = k') : RT X M e δ ω k' ω1 := q ▸ h
theorem RN.to (h : RN X M e δ ω ds ω1) (q : ds = es) : RN X M e δ ω es ω1 := q ▸ h

/-! ### displays -/
theorem re_tup {j : Nat} {l : List Expr} (h : RA X M l δ ω ds ω1) (hz : ds.length ≤ 100000 := by first | decide | (simp; done) | (simp; omega)) : RE X M (.Tuple l j pos) δ ω (.tup ds) ω1 := by
  obtain ⟨t, hp, ht⟩ := h
  refine re_of (pe_tup hp) fun σ H Q st sl k => ht σ H _ st sl fun vs H1 st1 sp1 hds => ⟨by rw [hds.len]; exact sz100 hz, fun p hp => ?_⟩
  obtain ⟨a1, a2, a3⟩ := dn_newtup st1 hp hds
  exact k _ _ a1 (sp1.trans a2) a3
theorem take_lst {K : PySem.W.Frag} {H : Hp} {p : Addr} {xs : List V} (st : Sta K M ω H) (hp : H p = none) (hds : Dns K (Mt M ω) H ds xs) : Sta K M ((p, .lst ds) :: ω) (upd H p (.lst xs)) ∧ Stp ω H ((p, .lst ds) :: ω) (upd H p (.lst xs)) :=
  st.take hp fun N' H' c e => ⟨xs, e, dns_map c hds⟩
theorem fresh_of {H H' : Hp} {p : Addr} (sp : Stp ω H ω1 H') (h : H' p = none) : H p = none := by
  cases q : H p with
  | none => rfl
  | some o => exact absurd h (sp.there p o q)
theorem rn_lst {l : List Expr} (h : RA X M l δ ω ds ω1) (hz : ds.length ≤ 100000 := by first | decide | (simp; done) | (simp; omega)) : RN X M (.List l pos) δ ω ds ω1 := by
  obtain ⟨t, hp, ht⟩ := h
  refine rn_of (pe_lst hp) fun σ H Q st sl k => ht σ H _ st sl fun vs H1 st1 sp1 hds => ⟨by rw [hds.len]; exact sz100 hz, fun p hp => ?_⟩
  obtain ⟨a1, a2⟩ := take_lst st1 hp hds
  exact k _ _ (fresh_of sp1 hp) a1 (sp1.trans a2)

/-! ### built-ins by name -/
variable {x : Str} {l : List Expr} {p p2 : Pos}
theorem re_callB {id : String} (hm : X.mg x = none) (ha : RA X M (e :: l) δ ω ds ω1) (hc : CallD X M (.builtin id) ds ω1 d ω2) (hv : bootBuiltins x = some (.builtin id) := by decide +kernel) (hg : Gl X x := by rfl) (hn : x ≠ "__name__" := by decide) (hdb : (x == ("__debug__" : Str)) = false := by decide)
    (he : starEach (e :: l) X.env = (false, eval e X.env) :: starEach l X.env := by rfl) (hpl : (backTo pos (starEach l X.env)).any (·.1) = false := by rfl) : RE X M (.Call (.Name x p) (e :: l) [] pos) δ ω d ω2 := by
  obtain ⟨t, hp, ht⟩ := ha
  obtain ⟨r, hr, h⟩ := hc
  refine re_of (pe_callB hr hg hm hv hp hn hdb he hpl) fun σ H Q st sl k => ht σ H _ st sl fun vs H1 st1 sp1 hds => h vs H1 Q st1 hds fun v H2 st2 sp2 hv => k v H2 st2 (sp1.trans sp2) hv
theorem re_callTy {T : String} (hm : X.mg x = none) (ha : RA X M (e :: l) δ ω ds ω1) (hc : CallD X M (.type T) ds ω1 d ω2) (hv : bootBuiltins x = some (.type T) := by decide +kernel) (hg : Gl X x := by rfl) (hn : x ≠ "__name__" := by decide) (hdb : (x == ("__debug__" : Str)) = false := by decide)
    (he : starEach (e :: l) X.env = (false, eval e X.env) :: starEach l X.env := by rfl) (hpl : (backTo pos (starEach l X.env)).any (·.1) = false := by rfl) : RE X M (.Call (.Name x p) (e :: l) [] pos) δ ω d ω2 := by
  obtain ⟨t, hp, ht⟩ := ha
  obtain ⟨r, hr, h⟩ := hc
  refine re_of (pe_callTy hr hg hm hv hp hn hdb he hpl) fun σ H Q st sl k => ht σ H _ st sl fun vs H1 st1 sp1 hds => h vs H1 Q st1 hds fun v H2 st2 sp2 hv => k v H2 st2 (sp1.trans sp2) hv
theorem rn_callB {id : String} (hm : X.mg x = none) (ha : RA X M (e :: l) δ ω ds ω1) (hc : CallN X M (.builtin id) ds ω1 es ω2) (hv : bootBuiltins x = some (.builtin id) := by decide +kernel) (hg : Gl X x := by rfl) (hn : x ≠ "__name__" := by decide) (hdb : (x == ("__debug__" : Str)) = false := by decide)
    (he : starEach (e :: l) X.env = (false, eval e X.env) :: starEach l X.env := by rfl) (hpl : (backTo pos (starEach l X.env)).any (·.1) = false := by rfl) : RN X M (.Call (.Name x p) (e :: l) [] pos) δ ω es ω2 := by
  obtain ⟨t, hp, ht⟩ := ha
  obtain ⟨r, hr, h⟩ := hc
  refine rn_of (pe_callB hr hg hm hv hp hn hdb he hpl) fun σ H Q st sl k => ht σ H _ st sl fun vs H1 st1 sp1 hds => h vs H1 Q st1 hds fun v H2 hv st2 sp2 => k v H2 (fresh_of sp1 hv) st2 (sp1.trans sp2)
theorem rn_callTy {T : String} (hm : X.mg x = none) (ha : RA X M (e :: l) δ ω ds ω1) (hc : CallN X M (.type T) ds ω1 es ω2) (hv : bootBuiltins x = some (.type T) := by decide +kernel) (hg : Gl X x := by rfl) (hn : x ≠ "__name__" := by decide) (hdb : (x == ("__debug__" : Str)) = false := by decide)
    (he : starEach (e :: l) X.env = (false, eval e X.env) :: starEach l X.env := by rfl) (hpl : (backTo pos (starEach l X.env)).any (·.1) = false := by rfl) : RN X M (.Call (.Name x p) (e :: l) [] pos) δ ω es ω2 := by
  obtain ⟨t, hp, ht⟩ := ha
  obtain ⟨r, hr, h⟩ := hc
  refine rn_of (pe_callTy hr hg hm hv hp hn hdb he hpl) fun σ H Q st sl k => ht σ H _ st sl fun vs H1 st1 sp1 hds => h vs H1 Q st1 hds fun v H2 hv st2 sp2 => k v H2 (fresh_of sp1 hv) st2 (sp1.trans sp2)
theorem cd_lenT : CallD X M (.builtin "len") [.tup ds] ω (.int ds.length) ω := ⟨_, call_len_seq, fun vs H Q st hs k => by
  obtain ⟨v, rfl, hv⟩ := dns_one hs
  obtain ⟨q, xs, rfl, hq, hd⟩ := dn_tup hv
  refine ⟨q, xs, rfl, .inr hq.seq, ?_⟩
  rw [hd.len]; exact k _ H st (Stp.refl _ _) dn_int'⟩
theorem cd_lenL : CallD X M (.builtin "len") [.lst ds] ω (.int ds.length) ω := ⟨_, call_len_seq, fun vs H Q st hs k => by
  obtain ⟨v, rfl, hv⟩ := dns_one hs
  obtain ⟨q, xs, rfl, hq, hd⟩ := dn_lst hv
  refine ⟨q, xs, rfl, .inl hq.seq, ?_⟩
  rw [hd.len]; exact k _ H st (Stp.refl _ _) dn_int'⟩
theorem cd_lenO {q : Addr} (i : Nat) (h : ω[i]? = some (q, .lst ds)) : CallD X M (.builtin "len") [.ptr q] ω (.int ds.length) ω := ⟨_, call_len_seq, fun vs H Q st hs k => by
  obtain ⟨v, rfl, hv⟩ := dns_one hs
  have := dn_ptr hv; subst this
  obtain ⟨xs, hx, hd⟩ := st.get h
  refine ⟨q, xs, rfl, .inl (SqL.of hx), ?_⟩
  rw [hd.len]; exact k _ H st (Stp.refl _ _) dn_int'⟩
theorem cd_sumL {ns : List Int} (hc : X.calm = true := by rfl) : CallD X M (.builtin "sum") [.lst (ns.map .int)] ω (.int ns.sum) ω := ⟨_, cr_sum hc, fun vs H Q st hs k => by
  obtain ⟨v, rfl, hv⟩ := dns_one hs
  obtain ⟨q, xs, rfl, hq, hd⟩ := dn_lst hv
  rw [dns_ints hd] at hq
  exact ⟨q, ns, rfl, hq.seq, k _ H st (Stp.refl _ _) dn_int'⟩⟩
theorem cd_sumO {q : Addr} {ns : List Int} (i : Nat) (h : ω[i]? = some (q, .lst (ns.map .int))) (hc : X.calm = true := by rfl) : CallD X M (.builtin "sum") [.ptr q] ω (.int ns.sum) ω := ⟨_, cr_sum hc, fun vs H Q st hs k => by
  obtain ⟨v, rfl, hv⟩ := dns_one hs
  have := dn_ptr hv; subst this
  obtain ⟨xs, hx, hd⟩ := st.get h
  rw [dns_ints hd] at hx
  exact ⟨q, ns, rfl, SqL.of hx, k _ H st (Stp.refl _ _) dn_int'⟩⟩
theorem cd_any {ns : List Bool} (hc : X.calm = true := by rfl) : CallD X M (.builtin "any") [.lst (ns.map .bl)] ω (.bl (ns.any id)) ω := ⟨_, cr_any hc, fun vs H Q st hs k => by
  obtain ⟨v, rfl, hv⟩ := dns_one hs
  obtain ⟨q, xs, rfl, hq, hd⟩ := dn_lst hv
  rw [dns_bls hd] at hq
  exact ⟨q, ns, rfl, hq.seq, k _ H st (Stp.refl _ _) dn_bl'⟩⟩
theorem cd_all {ns : List Bool} (hc : X.calm = true := by rfl) : CallD X M (.builtin "all") [.lst (ns.map .bl)] ω (.bl (ns.all id)) ω := ⟨_, cr_all hc, fun vs H Q st hs k => by
  obtain ⟨v, rfl, hv⟩ := dns_one hs
  obtain ⟨q, xs, rfl, hq, hd⟩ := dn_lst hv
  rw [dns_bls hd] at hq
  exact ⟨q, ns, rfl, hq.seq, k _ H st (Stp.refl _ _) dn_bl'⟩⟩
def maxI (ns : List Int) : Int := ns.foldl (fun a b => if b > a then b else a) (ns.headD 0)
def minI (ns : List Int) : Int := ns.foldl (fun a b => if b < a then b else a) (ns.headD 0)
theorem foldmax : ∀ (ns : List Int) (a : Int), let m := ns.foldl (fun a b => if b > a then b else a) a; (m = a ∨ m ∈ ns) ∧ a ≤ m ∧ ∀ y ∈ ns, y ≤ m
  | [], a => ⟨.inl rfl, Int.le_refl _, fun _ h => nomatch h⟩
  | n :: ns, a => by
    simp only [List.foldl_cons]
    have ih := foldmax ns (if n > a then n else a)
    simp only at ih
    obtain ⟨h1, h2, h3⟩ := ih
    have hc : (if n > a then n else a) = n ∨ (if n > a then n else a) = a := by split <;> simp
    have hg : a ≤ (if n > a then n else a) ∧ n ≤ (if n > a then n else a) := by split <;> omega
    refine ⟨?_, Int.le_trans hg.1 h2, fun y hy => ?_⟩
    · rcases h1 with h1 | h1
      · rcases hc with e | e
        · rw [e] at h1 ⊢; rw [h1]; exact .inr List.mem_cons_self
        · rw [e] at h1 ⊢; exact .inl h1
      · exact .inr (List.mem_cons_of_mem _ h1)
    · rcases List.mem_cons.mp hy with rfl | hy
      · exact Int.le_trans hg.2 h2
      · exact h3 y hy
theorem maxI_eq {ns : List Int} {m : Int} (h : m ∈ ns) (hm : ∀ y ∈ ns, y ≤ m) : m = maxI ns := by
  cases ns with
  | nil => cases h
  | cons n ns =>
    have ih := foldmax (n :: ns) n
    simp only at ih
    obtain ⟨h1, h2, h3⟩ := ih
    have e : maxI (n :: ns) = (n :: ns).foldl (fun a b => if b > a then b else a) n := rfl
    rw [← e] at h1 h2 h3
    have a1 := h3 m h
    have a2 : maxI (n :: ns) ≤ m := by
      rcases h1 with h1 | h1
      · rw [h1]; exact hm n List.mem_cons_self
      · exact hm _ h1
    omega
theorem cd_maxL {ns : List Int} (hne : ns ≠ []) (hc : X.calm = true := by rfl) : CallD X M (.builtin "max") [.lst (ns.map .int)] ω (.int (maxI ns)) ω := ⟨_, cr_max hc, fun vs H Q st hs k => by
  obtain ⟨v, rfl, hv⟩ := dns_one hs
  obtain ⟨q, xs, rfl, hq, hd⟩ := dn_lst hv
  rw [dns_ints hd] at hq
  refine ⟨q, ns, rfl, hq.seq, List.length_pos_iff.mpr hne, fun m h1 h2 => ?_⟩
  rw [maxI_eq h1 h2]
  exact k _ H st (Stp.refl _ _) dn_int'⟩
theorem cd_max2 {i j : Int} (hc : X.calm = true := by rfl) : CallD X M (.builtin "max") [.int i, .int j] ω (.int (if j > i then j else i)) ω := ⟨_, call_max2 hc, fun vs H Q st hs k => by
  obtain ⟨v, w, rfl, hv, hw⟩ := dns_two hs
  rw [dn_int hv, dn_int hw]
  exact ⟨i, j, rfl, k _ H st (Stp.refl _ _) dn_int'⟩⟩
theorem cd_min2 {i j : Int} (hc : X.calm = true := by rfl) : CallD X M (.builtin "min") [.int i, .int j] ω (.int (if j < i then j else i)) ω := ⟨_, call_min2 hc, fun vs H Q st hs k => by
  obtain ⟨v, w, rfl, hv, hw⟩ := dns_two hs
  rw [dn_int hv, dn_int hw]
  exact ⟨i, j, rfl, k _ H st (Stp.refl _ _) dn_int'⟩⟩
theorem cd_abs {i : Int} : CallD X M (.builtin "abs") [.int i] ω (.int (if i < 0 then -i else i)) ω := ⟨_, call_abs, fun vs H Q st hs k => by
  obtain ⟨v, rfl, hv⟩ := dns_one hs
  rw [dn_int hv]
  exact ⟨i, rfl, k _ H st (Stp.refl _ _) dn_int'⟩⟩
theorem cd_int {i : Int} : CallD X M (.type "int") [.int i] ω (.int i) ω := ⟨_, call_int1, fun vs H Q st hs k => by
  obtain ⟨v, rfl, hv⟩ := dns_one hs
  rw [dn_int hv]
  exact .inl ⟨i, rfl, k _ H st (Stp.refl _ _) dn_int'⟩⟩
theorem cd_tupleL : CallD X M (.type "tuple") [.lst ds] ω (.tup ds) ω := ⟨_, call_tuple_of, fun vs H Q st hs k => by
  obtain ⟨v, rfl, hv⟩ := dns_one hs
  obtain ⟨q, xs, rfl, hq, hd⟩ := dn_lst hv
  refine ⟨q, xs, rfl, .inl ⟨hq.seq, fun t ht => ?_⟩⟩
  obtain ⟨a1, a2, a3⟩ := dn_newtup st ht hd
  exact k _ _ a1 a2 a3⟩
theorem cd_tupleO {q : Addr} (i : Nat) (h : ω[i]? = some (q, .lst ds)) : CallD X M (.type "tuple") [.ptr q] ω (.tup ds) ω := ⟨_, call_tuple_of, fun vs H Q st hs k => by
  obtain ⟨v, rfl, hv⟩ := dns_one hs
  have := dn_ptr hv; subst this
  obtain ⟨xs, hx, hd⟩ := st.get h
  refine ⟨q, xs, rfl, .inl ⟨SqL.of hx, fun t ht => ?_⟩⟩
  obtain ⟨a1, a2, a3⟩ := dn_newtup st ht hd
  exact k _ _ a1 a2 a3⟩
theorem cn_listT : CallN X M (.type "list") [.tup ds] ω ds ω := ⟨_, call_list_of, fun vs H Q st hs k => by
  obtain ⟨v, rfl, hv⟩ := dns_one hs
  obtain ⟨q, xs, rfl, hq, hd⟩ := dn_tup hv
  refine ⟨q, xs, rfl, .inr hq.seq, fun t ht => ?_⟩
  obtain ⟨a1, a2⟩ := take_lst st ht hd
  exact k _ _ ht a1 a2⟩
theorem cn_listL : CallN X M (.type "list") [.lst ds] ω ds ω := ⟨_, call_list_of, fun vs H Q st hs k => by
  obtain ⟨v, rfl, hv⟩ := dns_one hs
  obtain ⟨q, xs, rfl, hq, hd⟩ := dn_lst hv
  refine ⟨q, xs, rfl, .inl hq.seq, fun t ht => ?_⟩
  obtain ⟨a1, a2⟩ := take_lst st ht hd
  exact k _ _ ht a1 a2⟩
/-- xs + ys of lists -/
theorem on_cat (hz : ds.length + es.length ≤ 100000) : OpN X M (binaryOp .Add) (.lst ds) (.lst es) ω (ds ++ es) ω := ⟨_, op_cat, fun x y H Q st hx hy k => by
  obtain ⟨p, xs, rfl, hp, hds⟩ := dn_lst hx
  obtain ⟨q, ys, rfl, hq, hes⟩ := dn_lst hy
  refine ⟨p, q, xs, ys, rfl, rfl, hp.2, hq.2, by rw [hds.len, hes.len]; exact sz100 hz, fun t ht => ?_⟩
  obtain ⟨a1, a2⟩ := take_lst st ht (hds.append hes)
  exact k _ _ ht a1 a2⟩
/-- [..] * n -/
theorem dns_rep {K : PySem.W.Frag} {N : Addr → Prop} {H : Hp} {xs : List V} (h : Dns K N H ds xs) : ∀ n : Nat, Dns K N H (List.replicate n ds).flatten (List.replicate n xs).flatten
  | 0 => dns_nil
  | n + 1 => by
    rw [List.replicate_succ, List.replicate_succ, List.flatten_cons, List.flatten_cons]
    exact h.append (dns_rep h n)
theorem on_rep {n : Int} (h0 : 0 ≤ n) (hz : ds.length * n.toNat ≤ 100000) (hn : n < 2 ^ 63) : OpN X M (binaryOp .Mult) (.lst ds) (.int n) ω (List.replicate n.toNat ds).flatten ω := ⟨_, op_rep, fun x y H Q st hx hy k => by
  obtain ⟨p, xs, rfl, hp, hds⟩ := dn_lst hx
  have := dn_int hy; subst this
  refine ⟨p, n, xs, rfl, rfl, hp.2, by omega, hn, by rw [hds.len]; exact sz100 hz, fun t ht => ?_⟩
  obtain ⟨a1, a2⟩ := take_lst st ht (dns_rep hds n.toNat)
  exact k _ _ ht a1 a2⟩
/-! ### subscripts -/
theorem re_ix (ha : RE X M e1 δ ω a ω1) (hb : RE X M e2 δ ω1 b ω2) (hx : IxD X M a b ω2 d) (hs : PlainIx e2 := by exact fun _ _ => rfl) : RE X M (.Subscript e1 e2 pos) δ ω d ω2 := by
  obtain ⟨r, hr, h⟩ := hx
  refine re_of (pe_ix hr (peE X M e1) (peE X M e2) hs) fun σ H Q st sl k => ?_
  exact ha.t st sl fun x H1 st1 sp1 hx => hb.t st1 (sl.carry sp1.carry) fun y H2 st2 sp2 hy => h x y H2 Q st2 (hx.carry sp2.carry) hy fun v hv => k v H2 st2 (sp1.trans sp2) hv
theorem atI_dns {K : PySem.W.Frag} {N : Addr → Prop} {H : Hp} {xs : List V} {i : Int} (h : Dns K N H ds xs) (hi : atI ds i = some d) : ∃ v, atI xs i = some v ∧ Dn K N H d v := by
  unfold atI at *
  rw [h.len]
  cases e : ixN ds.length i with
  | none => rw [e] at hi; cases hi
  | some j =>
    rw [e] at hi
    obtain ⟨v, h1, h2⟩ := h.get (show ds[j]? = some d from hi)
    exact ⟨v, h1, h2⟩
theorem ix_T {i : Int} (h : atI ds i = some d) : IxD X M (.tup ds) (.int i) ω d := ⟨_, ix_tup, fun x y H Q st hx hy k => by
  obtain ⟨p, xs, rfl, hp, hds⟩ := dn_tup hx
  obtain ⟨v, hv, hd⟩ := atI_dns hds h
  exact ⟨p, xs, i, v, rfl, dn_int hy, hp.seq, hv, k v hd⟩⟩
theorem ix_L {i : Int} (h : atI ds i = some d) : IxD X M (.lst ds) (.int i) ω d := ⟨_, ix_list, fun x y H Q st hx hy k => by
  obtain ⟨p, xs, rfl, hp, hds⟩ := dn_lst hx
  obtain ⟨v, hv, hd⟩ := atI_dns hds h
  exact ⟨p, xs, i, v, rfl, dn_int hy, hp.seq, hv, k v hd⟩⟩
theorem ix_O {q : Addr} {i : Int} (n : Nat) (ho : ω[n]? = some (q, .lst ds)) (h : atI ds i = some d) : IxD X M (.ptr q) (.int i) ω d := ⟨_, ix_list, fun x y H Q st hx hy k => by
  obtain ⟨xs, hx', hds⟩ := st.get ho
  obtain ⟨v, hv, hd⟩ := atI_dns hds h
  exact ⟨q, xs, i, v, dn_ptr hx, dn_int hy, SqL.of hx', hv, k v hd⟩⟩
end
end DV
/-! DV3: targets, statements, loops, comprehensions over deep data. -/
namespace DV
open PySem PySem.Spec PyProof.Rows L2

/-! ### targets -/
structure RG (X : Cx) (M : Addr → Prop) (tg : Expr) (d : D) (δ : Sl) (ω : Om) (δ2 : Sl) : Prop where
  run : ∀ pins s σ H v u, Inv X pins σ H s → Sta X.K M ω H → Slots X.K (Mt M ω) H σ δ → RelV v u → Dn X.K (Mt M ω) H d v →
    wpAny (model X.prog X.w) X.A (assign tg X.env u) (fun _ s' => ∃ σ' H', Inv X pins σ' H' s' ∧ Sta X.K M ω H' ∧ Stp ω H ω H' ∧ Slots X.K (Mt M ω) H' σ' δ2) X.xe s
def gS (X : Cx) (M : Addr → Prop) (tg : Expr) : TG := fun v σ H Q => ∃ d δ ω δ2, RG X M tg d δ ω δ2 ∧ Sta X.K M ω H ∧ Slots X.K (Mt M ω) H σ δ ∧ Dn X.K (Mt M ω) H d v ∧
  ∀ σ' H', Sta X.K M ω H' → Stp ω H ω H' → Slots X.K (Mt M ω) H' σ' δ2 → Q σ' H'
section
variable {X : Cx} {M : Addr → Prop} {tg tg2 : Expr} {d : D} {δ δ2 δ3 : Sl} {ω ω1 ω2 : Om} {pos : Pos}
theorem pgS (X : Cx) (M : Addr → Prop) (tg : Expr) : PG X tg (gS X M tg) := ⟨fun pins s σ H v u Q I r h => by
  obtain ⟨d, δ, ω, δ2, hg, st, sl, hd, k⟩ := h
  exact thn (hg.run pins s σ H v u I st sl r hd) fun _ s' ⟨σ', H', I', a, b, c⟩ => ⟨σ', H', I', k σ' H' a b c⟩⟩
theorem rg_of {g : TG} (hp : PG X tg g) (hr : ∀ v σ H Q, Sta X.K M ω H → Slots X.K (Mt M ω) H σ δ → Dn X.K (Mt M ω) H d v → (∀ σ' H', Sta X.K M ω H' → Stp ω H ω H' → Slots X.K (Mt M ω) H' σ' δ2 → Q σ' H') → g v σ H Q) : RG X M tg d δ ω δ2 :=
  ⟨fun pins s σ H v u I st sl r hd => thn (hp.run pins s σ H v u (fun σ' H' => Sta X.K M ω H' ∧ Stp ω H ω H' ∧ Slots X.K (Mt M ω) H' σ' δ2) I r (hr v σ H _ st sl hd fun σ' H' a b c => ⟨a, b, c⟩)) fun _ s' ⟨σ', H', I', a, b, c⟩ => ⟨σ', H', I', a, b, c⟩⟩
theorem rg_name (i : Nat) {x : Str} (hN : X.N.Nodup) (hi : X.N[i]? = some x := by rfl) (hx : Loc X.env.scope x := by first | exact Or.inl rfl | exact Or.inr rfl) (hf : X.fn x = true ∨ X.env.scope.names.lookup x = some .local := by first | exact .inl rfl | exact .inr rfl) :
    RG X M (.Name x pos) d δ ω (δ.set i (some d)) := rg_of (pg_name hN hi hx hf) fun v σ H Q st sl hd k => k _ H st (Stp.refl _ _) (sl.set hd)
theorem rg_tup2 {a b : D} {j : Nat} (hc : X.calm = true) (h1 : RG X M tg a δ ω δ2) (h2 : RG X M tg2 b δ2 ω δ3) (hs : (assignEach [tg, tg2] X.env).map (·.2) = assign tg X.env :: (assignEach [tg2] X.env).map (·.2) := by rfl)
    (hs2 : (assignEach [tg2] X.env).map (·.2) = assign tg2 X.env :: (assignEach [] X.env).map (·.2) := by rfl) (hn : (assignEach [tg, tg2] X.env).length = 2 := by rfl) (hst : (assignEach [tg, tg2] X.env).findIdx? (·.1) = none := by rfl) :
    RG X M (.Tuple [tg, tg2] j pos) (.tup [a, b]) δ ω δ3 :=
  rg_of (pg_tup hc (pgs_cons (pgS X M tg) (pgs_cons (pgS X M tg2) pgs_nil hs2) hs) hn hst) fun v σ H Q st sl hd k => by
    obtain ⟨p, xs, rfl, hp, hds⟩ := dn_tup hd
    obtain ⟨x, y, rfl, hx, hy⟩ := dns_two hds
    refine ⟨p, _, rfl, hp.seq, rfl, x, [y], rfl, a, δ, ω, δ2, h1, st, sl, hx, fun σ1 H1 st1 sp1 sl1 => ⟨y, [], rfl, b, δ2, ω, δ3, h2, st1, sl1, hy.carry sp1.carry, fun σ2 H2 st2 sp2 sl2 => ⟨rfl, k σ2 H2 st2 (sp1.trans sp2) sl2⟩⟩⟩
end

/-! ### statements -/
inductive Out where
  | nx (δ : Sl) (ω : Om) | rt (d : D) (ω : Om) | bk (δ : Sl) (ω : Om) | ct (δ : Sl) (ω : Om)
def SPost (X : Cx) (M : Addr → Prop) (pins : List (Addr × Obj)) (ω : Om) (H : Hp) (P : Out → Prop) (f : Flow) (s' : Shared) : Prop :=
  match f with
  | .next => ∃ σ' H' δ' ω', Inv X pins σ' H' s' ∧ Sta X.K M ω' H' ∧ Stp ω H ω' H' ∧ Slots X.K (Mt M ω') H' σ' δ' ∧ P (.nx δ' ω')
  | .brk => ∃ σ' H' δ' ω', Inv X pins σ' H' s' ∧ Sta X.K M ω' H' ∧ Stp ω H ω' H' ∧ Slots X.K (Mt M ω') H' σ' δ' ∧ P (.bk δ' ω')
  | .cont => ∃ σ' H' δ' ω', Inv X pins σ' H' s' ∧ Sta X.K M ω' H' ∧ Stp ω H ω' H' ∧ Slots X.K (Mt M ω') H' σ' δ' ∧ P (.ct δ' ω')
  | .ret u => ∃ v σ' H' d ω', Inv X pins σ' H' s' ∧ RelV v u ∧ Sta X.K M ω' H' ∧ Stp ω H ω' H' ∧ Dn X.K (Mt M ω') H' d v ∧ P (.rt d ω')
structure RSt (X : Cx) (M : Addr → Prop) (st : Stmt) (δ : Sl) (ω : Om) (P : Out → Prop) : Prop where
  run : ∀ pins s σ H, Inv X pins σ H s → Sta X.K M ω H → Slots X.K (Mt M ω) H σ δ → wpAny (model X.prog X.w) X.A (exec st X.env) (SPost X M pins ω H P) X.xe s
structure RSs (X : Cx) (M : Addr → Prop) (sts : List Stmt) (δ : Sl) (ω : Om) (P : Out → Prop) : Prop where
  run : ∀ pins s σ H, Inv X pins σ H s → Sta X.K M ω H → Slots X.K (Mt M ω) H σ δ → wpAny (model X.prog X.w) X.A (execs sts X.env) (SPost X M pins ω H P) X.xe s
/-- D follows from P -/
structure Cont (K : PySem.W.Frag) (M : Addr → Prop) (ω : Om) (H : Hp) (P : Out → Prop) (D : Ends) : Prop where
  nx : ∀ σ' H' δ' ω', P (.nx δ' ω') → Sta K M ω' H' → Stp ω H ω' H' → Slots K (Mt M ω') H' σ' δ' → D.nx σ' H'
  bk : ∀ σ' H' δ' ω', P (.bk δ' ω') → Sta K M ω' H' → Stp ω H ω' H' → Slots K (Mt M ω') H' σ' δ' → D.bk σ' H'
  ct : ∀ σ' H' δ' ω', P (.ct δ' ω') → Sta K M ω' H' → Stp ω H ω' H' → Slots K (Mt M ω') H' σ' δ' → D.ct σ' H'
  rt : ∀ v H' d ω', P (.rt d ω') → Sta K M ω' H' → Stp ω H ω' H' → Dn K (Mt M ω') H' d v → D.rt v H'
def tSS (X : Cx) (M : Addr → Prop) (sts : List Stmt) : TS := fun D σ H => ∃ δ ω P, RSs X M sts δ ω P ∧ Sta X.K M ω H ∧ Slots X.K (Mt M ω) H σ δ ∧ Cont X.K M ω H P D
section
variable {X : Cx} {M : Addr → Prop} {st : Stmt} {sts rest : List Stmt} {e c : Expr} {d : D} {ds : List D} {δ δ2 δ3 : Sl} {ω ω1 ω2 : Om} {P : Out → Prop} {pos : Pos}
theorem sp_to {pins : List (Addr × Obj)} {H : Hp} {D : Ends} {f : Flow} {s' : Shared} (k : Cont X.K M ω H P D) (h : SPost X M pins ω H P f s') : SP X pins D f s' := by
  cases f with
  | next => obtain ⟨σ', H', δ', ω', I, a, b, c, p⟩ := h; exact ⟨σ', H', I, k.nx _ _ _ _ p a b c⟩
  | brk => obtain ⟨σ', H', δ', ω', I, a, b, c, p⟩ := h; exact ⟨σ', H', I, k.bk _ _ _ _ p a b c⟩
  | cont => obtain ⟨σ', H', δ', ω', I, a, b, c, p⟩ := h; exact ⟨σ', H', I, k.ct _ _ _ _ p a b c⟩
  | ret u => obtain ⟨v, σ', H', d, ω', I, r, a, b, c, p⟩ := h; exact ⟨v, σ', H', I, r, k.rt _ _ _ _ p a b c⟩
theorem pssS (X : Cx) (M : Addr → Prop) (sts : List Stmt) : PSs X sts (tSS X M sts) := ⟨fun pins s σ H D I h => by
  obtain ⟨δ, ω, P, r, st, sl, k⟩ := h
  exact thn (r.run pins s σ H I st sl) fun f s' hf => sp_to k hf⟩
/-- the ends as P tells them -/
def endsOf (K : PySem.W.Frag) (M : Addr → Prop) (ω : Om) (H : Hp) (P : Out → Prop) : Ends where
  nx := fun σ' H' => ∃ δ' ω', Sta K M ω' H' ∧ Stp ω H ω' H' ∧ Slots K (Mt M ω') H' σ' δ' ∧ P (.nx δ' ω')
  bk := fun σ' H' => ∃ δ' ω', Sta K M ω' H' ∧ Stp ω H ω' H' ∧ Slots K (Mt M ω') H' σ' δ' ∧ P (.bk δ' ω')
  ct := fun σ' H' => ∃ δ' ω', Sta K M ω' H' ∧ Stp ω H ω' H' ∧ Slots K (Mt M ω') H' σ' δ' ∧ P (.ct δ' ω')
  rt := fun v H' => ∃ d ω', Sta K M ω' H' ∧ Stp ω H ω' H' ∧ Dn K (Mt M ω') H' d v ∧ P (.rt d ω')
theorem contOf (K : PySem.W.Frag) (M : Addr → Prop) (ω : Om) (H : Hp) (P : Out → Prop) : Cont K M ω H P (endsOf K M ω H P) :=
  ⟨fun _ _ _ _ p a b c => ⟨_, _, a, b, c, p⟩, fun _ _ _ _ p a b c => ⟨_, _, a, b, c, p⟩, fun _ _ _ _ p a b c => ⟨_, _, a, b, c, p⟩, fun _ _ _ _ p a b c => ⟨_, _, a, b, c, p⟩⟩
theorem sp_from {pins : List (Addr × Obj)} {H : Hp} {f : Flow} {s' : Shared} (h : SP X pins (endsOf X.K M ω H P) f s') : SPost X M pins ω H P f s' := by
  cases f with
  | next => obtain ⟨σ', H', I, δ', ω', a, b, c, p⟩ := h; exact ⟨σ', H', δ', ω', I, a, b, c, p⟩
  | brk => obtain ⟨σ', H', I, δ', ω', a, b, c, p⟩ := h; exact ⟨σ', H', δ', ω', I, a, b, c, p⟩
  | cont => obtain ⟨σ', H', I, δ', ω', a, b, c, p⟩ := h; exact ⟨σ', H', δ', ω', I, a, b, c, p⟩
  | ret u => obtain ⟨v, σ', H', I, r, d, ω', a, b, c, p⟩ := h; exact ⟨v, σ', H', d, ω', I, r, a, b, c, p⟩
theorem rst_of {t : TS} (hp : PS X st t) (hr : ∀ σ H D, Sta X.K M ω H → Slots X.K (Mt M ω) H σ δ → Cont X.K M ω H P D → t D σ H) : RSt X M st δ ω P :=
  ⟨fun pins s σ H I a b => thn (hp.run pins s σ H (endsOf X.K M ω H P) I (hr σ H _ a b (contOf _ _ _ _ _))) fun f s' h => sp_from h⟩
theorem rss_of {t : TS} (hp : PSs X sts t) (hr : ∀ σ H D, Sta X.K M ω H → Slots X.K (Mt M ω) H σ δ → Cont X.K M ω H P D → t D σ H) : RSs X M sts δ ω P :=
  ⟨fun pins s σ H I a b => thn (hp.run pins s σ H (endsOf X.K M ω H P) I (hr σ H _ a b (contOf _ _ _ _ _))) fun f s' h => sp_from h⟩
/-- what follows at the next statement, all else as P -/
def Then (P : Out → Prop) (R : Sl → Om → Prop) : Out → Prop
  | .nx δ ω => R δ ω
  | o => P o
theorem spost_trans {pins : List (Addr × Obj)} {H H1 : Hp} {f : Flow} {s' : Shared} (sp : Stp ω H ω1 H1) (h : SPost X M pins ω1 H1 P f s') : SPost X M pins ω H P f s' := by
  cases f with
  | next => obtain ⟨σ', H', δ', ω', I, a, b, c, p⟩ := h; exact ⟨σ', H', δ', ω', I, a, sp.trans b, c, p⟩
  | brk => obtain ⟨σ', H', δ', ω', I, a, b, c, p⟩ := h; exact ⟨σ', H', δ', ω', I, a, sp.trans b, c, p⟩
  | cont => obtain ⟨σ', H', δ', ω', I, a, b, c, p⟩ := h; exact ⟨σ', H', δ', ω', I, a, sp.trans b, c, p⟩
  | ret u => obtain ⟨v, σ', H', d, ω', I, r, a, b, c, p⟩ := h; exact ⟨v, σ', H', d, ω', I, r, a, sp.trans b, c, p⟩
theorem rss_nil (h : P (.nx δ ω)) : RSs X M [] δ ω P := rss_of pss_nil fun σ H D st sl k => k.nx σ H δ ω h st (Stp.refl _ _) sl
theorem rss_cons (h : RSt X M st δ ω (Then P fun δ' ω' => RSs X M rest δ' ω' P)) : RSs X M (st :: rest) δ ω P := ⟨fun pins s σ H I a b => by
  refine wpAny_execs_cons (thn (h.run pins s σ H I a b) fun f s1 q => ?_)
  cases f with
  | next =>
    obtain ⟨σ', H', δ', ω', I', st', sp', sl', hr⟩ := q
    exact thn (hr.run pins s1 σ' H' I' st' sl') fun f s2 q2 => spost_trans sp' q2
  | ret v => exact q
  | brk => exact q
  | cont => exact q⟩
theorem rss_one (h : RSt X M st δ ω P) : RSs X M [st] δ ω P := rss_cons ⟨fun pins s σ H I a b => thn (h.run pins s σ H I a b) fun f s1 q => by
  cases f with
  | next =>
    obtain ⟨σ', H', δ', ω', I', st', sp', sl', hr⟩ := q
    exact ⟨σ', H', δ', ω', I', st', sp', sl', rss_nil hr⟩
  | ret v => exact q
  | brk => exact q
  | cont => exact q⟩
theorem RSs.imp {P' : Out → Prop} (h : RSs X M sts δ ω P) (hi : ∀ o, P o → P' o) : RSs X M sts δ ω P' := ⟨fun pins s σ H I a b => thn (h.run pins s σ H I a b) fun f s1 q => by
  cases f with
  | next => obtain ⟨σ', H', δ', ω', I', a, b, c, p⟩ := q; exact ⟨σ', H', δ', ω', I', a, b, c, hi _ p⟩
  | brk => obtain ⟨σ', H', δ', ω', I', a, b, c, p⟩ := q; exact ⟨σ', H', δ', ω', I', a, b, c, hi _ p⟩
  | cont => obtain ⟨σ', H', δ', ω', I', a, b, c, p⟩ := q; exact ⟨σ', H', δ', ω', I', a, b, c, hi _ p⟩
  | ret v => obtain ⟨v, σ', H', d, ω', I', r, a, b, c, p⟩ := q; exact ⟨v, σ', H', d, ω', I', r, a, b, c, hi _ p⟩⟩
/-- forgetting slots and owned objects -/
theorem RSs.pre {δ' : Sl} (h : RSs X M sts δ' ω P) (hs : ∀ K N H σ, Slots K N H σ δ → Slots K N H σ δ') : RSs X M sts δ ω P := ⟨fun pins s σ H I a b => h.run pins s σ H I a (hs _ _ _ _ b)⟩
theorem rst_pass (h : P (.nx δ ω)) : RSt X M (.Pass pos) δ ω P := rst_of ps_pass fun σ H D st sl k => k.nx σ H δ ω h st (Stp.refl _ _) sl
theorem rst_break (h : P (.bk δ ω)) : RSt X M (.Break pos) δ ω P := rst_of ps_break fun σ H D st sl k => k.bk σ H δ ω h st (Stp.refl _ _) sl
theorem rst_continue (h : P (.ct δ ω)) : RSt X M (.Continue pos) δ ω P := rst_of ps_continue fun σ H D st sl k => k.ct σ H δ ω h st (Stp.refl _ _) sl
theorem rst_ret (h : RE X M e δ ω d ω1) (q : P (.rt d ω1)) : RSt X M (.Return (some e) pos) δ ω P := rst_of (ps_ret (peE X M e)) fun σ H D st sl k => h.t st sl fun v H1 st1 sp1 hv => k.rt v H1 d ω1 q st1 sp1 hv
theorem rst_retN (q : P (.rt .non ω)) : RSt X M (.Return none pos) δ ω P := rst_of ps_retN fun σ H D st sl k => k.rt .non H .non ω q st (Stp.refl _ _) dn_non'
theorem rst_if {a b : List Stmt} {k : Bool} (h : RT X M c δ ω k ω1) (h1 : k = true → RSs X M a δ ω1 P) (h2 : k = false → RSs X M b δ ω1 P) : RSt X M (.If c a b pos) δ ω P :=
  rst_of (ps_if (ptT X M c) (pssS X M a) (pssS X M b)) fun σ H D st sl kk => h.t st sl fun H1 st1 sp1 => by
    have k1 : Cont X.K M ω1 H1 P D := ⟨fun _ _ _ _ p a b c => kk.nx _ _ _ _ p a (sp1.trans b) c, fun _ _ _ _ p a b c => kk.bk _ _ _ _ p a (sp1.trans b) c, fun _ _ _ _ p a b c => kk.ct _ _ _ _ p a (sp1.trans b) c, fun _ _ _ _ p a b c => kk.rt _ _ _ _ p a (sp1.trans b) c⟩
    cases k with
    | true => rw [if_pos rfl]; exact ⟨δ, ω1, P, h1 rfl, st1, sl.carry sp1.carry, k1⟩
    | false => rw [if_neg Bool.false_ne_true]; exact ⟨δ, ω1, P, h2 rfl, st1, sl.carry sp1.carry, k1⟩
theorem rst_expr (h : RE X M e δ ω d ω1) (q : P (.nx δ ω1)) (hs : swapsWith e none pos.line X.env = pure false := by rfl) : RSt X M (.Expr e pos) δ ω P :=
  rst_of (ps_expr (peE X M e) hs) fun σ H D st sl k => h.t st sl fun v H1 st1 sp1 hv => k.nx σ H1 δ ω1 q st1 sp1 (sl.carry sp1.carry)
theorem rst_set (i : Nat) {x : Str} {pos' : Pos} (hN : X.N.Nodup) (h : RE X M e δ ω d ω1) (q : P (.nx (δ.set i (some d)) ω1)) (hi : X.N[i]? = some x := by rfl) (hx : Loc X.env.scope x := by first | exact Or.inl rfl | exact Or.inr rfl)
    (hs : swapsWith e (some (.Name x pos')) pos.line X.env = pure false := by rfl) (hf : X.fn x = true ∨ X.env.scope.names.lookup x = some .local := by first | exact .inl rfl | exact .inr rfl) :
    RSt X M (.Assign [.Name x pos'] e pos) δ ω P := rst_of (ps_set hN hi hx (peE X M e) hs hf) fun σ H D st sl k => h.t st sl fun v H1 st1 sp1 hv => k.nx _ H1 _ ω1 q st1 sp1 ((sl.carry sp1.carry).set hv)
/-- a new list that is owned -/
theorem rst_setN (i : Nat) {x : Str} {pos' : Pos} (hN : X.N.Nodup) (h : RN X M e δ ω ds ω1) (q : ∀ p, P (.nx (δ.set i (some (.ptr p))) ((p, .lst ds) :: ω1))) (hi : X.N[i]? = some x := by rfl) (hx : Loc X.env.scope x := by first | exact Or.inl rfl | exact Or.inr rfl)
    (hs : swapsWith e (some (.Name x pos')) pos.line X.env = pure false := by rfl) (hf : X.fn x = true ∨ X.env.scope.names.lookup x = some .local := by first | exact .inl rfl | exact .inr rfl) :
    RSt X M (.Assign [.Name x pos'] e pos) δ ω P := rst_of (ps_set hN hi hx (peN X M e) hs hf) fun σ H D st sl k => h.t st sl fun p H1 hp st1 sp1 => k.nx _ H1 _ _ (q p) st1 sp1 ((sl.carry sp1.carry).set dn_ptr')
/-- a, b = e -/
theorem rst_asg {tg : Expr} (h : RE X M e δ ω d ω1) (hg : RG X M tg d δ ω1 δ2) (q : P (.nx δ2 ω1)) (hs : swapsWithSole [tg] e pos.line X.env = pure false := by rfl) (hw : swappedStores [tg] e X.env = pure none := by rfl)
    (h1 : (assignEach [tg] X.env).map (·.2) = [assign tg X.env] := by rfl) : RSt X M (.Assign [tg] e pos) δ ω P :=
  rst_of (ps_asg (peE X M e) (pgS X M tg) hs hw h1) fun σ H D st sl k => h.t st sl fun v H1 st1 sp1 hv => ⟨d, δ, ω1, δ2, hg, st1, sl.carry sp1.carry, hv, fun σ' H' a b c => k.nx _ _ _ _ q a (sp1.trans b) c⟩
/-- a, b = x, y -/
theorem rst_par (i j : Nat) {x y : Str} {a b : Expr} {da db : D} {px py pt pt2 : Pos} {kt k2 : Nat} (hc : X.calm = true) (hN : X.N.Nodup) (ha : RA X M [a, b] δ ω [da, db] ω1) (q : P (.nx ((δ.set i (some da)).set j (some db)) ω1))
    (hi : X.N[i]? = some x := by rfl) (hj : X.N[j]? = some y := by rfl) (hij : i ≠ j := by decide)
    (hx : X.env.scope.names.lookup x = some .local := by rfl) (hy : X.env.scope.names.lookup y = some .local := by rfl)
    (hw : swappedStores [.Tuple [.Name x px, .Name y py] kt pt] (.Tuple [a, b] k2 pt2) X.env = pure (some [x, y]) := by rfl)
    (hs : swapsWithSole [.Tuple [.Name x px, .Name y py] kt pt] (.Tuple [a, b] k2 pt2) pos.line X.env = pure false := by rfl) :
    RSt X M (.Assign [.Tuple [.Name x px, .Name y py] kt pt] (.Tuple [a, b] k2 pt2) pos) δ ω P := by
  obtain ⟨t, hp, ht⟩ := ha
  refine rst_of (ps_par hc hN hi hj hij hx hy hp hw hs) fun σ H D st sl k => ht σ H _ st sl fun vs H1 st1 sp1 hds => ?_
  obtain ⟨v, w, rfl, hv, hw'⟩ := dns_two hds
  exact ⟨v, w, rfl, k.nx _ H1 _ ω1 q st1 sp1 (((sl.carry sp1.carry).set hv).set hw')⟩
/-- x op= e -/
theorem rst_aug (i : Nat) {x : Str} {op : Operator} {a b z : D} {pos' : Pos} (hN : X.N.Nodup) (hx0 : δ[i]? = some (some a)) (h : RE X M e δ ω b ω1) (ho : OpD X M (inplaceOp op) a b ω1 z ω2) (q : P (.nx (δ.set i (some z)) ω2))
    (hi : X.N[i]? = some x := by rfl) (hx : Loc X.env.scope x := by first | exact Or.inl rfl | exact Or.inr rfl) (hf : X.fn x = true ∨ X.env.scope.names.lookup x = some .local := by first | exact .inl rfl | exact .inr rfl) :
    RSt X M (.AugAssign (.Name x pos') op e pos) δ ω P := by
  obtain ⟨r, hr, hh⟩ := ho
  refine rst_of (ps_aug hN hi hx (peE X M e) hr hf) fun σ H D st sl k => ?_
  obtain ⟨v, e1, h1⟩ := sl.2 i a hx0
  exact ⟨v, e1, h.t st sl fun w H1 st1 sp1 hw => hh v w H1 _ st1 (h1.carry sp1.carry) hw fun u H2 st2 sp2 hu => k.nx _ H2 _ ω2 q st2 (sp1.trans sp2) ((sl.carry (sp1.trans sp2).carry).set hu)⟩

/-! ### owned lists -/
theorem Sta.lst {K : PySem.W.Frag} {H : Hp} {n : Nat} {q : Addr} (st : Sta K M ω H) (h : ω[n]? = some (q, .lst ds)) : ∃ xs, H q = some (.lst xs) ∧ Dns K (Mt M ω) H ds xs := st.get h
theorem key_at {n : Nat} {q : Addr} {o : O} (h : ω[n]? = some (q, o)) : q ∈ ω.map (·.1) := List.mem_map.mpr ⟨_, List.mem_of_getElem? h, rfl⟩
/-- o.append(e), o an owned list -/
theorem re_append {o : Expr} {q : Addr} {d0 : List D} {m : Nat} {apos cpos : Pos} (n : Nat) (ho : RE X M o δ ω (.ptr q) ω1) (h1 : ω1[m]? = some (q, .lst d0)) (h : RE X M e δ ω1 d ω2) (h2 : ω2[n]? = some (q, .lst ds)) (hz : ds.length < 100000)
    (hbase : attributeBase o "append" X.env (eval o X.env) = eval o X.env := by rfl)
    (hfew : ((backTo cpos (starEach [e] X.env)).all (fun x => !x.1) && (backToKw cpos (keywordEach [] X.env)).all (fun x => x.1.isSome)
      && decide ([e].length + ([] : List Keyword).length + (if ([] : List Keyword).isEmpty then 0 else 1) < 30)) = true := by rfl)
    (hline : (apos.endLine == cpos.line) = true := by rfl) (hs : starEach [e] X.env = (false, eval e X.env) :: starEach [] X.env := by rfl) (hplain : (backTo cpos (starEach [] X.env)).any (·.1) = false := by rfl) :
    RE X M (.Call (.Attribute o "append" apos) [e] [] cpos) δ ω .non (ω2.set n (q, .lst (ds ++ [d]))) :=
  re_of (pe_bm PySem.F.plainAttrs_list PySem.F.slot_list_append PySem.F.type_list_append mt_append (peE X M o) (pa_cons (peE X M e) pa_nil hs) hbase hfew hline hs hplain) fun σ H Q st sl k =>
    ho.t st sl fun v H1 st1 sp1 hv => by
      rw [dn_ptr hv]
      obtain ⟨ys, hy, _⟩ := st1.lst h1
      refine ⟨.inl ⟨rfl, ys, SqL.of hy⟩, h.t st1 (sl.carry sp1.carry) fun w H2 st2 sp2 hw => ?_⟩
      obtain ⟨xs, hx, hd⟩ := st2.lst h2
      refine ⟨q, xs, w, rfl, rfl, hx, by rw [hd.len]; exact Nat.lt_of_lt_of_le hz (by decide), ?_⟩
      obtain ⟨a1, a2⟩ := st2.change (ob := .lst (ds ++ [d])) h2 (fun H' c e => ⟨xs ++ [w], e, (dns_map c hd).append (dns_cons (c _ _ hw) dns_nil)⟩)
      exact k _ _ a1 ((sp1.trans sp2).trans a2) dn_non'
/-- o[i] = e, o an owned list -/
theorem rst_setitem {o ie : Expr} {q : Addr} {i : Int} {j n : Nat} {ω3 : Om} {spos : Pos} (h : RE X M e δ ω d ω1) (ho : RE X M o δ ω1 (.ptr q) ω2) (hi : RE X M ie δ ω2 (.int i) ω3) (h3 : ω3[n]? = some (q, .lst ds)) (hj : ixN ds.length i = some j)
    (hq : P (.nx δ (ω3.set n (q, .lst (ds.set j d)))))
    (ha : ∀ v, assign (.Subscript o ie spos) X.env v = (do
      let ov ← holding [v] (eval o X.env)
      let iv ← holding [v, ov] (eval ie X.env)
      standAt spos
      holding [v, ov, iv] (setItem ov iv v)
      release [v, ov, iv] []) := by intro _; rfl)
    (hs : swapsWithSole [.Subscript o ie spos] e pos.line X.env = pure false := by rfl) (hw : swappedStores [.Subscript o ie spos] e X.env = pure none := by rfl)
    (h1 : (assignEach [.Subscript o ie spos] X.env).map (·.2) = [assign (.Subscript o ie spos) X.env] := by rfl) : RSt X M (.Assign [.Subscript o ie spos] e pos) δ ω P :=
  rst_of (ps_asg (peE X M e) (pg_sub (peE X M o) (peE X M ie) set_list ha) hs hw h1) fun σ H D st sl k => h.t st sl fun v H1 st1 sp1 hv =>
    ho.t st1 (sl.carry sp1.carry) fun ov H2 st2 sp2 hov => hi.t st2 (sl.carry (sp1.trans sp2).carry) fun iv H3 st3 sp3 hiv => by
      obtain ⟨xs, hx, hd⟩ := st3.lst h3
      have hv3 := hv.carry (sp2.trans sp3).carry
      refine ⟨q, xs, i, j, dn_ptr hov, dn_int hiv, hx, by rw [hd.len]; exact hj, ?_⟩
      obtain ⟨a1, a2⟩ := st3.change (ob := .lst (ds.set j d)) h3 (fun H' c e => ⟨xs.set j v, e, (dns_map c hd).set (c _ _ hv3) j⟩)
      have sp := ((sp1.trans sp2).trans sp3).trans a2
      exact k.nx _ _ _ _ hq a1 sp (sl.carry sp.carry)
end
end DV
/-! DVE: enumerate of a tuple as it is walked. -/
namespace PySem
open Sem (wp)
theorem dv_meets_enumerate1 {v : Value} {o : Obj} {H : Heap → Prop} (B : Begins v o H) :
    Meets (Builtin.«enumerate.__new__» ⟨[.type "enumerate", v], []⟩) (fun _ R s => H s.heap ∧
      R (.ok (.ret (.ref (s.heap.push o).objs.size))) { s with heap := (s.heap.push o).push { cls := .type "enumerate", data := .fields #[.none, .bool false, .ref s.heap.objs.size, rawInt 0, .none, .none] } }) :=
  .of_wp fun prog w A R s h => by
    obtain ⟨hp, g, d, tk, os⟩ := s; obtain ⟨h1, h⟩ := h
    have hsub := sub_enumerate
    have q1 : ∀ {A' : Around} {E : Value → Shared → Prop} {Q : Value → Shared → Prop}, Q (.ref hp.objs.size) ⟨hp.push o, g, d, tk, os⟩ → wpAny (model prog w) A' (pyIter v) Q E ⟨hp, g, d, tk, os⟩ :=
      fun q => B.iter prog w _ _ ⟨hp, g, d, tk, os⟩ _ h1 q
    wp_walk using q1
    refine wpAny_stack_any fun st => wpAny_pure ?_
    split
    · rename_i c _ _ _ _ _
      cases (c == Value.type "enumerate")
      · wp_walk using q1
        exact ⟨_, rfl, h⟩
      · wp_walk using q1
        exact ⟨_, rfl, h⟩
    · wp_walk using q1
      exact ⟨_, rfl, h⟩
section
variable {prog : Program} {w : World} {A : Around} {E : Value → Shared → Prop} {s : Shared}
theorem dv_call_enumerate_tuple {l : Addr} {items : Array Value} {Q : Value → Shared → Prop} (hL : s.heap.IsTuple l items)
    (h : ∀ h', IsEnum h' (s.heap.objs.size + 1) s.heap.objs.size 0 .none → h'.IsTupleIter s.heap.objs.size l 0 → h'.objs.size = s.heap.objs.size + 2 →
      (∀ b o, s.heap.get? b = some o → h'.get? b = some o) → Q (.ref (s.heap.objs.size + 1)) { s with heap := h' }) :
    wpAny (model prog w) A (call (.type "enumerate") [.ref l]) Q E s := by
  refine callType_new F.called_enumerate (by decide) (F.typeCall_enumerate_1 _) (F.newCall_enumerate_1 _) (fun obj => F.args_object_init_2 obj _) F.entry_enumerate_new
    (dv_meets_enumerate1 (begins_tuple l items)) ⟨hL, ?_⟩
  have hz : (s.heap.push { cls := .type "tuple_iterator", data := .fields #[.ref l, .int 0 0] }).objs.size = s.heap.objs.size + 1 := Heap.size_push ..
  show _ ∧ _
  rw [hz]
  have he : IsEnum ((s.heap.push { cls := .type "tuple_iterator", data := .fields #[.ref l, .int 0 0] }).push { cls := .type "enumerate", data := .fields #[.none, .bool false, .ref s.heap.objs.size, rawInt 0, .none, .none] }) (s.heap.objs.size + 1) s.heap.objs.size 0 .none := by
    have := Heap.get?_push_size (s.heap.push { cls := .type "tuple_iterator", data := .fields #[.ref l, .int 0 0] }) (o := { cls := .type "enumerate", data := .fields #[.none, .bool false, .ref s.heap.objs.size, rawInt 0, .none, .none] }) rfl
    rw [hz] at this; exact this
  refine ⟨⟨_, he, rfl⟩, h _ he ⟨_, Heap.get?_push_of_some _ (Heap.get?_push_size _ rfl), rfl, rfl⟩ (by rw [Heap.size_push, hz]) fun b o x => Heap.get?_push_of_some _ (Heap.get?_push_of_some _ x)⟩
theorem dv_enum_end {e it a : Addr} {i : Nat} {c : Int} {items : Array Value} {old : Value} {Q : Option Value → Shared → Prop}
    (hh : A.in1.handled = none) (he : IsEnum s.heap e it c old) (hit : s.heap.IsTupleIter it a i) (ht : s.heap.IsTuple a items) (hx : items[i]? = none)
    (hQ : ∀ h', Heap.ExtBut it s.heap h' → Q none { s with heap := h' }) : wpAny (model prog w) A (pyNext (.ref e)) Q E s := by
  have hT : s.TypeIs (.ref e) "enumerate" := ⟨_, he, rfl⟩
  unfold pyNext
  refine wpAny_bind (wpAny_attempt (wpAny_callSpecial?_slot (name := Str.ofString "__next__") hT F.slot_enumerate_next
    (wpAny_call_entry F.slot_enumerate_next hT F.entry_enumerate_next ?_ (F.args_enumerate_next_1 _))))
  show wpAny _ _ (field (.ref e) 2 >>= _) _ _ _
  refine wpAny_bind (wpAny_field he rfl (x := .ref it) rfl ?_)
  refine wpAny_bind (wpAny_nextOf_tuple_end hh hit ht hx fun h' x he' hx' => ?_)
  obtain ⟨o, ho, hc⟩ := hx'
  refine wpAny_bind (wpAny_isInstance (T := "StopIteration") (b := true) ⟨o, ho, hc⟩ isSubtype_stop ?_)
  exact wpAny_pure (hQ _ he')
end
end PySem
namespace L2
open PySem PySem.Spec PyProof.Rows
/-- the tuple at a, each item in a new pair -/
def IteT (K : PySem.W.Frag) (a : Addr) : It :=
  ⟨fun i H => ∃ (xs : List V) (x : V), SqT K H a xs ∧ xs[i]? = some x, fun i H v H' => ∃ T x, v = .ref T ∧ H T = none ∧ H' = upd H T (.tup [.int (i : Nat), x]) ∧ ∀ xs, SqT K H a xs → xs[i]? = some x, fun i H => ∃ xs : List V, SqT K H a xs ∧ xs.length ≤ i⟩
theorem turn_enumT {P : Program} {w : World} {K : PySem.W.Frag} {elts : List Expr} {kk : Nat} {tpos : Pos} (a e it : Addr) :
    Turn P w K (.Tuple elts kk tpos) (IteT K a) [e, it] e (fun i h => (∃ old, IsEnum h e it ((i : Nat) : Int) old) ∧ h.IsTupleIter it a i ∧ e ≠ it) where
  mem := by simp
  obj := fun i h st b hb => by
    obtain ⟨⟨old, he⟩, ⟨o, ho, hc, hd⟩, _⟩ := st
    have e' : b = e ∨ b = it := by simpa using hb
    rcases e' with z | z
    · rw [z]; exact ⟨_, he, fun v q => nomatch q⟩
    · rw [z]; exact ⟨o, ho, fun v q => by rw [hd] at q; cases q⟩
  keep := fun i h h' st k => let ⟨⟨old, he⟩, hi, hne⟩ := st; ⟨⟨old, k e (by simp) _ he⟩, hi.at fun o q => k it (by simp) o q, hne⟩
  item := by
    intro X hP hw hK hc i pins s σ H E I hf st hg
    subst hP hw hK
    obtain ⟨⟨old, he⟩, hit, hne⟩ := st
    obtain ⟨xs, x, hq, hx⟩ := hg
    obtain ⟨its, rv, p, hz⟩ := I.tuple hq
    obtain ⟨u, hu, ru⟩ := rv.get hx
    have p' : s.heap.IsTuple a its.toArray := p
    have hel : e < s.heap.objs.size := Heap.lt_size he
    have hil : it < s.heap.objs.size := by obtain ⟨_, q, _⟩ := hit; exact Heap.lt_size q
    have hait : a ≠ it := fun z => by
      obtain ⟨o1, q1, c1, _⟩ := hit
      obtain ⟨o2, q2, c2, _⟩ := p'
      rw [z, q1] at q2
      cases q2
      rw [c1] at c2
      exact absurd c2 (by intro z; injection z with z; exact absurd z (by decide))
    have hae : a ≠ e := fun z => by
      obtain ⟨o2, q2, c2, _⟩ := p'
      rw [z, he] at q2
      cases q2
      have c3 : Value.type "enumerate" = Value.type "tuple" := c2
      injection c3 with c3
      exact absurd c3 (by decide)
    have hlt : i < its.toArray.size := by
      have := (List.getElem?_eq_some_iff.mp hu).1
      simpa using this
    have D := Draws.tuple (prog := X.prog) (w := X.w) (A := X.A.in1) (I.ok.hd hc) it a hait its.toArray
    refine wpAny_pyNext_enum_itemC D he ⟨hit, p'⟩ hlt hne (by simp only [List.mem_cons, List.not_mem_nil, or_false]; exact fun z => z.elim hne fun z => hae z.symm) fun x' h' tk hP' ho hit' hT hsz hk => ?_
    obtain rfl : x' = u := by
      have : its[i]? = some x' := by simpa using hP'
      rw [hu] at this; exact (Option.some.inj this).symm
    refine ⟨_, rfl, wpAny_letOwnedTupleGo_enum (s := { s with heap := h', toks := tk + 1 }) ho fun h'' he' sb => ?_⟩
    have hT2 : h''.get? s.heap.objs.size = some { cls := .type "tuple", data := .seq #[.int i tk, x'] } := (sb.2 _ (Nat.ne_of_gt hel)).trans hT
    have new : ObjOk X.prog X.w (upd H s.heap.objs.size (.tup [.int (i : Nat), x])) h'' s.heap.objs.size (.tup [.int (i : Nat), x]) :=
      ⟨by show 2 ≤ sizeLine; decide, [.int i tk, x'], .cons ⟨_, rfl⟩ (.cons ru .nil), ⟨_, hT2, rfl, _, rfl⟩⟩
    have I1 : Inv X pins σ (upd H s.heap.objs.size (.tup [.int (i : Nat), x])) { s with heap := h'', toks := tk + 1 } :=
      I.turnedNew (ch := [e, it]) (fun b ob hb q => (sb.2 b (fun z => hb (by simp [z]))).trans (hk b ob (fun z => hb (by simp [z])) (fun z => hb (by simp [z])) q)) hf (Nat.le_refl _) new
    refine ⟨.ref s.heap.objs.size, _, I1, rfl, ⟨_, x, rfl, I.hok.fresh (Nat.le_refl _), rfl, fun ys hy => by rw [I.tuple_inj hy hq]; exact hx⟩, ⟨⟨x', ?_⟩, hit'.1.at fun o q => (sb.2 it (Ne.symm hne)).trans q, hne⟩, fun b hb => ?_⟩
    · have e1 : ((i + 1 : Nat) : Int) = (i : Int) + 1 := by omega
      rw [e1]; exact he'
    · have hb' : b < s.heap.objs.size := by
        have e' : b = e ∨ b = it := by simpa using hb
        rcases e' with z | z
        · rw [z]; exact hel
        · rw [z]; exact hil
      rw [upd_ne (Nat.ne_of_lt hb')]
      exact (hf b hb).1
  done := by
    intro X hP hw hK hc i pins s σ H E I hf st hg
    subst hP hw hK
    obtain ⟨⟨old, he⟩, hit, hne⟩ := st
    obtain ⟨xs, hq, hx⟩ := hg
    obtain ⟨its, rv, p, hz⟩ := I.tuple hq
    have p' : s.heap.IsTuple a its.toArray := p
    obtain ⟨f0, f1, f2, f3, f4, f5⟩ := hf it (by simp)
    have hl := rv.length
    exact dv_enum_end (I.ok.hd hc) he hit p' (by simp; omega) fun h' eb => ⟨rfl, I.turned (t' := s.toks) (fun b o hb q => eb b o hb q) f0 f1 f3 f4 f5⟩
  self := fun A i s Q E st h => let ⟨⟨_, he⟩, _⟩ := st; wpAny_pyIter_enum he h
def iEnumT (K : PySem.W.Frag) (ta : TA) : TI := fun σ H R => ta σ H fun vs H1 => ∃ a xs, vs = [.ref a] ∧ SqT K H1 a xs ∧ R (IteT K a) H1
theorem pi_enumT {X : Cx} {e : Expr} {ta : TA} {p pos tpos : Pos} {elts : List Expr} {kk : Nat} (hg : Gl X "enumerate") (hm : X.mg "enumerate" = none) (ha : PA X [e] ta) (hs : starEach [e] X.env = [(false, eval e X.env)] := by rfl) :
    PI X (.Tuple elts kk tpos) (.Call (.Name "enumerate" p) [e] [] pos) (iEnumT X.K ta) := by
  refine ⟨fun pins s σ H R I h => ?_⟩
  refine Call_ (ld_blt I hg hm boot_enumerate (PyProof.Rows.callWith_type1 (thn (ha.run pos pins s σ H _ I h) fun us s1 ⟨vs, H1, I1, r1, q1⟩ => ?_) hs rfl))
  obtain ⟨a, xs, ex, hq, q⟩ := q1
  subst ex
  cases r1 with
  | cons r rr =>
    cases rr
    cases r
    obtain ⟨its, rv, p', hz⟩ := I1.tuple hq
    refine dv_call_enumerate_tuple (show s1.heap.IsTuple a its.toArray from p') fun h' he hit hsz hk => wpAny_pyIter_enum he ?_
    have I2 : Inv X pins σ H1 { s1 with heap := h' } := I1.kept (t' := s1.toks) hk
    refine ⟨s1.heap.objs.size + 1, [s1.heap.objs.size + 1, s1.heap.objs.size], _, _, H1, rfl, I2, turn_enumT a (s1.heap.objs.size + 1) s1.heap.objs.size, ⟨⟨.none, he⟩, hit, Nat.succ_ne_self _⟩, fun b hb => ?_, q⟩
    have e' : b = s1.heap.objs.size + 1 ∨ b = s1.heap.objs.size := by simpa using hb
    have hle : s1.heap.objs.size ≤ b := by
      rcases e' with z | z
      · rw [z]; exact Nat.le_add_right _ _
      · rw [z]; exact Nat.le_refl _
    exact I1.fpOk hle (I1.hok.fresh hle)
end L2
/-! DV4: what is walked, loops, comprehensions. -/
namespace DV
open PySem PySem.Spec PyProof.Rows L2

/-- J walks the items ds as long as the sources stand -/
def Dlv (K : PySem.W.Frag) (M : Addr → Prop) (ds : List D) (J : It) (G : Om → Hp → Prop) : Prop := ∀ ω H (i : Nat), Sta K M ω H → G ω H →
  (∀ d, ds[i]? = some d → J.go i H ∧ ∀ x H', J.yld i H x H' → Sta K M ω H' ∧ Stp ω H ω H' ∧ Dn K (Mt M ω) H' d x) ∧ (ds.length ≤ i → J.stop i H)
/-- what stands whatever happens -/
def Firm (K : PySem.W.Frag) (M : Addr → Prop) (G : Om → Hp → Prop) : Prop := ∀ ω H ω' H', Stp ω H ω' H' → Sta K M ω H → Sta K M ω' H' → G ω H → G ω' H'
def RI (X : Cx) (M : Addr → Prop) (tg iter : Expr) (δ : Sl) (ω : Om) (ds : List D) (ω1 : Om) : Prop := ∃ wi, PI X tg iter wi ∧ ∀ σ H R, Sta X.K M ω H → Slots X.K (Mt M ω) H σ δ →
  (∀ J H1 G, Firm X.K M G → Dlv X.K M ds J G → G ω1 H1 → Sta X.K M ω1 H1 → Stp ω H ω1 H1 → R J H1) → wi σ H R
section
variable {X : Cx} {M : Addr → Prop} {tg iter e e2 : Expr} {d : D} {ds es : List D} {δ δ2 δ3 : Sl} {ω ω1 ω2 : Om} {P : Out → Prop} {pos p : Pos}
theorem firm_dn {K : PySem.W.Frag} (d : D) (v : V) : Firm K M (fun ω H => Dn K (Mt M ω) H d v) := fun ω H ω' H' sp _ _ h => h.carry sp.carry
theorem firm_dn2 {K : PySem.W.Frag} (d e : D) (v w : V) : Firm K M (fun ω H => Dn K (Mt M ω) H d v ∧ Dn K (Mt M ω) H e w) := fun ω H ω' H' sp _ _ h => ⟨h.1.carry sp.carry, h.2.carry sp.carry⟩
theorem dlv_list {K : PySem.W.Frag} {ds : List D} {a : Addr} : Dlv K M ds (Itl K a) (fun ω H => Dn K (Mt M ω) H (.lst ds) (.ref a)) := fun ω H i st hd => by
  obtain ⟨b, xs, e, hx, hds⟩ := dn_lst hd
  cases e
  refine ⟨fun d hi => ?_, fun hi => ⟨xs, hx.seq, by rw [hds.len]; exact hi⟩⟩
  obtain ⟨v, hv, hdv⟩ := hds.get hi
  exact ⟨⟨xs, v, hx.seq, hv⟩, fun x H' ⟨e, f⟩ => by
    subst e
    have := f xs hx.seq
    rw [hv] at this; cases this
    exact ⟨st, Stp.refl _ _, hdv⟩⟩
theorem dlv_fls {K : PySem.W.Frag} {ds : List D} {a : Addr} : Dlv K M ds (Itl K a) (fun ω H => Dn K (Mt M ω) H (.fls ds) (.ref a)) := fun ω H i st hd => by
  obtain ⟨b, xs, e, hx, hds⟩ := dn_fls hd
  cases e
  refine ⟨fun d hi => ?_, fun hi => ⟨xs, hx.seq, by rw [hds.len]; exact hi⟩⟩
  obtain ⟨v, hv, hdv⟩ := hds.get hi
  exact ⟨⟨xs, v, hx.seq, hv⟩, fun x H' ⟨e, f⟩ => by
    subst e
    have := f xs hx.seq
    rw [hv] at this; cases this
    exact ⟨st, Stp.refl _ _, hdv⟩⟩
theorem dlv_tup {K : PySem.W.Frag} {ds : List D} {a : Addr} : Dlv K M ds (Itt K a) (fun ω H => Dn K (Mt M ω) H (.tup ds) (.ref a)) := fun ω H i st hd => by
  obtain ⟨b, xs, e, hx, hds⟩ := dn_tup hd
  cases e
  refine ⟨fun d hi => ?_, fun hi => ⟨xs, hx.seq, by rw [hds.len]; exact hi⟩⟩
  obtain ⟨v, hv, hdv⟩ := hds.get hi
  exact ⟨⟨xs, v, hx.seq, hv⟩, fun x H' ⟨e, f⟩ => by
    subst e
    have := f xs hx.seq
    rw [hv] at this; cases this
    exact ⟨st, Stp.refl _ _, hdv⟩⟩
/-- lo, lo + 1, .. -/
def rangeD (lo : Int) (n : Nat) : List D := (List.range n).map fun i : Nat => .int (lo + (i : Int))
theorem rangeD_get {lo : Int} {n i : Nat} {d : D} (h : (rangeD lo n)[i]? = some d) : i < n ∧ d = .int (lo + (i : Int)) := by
  unfold rangeD at h
  rw [List.getElem?_map] at h
  by_cases hi : i < n
  · rw [List.getElem?_range hi] at h
    cases h; exact ⟨hi, rfl⟩
  · rw [List.getElem?_eq_none (by simpa using hi)] at h; cases h
theorem rangeD_len {lo : Int} {n : Nat} : (rangeD lo n).length = n := by simp [rangeD]
theorem dlv_range {K : PySem.W.Frag} {lo : Int} {n : Nat} : Dlv K M (rangeD lo n) (Itr lo n) (fun _ _ => True) := fun ω H i st _ => by
  refine ⟨fun d hi => ?_, fun hi => by rw [rangeD_len] at hi; exact hi⟩
  obtain ⟨h1, rfl⟩ := rangeD_get hi
  exact ⟨h1, fun x H' ⟨e, f⟩ => by subst e; subst f; exact ⟨st, Stp.refl _ _, dn_int'⟩⟩
theorem ri_list (h : RE X M iter δ ω (.lst ds) ω1) : RI X M tg iter δ ω ds ω1 := ⟨_, pi_list (peE X M iter), fun σ H R st sl k => h.t st sl fun v H1 st1 sp1 hv => by
  obtain ⟨a, xs, rfl, hx, hds⟩ := dn_lst hv
  exact ⟨a, rfl, ⟨xs, hx.seq⟩, k _ H1 _ (firm_dn _ _) dlv_list hv st1 sp1⟩⟩
theorem ri_fls (h : RE X M iter δ ω (.fls ds) ω1) : RI X M tg iter δ ω ds ω1 := ⟨_, pi_list (peE X M iter), fun σ H R st sl k => h.t st sl fun v H1 st1 sp1 hv => by
  obtain ⟨a, xs, rfl, hx, hds⟩ := dn_fls hv
  exact ⟨a, rfl, ⟨xs, hx.seq⟩, k _ H1 _ (firm_dn _ _) dlv_fls hv st1 sp1⟩⟩
theorem ri_tup (h : RE X M iter δ ω (.tup ds) ω1) : RI X M tg iter δ ω ds ω1 := ⟨_, pi_tup (peE X M iter), fun σ H R st sl k => h.t st sl fun v H1 st1 sp1 hv => by
  obtain ⟨a, xs, rfl, hx, hds⟩ := dn_tup hv
  exact ⟨a, rfl, ⟨xs, hx.seq⟩, k _ H1 _ (firm_dn _ _) dlv_tup hv st1 sp1⟩⟩
theorem ri_range1 {j : Int} (hm : X.mg "range" = none) (h : RE X M e δ ω (.int j) ω1) (h1 : -(2 ^ 62) ≤ j) (h2 : j < 2 ^ 62) (hg : Gl X "range" := by rfl) (hs : starEach [e] X.env = [(false, eval e X.env)] := by rfl) : RI X M tg (.Call (.Name "range" p) [e] [] pos) δ ω (rangeD 0 j.toNat) ω1 :=
  ⟨_, pi_range1 hg hm (pa_cons (peE X M e) pa_nil hs) hs, fun σ H R st sl k => h.t st sl fun v H1 st1 sp1 hv => ⟨j, by rw [dn_int hv], h1, h2, k _ H1 _ (fun _ _ _ _ _ _ _ h => h) dlv_range trivial st1 sp1⟩⟩
theorem ri_range2 {i j : Int} (hm : X.mg "range" = none) (h : RE X M e δ ω (.int i) ω1) (h' : RE X M e2 δ ω1 (.int j) ω2) (h1 : -(2 ^ 62) ≤ i ∧ i < 2 ^ 62 ∧ -(2 ^ 62) ≤ j ∧ j < 2 ^ 62) (hg : Gl X "range" := by rfl) (hs : starEach [e, e2] X.env = [(false, eval e X.env), (false, eval e2 X.env)] := by rfl) (hs2 : starEach [e2] X.env = [(false, eval e2 X.env)] := by rfl) (hs3 : starEach [e, e2] X.env = (false, eval e X.env) :: starEach [e2] X.env := by rfl) :
    RI X M tg (.Call (.Name "range" p) [e, e2] [] pos) δ ω (rangeD i (j - i).toNat) ω2 :=
  ⟨_, pi_range2 hg hm (pa_cons (peE X M e) (pa_cons (peE X M e2) pa_nil hs2) hs3) hs hs2, fun σ H R st sl k => h.t st sl fun v H1 st1 sp1 hv => h'.t st1 (sl.carry sp1.carry) fun w H2 st2 sp2 hw => ⟨i, j, by rw [dn_int hv, dn_int hw], h1, k _ H2 _ (fun _ _ _ _ _ _ _ h => h) dlv_range trivial st2 (sp1.trans sp2)⟩⟩
/-- zip of two tuples of one length -/
def zipD : List D → List D → List D
  | a :: as, b :: bs => .tup [a, b] :: zipD as bs
  | _, _ => []
theorem zipD_get : ∀ {as bs : List D} {i : Nat} {d : D}, (zipD as bs)[i]? = some d → ∃ a b, as[i]? = some a ∧ bs[i]? = some b ∧ d = .tup [a, b]
  | [], bs, i, d, h => by simp [zipD] at h
  | a :: as, [], i, d, h => by simp [zipD] at h
  | a :: as, b :: bs, 0, d, h => by
    simp [zipD] at h; exact ⟨a, b, rfl, rfl, h.symm⟩
  | a :: as, b :: bs, i + 1, d, h => by
    have h' : (zipD as bs)[i]? = some d := by simpa [zipD] using h
    obtain ⟨x, y, h1, h2, h3⟩ := zipD_get h'
    exact ⟨x, y, by simpa using h1, by simpa using h2, h3⟩
theorem zipD_len : ∀ as bs : List D, (zipD as bs).length = min as.length bs.length
  | [], bs => by simp [zipD]
  | a :: as, [] => by simp [zipD]
  | a :: as, b :: bs => by simp only [zipD, List.length_cons, zipD_len as bs]; omega
theorem zipD_map {α : Type} (f g : α → D) : ∀ l : List α, zipD (l.map f) (l.map g) = l.map fun x => .tup [f x, g x]
  | [] => rfl
  | a :: as => by simp only [List.map_cons, zipD, zipD_map f g as]
theorem dlv_zipT {K : PySem.W.Frag} {ds es : List D} {a b : Addr} : Dlv K M (zipD ds es) (RZ.ItzT K a b) (fun ω H => Dn K (Mt M ω) H (.tup ds) (.ref a) ∧ Dn K (Mt M ω) H (.tup es) (.ref b)) := fun ω H i st hG => by
  obtain ⟨hd, he⟩ := hG
  obtain ⟨_, xs, e, hx, hds⟩ := dn_tup hd
  cases e
  obtain ⟨_, ys, e, hy, hes⟩ := dn_tup he
  cases e
  refine ⟨fun d hi => ?_, fun hi => ⟨xs, ys, hx.seq, hy.seq, ?_⟩⟩
  · obtain ⟨u, w, h1, h2, rfl⟩ := zipD_get hi
    obtain ⟨v, hv, hdv⟩ := hds.get h1
    obtain ⟨v', hv', hdv'⟩ := hes.get h2
    refine ⟨⟨xs, ys, v, v', hx.seq, hy.seq, hv, hv'⟩, fun x H' ⟨T, x1, x2, ex, hT, eH, f1, f2⟩ => ?_⟩
    have q1 := f1 xs hx.seq
    have q2 := f2 ys hy.seq
    rw [hv] at q1; rw [hv'] at q2
    cases q1; cases q2
    subst ex; subst eH
    exact dn_newtup st hT (dns_cons hdv (dns_cons hdv' dns_nil))
  · rw [zipD_len] at hi
    rw [hds.len, hes.len]
    omega
theorem dlv_zipL {K : PySem.W.Frag} {ds es : List D} {a b : Addr} : Dlv K M (zipD ds es) (Itz K a b) (fun ω H => Dn K (Mt M ω) H (.lst ds) (.ref a) ∧ Dn K (Mt M ω) H (.lst es) (.ref b)) := fun ω H i st hG => by
  obtain ⟨hd, he⟩ := hG
  obtain ⟨_, xs, e, hx, hds⟩ := dn_lst hd
  cases e
  obtain ⟨_, ys, e, hy, hes⟩ := dn_lst he
  cases e
  refine ⟨fun d hi => ?_, fun hi => ⟨xs, ys, hx.seq, hy.seq, ?_⟩⟩
  · obtain ⟨u, w, h1, h2, rfl⟩ := zipD_get hi
    obtain ⟨v, hv, hdv⟩ := hds.get h1
    obtain ⟨v', hv', hdv'⟩ := hes.get h2
    refine ⟨⟨xs, ys, v, v', hx.seq, hy.seq, hv, hv'⟩, fun x H' ⟨T, x1, x2, ex, hT, eH, f1, f2⟩ => ?_⟩
    have q1 := f1 xs hx.seq
    have q2 := f2 ys hy.seq
    rw [hv] at q1; rw [hv'] at q2
    cases q1; cases q2
    subst ex; subst eH
    exact dn_newtup st hT (dns_cons hdv (dns_cons hdv' dns_nil))
  · rw [zipD_len] at hi
    rw [hds.len, hes.len]
    omega
/-- (0, d0), (1, d1), .. -/
def enumD : Nat → List D → List D
  | _, [] => []
  | n, d :: ds => .tup [.int (n : Int), d] :: enumD (n + 1) ds
theorem enumD_get : ∀ {ds : List D} {n i : Nat} {d : D}, (enumD n ds)[i]? = some d → ∃ a, ds[i]? = some a ∧ d = .tup [.int ((n + i : Nat) : Int), a]
  | [], n, i, d, h => by simp [enumD] at h
  | a :: as, n, 0, d, h => by simp [enumD] at h; exact ⟨a, rfl, h.symm⟩
  | a :: as, n, i + 1, d, h => by
    have h' : (enumD (n + 1) as)[i]? = some d := by simpa [enumD] using h
    obtain ⟨x, h1, h2⟩ := enumD_get h'
    exact ⟨x, by simpa using h1, by rw [h2, show n + 1 + i = n + (i + 1) by omega]⟩
theorem enumD_len : ∀ (ds : List D) (n : Nat), (enumD n ds).length = ds.length
  | [], n => rfl
  | d :: ds, n => by simp only [enumD, List.length_cons, enumD_len ds (n + 1)]
theorem dlv_enumT {K : PySem.W.Frag} {ds : List D} {a : Addr} : Dlv K M (enumD 0 ds) (IteT K a) (fun ω H => Dn K (Mt M ω) H (.tup ds) (.ref a)) := fun ω H i st hd => by
  obtain ⟨_, xs, e, hx, hds⟩ := dn_tup hd
  cases e
  refine ⟨fun d hi => ?_, fun hi => ⟨xs, hx.seq, by rw [enumD_len] at hi; rw [hds.len]; exact hi⟩⟩
  obtain ⟨u, h1, rfl⟩ := enumD_get hi
  obtain ⟨v, hv, hdv⟩ := hds.get h1
  refine ⟨⟨xs, v, hx.seq, hv⟩, fun x H' ⟨T, x1, ex, hT, eH, f1⟩ => ?_⟩
  have q1 := f1 xs hx.seq
  rw [hv] at q1; cases q1
  subst ex; subst eH
  rw [Nat.zero_add]
  exact dn_newtup st hT (dns_cons dn_int' (dns_cons hdv dns_nil))
theorem dlv_enumL {K : PySem.W.Frag} {ds : List D} {a : Addr} : Dlv K M (enumD 0 ds) (Ite K a) (fun ω H => Dn K (Mt M ω) H (.lst ds) (.ref a)) := fun ω H i st hd => by
  obtain ⟨_, xs, e, hx, hds⟩ := dn_lst hd
  cases e
  refine ⟨fun d hi => ?_, fun hi => ⟨xs, hx.seq, by rw [enumD_len] at hi; rw [hds.len]; exact hi⟩⟩
  obtain ⟨u, h1, rfl⟩ := enumD_get hi
  obtain ⟨v, hv, hdv⟩ := hds.get h1
  refine ⟨⟨xs, v, hx.seq, hv⟩, fun x H' ⟨T, x1, ex, hT, eH, f1⟩ => ?_⟩
  have q1 := f1 xs hx.seq
  rw [hv] at q1; cases q1
  subst ex; subst eH
  rw [Nat.zero_add]
  exact dn_newtup st hT (dns_cons dn_int' (dns_cons hdv dns_nil))
variable {elts : List Expr} {kk : Nat} {tpos : Pos}
theorem ri_zipT (hm : X.mg "zip" = none) (h : RE X M e δ ω (.tup ds) ω1) (h' : RE X M e2 δ ω1 (.tup es) ω2) (hg : Gl X "zip" := by rfl) (hs : starEach [e, e2] X.env = (false, eval e X.env) :: starEach [e2] X.env := by rfl) (hs2 : starEach [e2] X.env = (false, eval e2 X.env) :: starEach [] X.env := by rfl)
    (hpl : (backTo pos (starEach [e2] X.env)).any (·.1) = false := by rfl) : RI X M (.Tuple elts kk tpos) (.Call (.Name "zip" p) [e, e2] [] pos) δ ω (zipD ds es) ω2 :=
  ⟨_, RZ.pi_zipA hg hm (pa_cons (peE X M e) (pa_cons (peE X M e2) pa_nil hs2) hs) hs hpl, fun σ H R st sl k => h.t st sl fun v H1 st1 sp1 hv => h'.t st1 (sl.carry sp1.carry) fun w H2 st2 sp2 hw => by
    have hv2 := hv.carry sp2.carry
    obtain ⟨a, xs, rfl, hx, hds⟩ := dn_tup hv2
    obtain ⟨b, ys, rfl, hy, hes⟩ := dn_tup hw
    exact ⟨a, b, xs, ys, rfl, .inr ⟨hx.seq, hy.seq, k _ H2 _ (firm_dn2 _ _ _ _) dlv_zipT ⟨hv2, hw⟩ st2 (sp1.trans sp2)⟩⟩⟩
theorem ri_zipL (hm : X.mg "zip" = none) (h : RE X M e δ ω (.lst ds) ω1) (h' : RE X M e2 δ ω1 (.lst es) ω2) (hg : Gl X "zip" := by rfl) (hs : starEach [e, e2] X.env = (false, eval e X.env) :: starEach [e2] X.env := by rfl) (hs2 : starEach [e2] X.env = (false, eval e2 X.env) :: starEach [] X.env := by rfl)
    (hpl : (backTo pos (starEach [e2] X.env)).any (·.1) = false := by rfl) : RI X M (.Tuple elts kk tpos) (.Call (.Name "zip" p) [e, e2] [] pos) δ ω (zipD ds es) ω2 :=
  ⟨_, RZ.pi_zipA hg hm (pa_cons (peE X M e) (pa_cons (peE X M e2) pa_nil hs2) hs) hs hpl, fun σ H R st sl k => h.t st sl fun v H1 st1 sp1 hv => h'.t st1 (sl.carry sp1.carry) fun w H2 st2 sp2 hw => by
    have hv2 := hv.carry sp2.carry
    obtain ⟨a, xs, rfl, hx, hds⟩ := dn_lst hv2
    obtain ⟨b, ys, rfl, hy, hes⟩ := dn_lst hw
    exact ⟨a, b, xs, ys, rfl, .inl ⟨hx.seq, hy.seq, k _ H2 _ (firm_dn2 _ _ _ _) dlv_zipL ⟨hv2, hw⟩ st2 (sp1.trans sp2)⟩⟩⟩
theorem ri_enumT (hm : X.mg "enumerate" = none) (h : RE X M e δ ω (.tup ds) ω1) (hg : Gl X "enumerate" := by rfl) (hs : starEach [e] X.env = [(false, eval e X.env)] := by rfl) : RI X M (.Tuple elts kk tpos) (.Call (.Name "enumerate" p) [e] [] pos) δ ω (enumD 0 ds) ω1 :=
  ⟨_, pi_enumT hg hm (pa_cons (peE X M e) pa_nil hs) hs, fun σ H R st sl k => h.t st sl fun v H1 st1 sp1 hv => by
    obtain ⟨a, xs, rfl, hx, hds⟩ := dn_tup hv
    exact ⟨a, xs, rfl, hx.seq, k _ H1 _ (firm_dn _ _) dlv_enumT hv st1 sp1⟩⟩
theorem ri_enumL (hm : X.mg "enumerate" = none) (h : RE X M e δ ω (.lst ds) ω1) (hg : Gl X "enumerate" := by rfl) (hs : starEach [e] X.env = [(false, eval e X.env)] := by rfl) : RI X M (.Tuple elts kk tpos) (.Call (.Name "enumerate" p) [e] [] pos) δ ω (enumD 0 ds) ω1 :=
  ⟨_, pi_enum hg hm (pa_cons (peE X M e) pa_nil hs) hs, fun σ H R st sl k => h.t st sl fun v H1 st1 sp1 hv => by
    obtain ⟨a, xs, rfl, hx, hds⟩ := dn_lst hv
    exact ⟨a, xs, rfl, hx.seq, k _ H1 _ (firm_dn _ _) dlv_enumL hv st1 sp1⟩⟩

/-! ### for -/
variable {body : List Stmt}
/-- what a turn is to reach: I behind next and continue; break and return as P tells -/
def Turn' (I : Sl → Om → Prop) (P : Out → Prop) : Out → Prop
  | .nx δ ω => I δ ω
  | .ct δ ω => I δ ω
  | .bk δ ω => P (.nx δ ω)
  | .rt d ω => P (.rt d ω)
theorem rst_for (hc : X.calm = true) (hp : PassesOwn (model X.prog X.w) X.A X.env X.xe) (I : Nat → Sl → Om → Prop) (hi : RI X M tg iter δ ω ds ω1) (h0 : I 0 δ ω1)
    (hs : ∀ (i : Nat) (d : D) (δ' : Sl) (ω' : Om), ds[i]? = some d → I i δ' ω' → ∃ δ2, RG X M tg d δ' ω' δ2 ∧ RSs X M body δ2 ω' (Turn' (I (i + 1)) P))
    (hd : ∀ δ' ω', I ds.length δ' ω' → P (.nx δ' ω')) (hf : ∀ x, foldedSetIterable iter X.env x = pure x := by intro _; rfl) : RSt X M (.For tg iter body [] pos) δ ω P := by
  obtain ⟨wi, hpi, hw⟩ := hi
  refine rst_of (ps_for hp hc hpi (pgS X M tg) (pssS X M body) hf) fun σ H D st sl k => hw σ H _ st sl fun J H1 G fG dl g1 st1 sp1 => ?_
  refine ⟨fun i m σ' H' => m = ds.length - i ∧ i ≤ ds.length ∧ ∃ δ' ω', I i δ' ω' ∧ Sta X.K M ω' H' ∧ Stp ω H ω' H' ∧ Slots X.K (Mt M ω') H' σ' δ' ∧ G ω' H',
    ⟨ds.length, by simp, Nat.zero_le _, δ, ω1, h0, st1, sp1, sl.carry sp1.carry, g1⟩, ?_⟩
  rintro i m σ' H' ⟨rfl, hle, δ', ω', hI, st', sp', sl', g'⟩
  obtain ⟨dl1, dl2⟩ := dl ω' H' i st' g'
  by_cases hlt : i < ds.length
  · obtain ⟨go, yl⟩ := dl1 _ (List.getElem?_eq_getElem hlt)
    refine .inr ⟨go, fun σ'' H'' => ∃ δ3 ω3, I (i + 1) δ3 ω3 ∧ Sta X.K M ω3 H'' ∧ Stp ω H ω3 H'' ∧ Slots X.K (Mt M ω3) H'' σ'' δ3 ∧ G ω3 H'', fun σ'' H'' ⟨δ3, ω3, a, b, c, e, f⟩ => ⟨ds.length - (i + 1), by omega, rfl, hlt, δ3, ω3, a, b, c, e, f⟩, fun x Hx hy => ?_⟩
    obtain ⟨stx, spx, hdx⟩ := yl x Hx hy
    obtain ⟨δ2, hg, hb⟩ := hs i _ δ' ω' (List.getElem?_eq_getElem hlt) hI
    refine ⟨_, δ', ω', δ2, hg, stx, sl'.carry spx.carry, hdx, fun σ2 H2 st2 sp2 sl2 => ?_⟩
    have spA : Stp ω' H' ω' H2 := spx.trans sp2
    refine ⟨δ2, ω', _, hb, st2, sl2, ?_⟩
    have gk : ∀ {ω3 H3}, Sta X.K M ω3 H3 → Stp ω' H2 ω3 H3 → G ω3 H3 := fun s3 p3 => fG _ _ _ _ (spA.trans p3) st' s3 g'
    exact ⟨fun _ _ _ _ p a b c => ⟨_, _, p, a, (sp'.trans spA).trans b, c, gk a b⟩, fun _ _ _ _ p a b c => k.nx _ _ _ _ p a ((sp'.trans spA).trans b) c,
      fun _ _ _ _ p a b c => ⟨_, _, p, a, (sp'.trans spA).trans b, c, gk a b⟩, fun _ _ _ _ p a b c => k.rt _ _ _ _ p a ((sp'.trans spA).trans b) c⟩
  · have e : i = ds.length := by omega
    subst e
    exact .inl ⟨dl2 (Nat.le_refl _), k.nx _ _ _ _ (hd δ' ω' hI) st' sp' sl'⟩
/-- while -/
theorem rst_while {c : Expr} (hp : PassesOwn (model X.prog X.w) X.A X.env X.xe) (I : Nat → Sl → Om → Prop) (m0 : Nat) (h0 : I m0 δ ω)
    (hs : ∀ m δ' ω', I m δ' ω' → ∃ b ω2, RT X M c δ' ω' b ω2 ∧ (b = true → RSs X M body δ' ω2 (Turn' (fun δ3 ω3 => ∃ m', m' < m ∧ I m' δ3 ω3) P)) ∧ (b = false → P (.nx δ' ω2))) : RSt X M (.While c body [] pos) δ ω P :=
  rst_of (ps_while hp (ptT X M c) (pssS X M body)) fun σ H D st sl k => by
    refine ⟨fun m σ' H' => ∃ δ' ω', I m δ' ω' ∧ Sta X.K M ω' H' ∧ Stp ω H ω' H' ∧ Slots X.K (Mt M ω') H' σ' δ', ⟨m0, δ, ω, h0, st, Stp.refl _ _, sl⟩, ?_⟩
    rintro m σ' H' ⟨δ', ω', hI, st', sp', sl'⟩
    obtain ⟨b, ω2, ht, h1, h2⟩ := hs m δ' ω' hI
    refine ht.t st' sl' fun H1 st1 sp1 => ?_
    cases b with
    | false => rw [if_neg Bool.false_ne_true]; exact k.nx _ _ _ _ (h2 rfl) st1 (sp'.trans sp1) (sl'.carry sp1.carry)
    | true =>
      rw [if_pos rfl]
      refine ⟨fun σ'' H'' => ∃ m', m' < m ∧ ∃ δ3 ω3, I m' δ3 ω3 ∧ Sta X.K M ω3 H'' ∧ Stp ω H ω3 H'' ∧ Slots X.K (Mt M ω3) H'' σ'' δ3, fun σ'' H'' h => h, ?_⟩
      refine ⟨δ', ω2, _, h1 rfl, st1, sl'.carry sp1.carry, ?_⟩
      have sp2 := sp'.trans sp1
      exact ⟨fun _ _ _ _ ⟨m', hm, p⟩ a b c => ⟨m', hm, _, _, p, a, sp2.trans b, c⟩, fun _ _ _ _ p a b c => k.nx _ _ _ _ p a (sp2.trans b) c, fun _ _ _ _ ⟨m', hm, p⟩ a b c => ⟨m', hm, _, _, p, a, sp2.trans b, c⟩, fun _ _ _ _ p a b c => k.rt _ _ _ _ p a (sp2.trans b) c⟩

/-! ### comprehensions -/
end
theorem wipe_get (σ : L2.St) : ∀ (vs : List Nat) (i : Nat), (L2.wipe σ vs)[i]? = if i ∈ vs ∧ i < σ.length then some none else σ[i]?
  | [], i => by simp [L2.wipe]
  | v :: vs, i => by
    unfold L2.wipe
    by_cases e : v = i
    · subst e
      by_cases hl : v < σ.length
      · rw [List.getElem?_set_self (by rw [L2.wipe_length]; exact hl), if_pos ⟨List.mem_cons_self, hl⟩]
      · rw [List.getElem?_eq_none (by rw [List.length_set, L2.wipe_length]; omega), if_neg (fun z => hl z.2), List.getElem?_eq_none (by omega)]
    · rw [List.getElem?_set_ne e, wipe_get σ vs i]
      have : (i ∈ v :: vs ∧ i < σ.length) ↔ (i ∈ vs ∧ i < σ.length) := by
        simp only [List.mem_cons]
        constructor
        · rintro ⟨h | h, h2⟩
          · exact absurd h.symm e
          · exact ⟨h, h2⟩
        · rintro ⟨h, h2⟩; exact ⟨.inr h, h2⟩
      simp only [this]
theorem wipe_set {σ : L2.St} {vs : List Nat} {j : Nat} {x : Option V} (hj : j ∈ vs) : L2.wipe (σ.set j x) vs = L2.wipe σ vs := by
  refine List.ext_getElem? fun i => ?_
  rw [wipe_get, wipe_get, List.length_set]
  by_cases e : j = i
  · subst e
    by_cases hl : j < σ.length
    · rw [if_pos ⟨hj, hl⟩, if_pos ⟨hj, hl⟩]
    · rw [if_neg (fun z => hl z.2), if_neg (fun z => hl z.2), List.getElem?_eq_none (by rw [List.length_set]; omega), List.getElem?_eq_none (by omega)]
  · rw [List.getElem?_set_ne e]
theorem wipe_idem (σ : L2.St) (vs : List Nat) : L2.wipe (L2.wipe σ vs) vs = L2.wipe σ vs := by
  refine List.ext_getElem? fun i => ?_
  rw [wipe_get, wipe_get, L2.wipe_length]
  by_cases h : i ∈ vs ∧ i < σ.length
  · rw [if_pos h, if_pos h]
  · rw [if_neg h]
/-- the target of a comprehension, by its reading: only the block's own slots are stored -/
def GR (K : PySem.W.Frag) (g : TG) (vs : List Nat) (d : D) (δ δ2 : Sl) : Prop := ∀ (N : Addr → Prop) (v : V) (σ : L2.St) (H : Hp) (Q : L2.St → Hp → Prop), Slots K N H σ δ → Dn K N H d v →
  (∀ σ2, Slots K N H σ2 δ2 → L2.wipe σ2 vs = L2.wipe σ vs → Q σ2 H) → g v σ H Q
theorem gr_name {K : PySem.W.Frag} {vs : List Nat} {d : D} {δ : Sl} (j : Nat) (hj : j ∈ vs := by decide) : GR K (gName j) vs d δ (δ.set j (some d)) := fun N v σ H Q sl hd k => k _ (sl.set hd) (wipe_set hj)
theorem gr_tup2 {K : PySem.W.Frag} {g1 g2 : TG} {vs : List Nat} {a b : D} {δ δ1 δ2 : Sl} (h1 : GR K g1 vs a δ δ1) (h2 : GR K g2 vs b δ1 δ2) : GR K (gTup K 2 (gCons g1 (gCons g2 gNil))) vs (.tup [a, b]) δ δ2 := fun N v σ H Q sl hd k => by
  obtain ⟨p, xs, rfl, hp, hds⟩ := dn_tup hd
  obtain ⟨x, y, rfl, hx, hy⟩ := dns_two hds
  exact ⟨p, _, rfl, hp.seq, rfl, x, [y], rfl, h1 N x σ H _ sl hx fun σ1 sl1 w1 => ⟨y, [], rfl, h2 N y σ1 H _ sl1 hy fun σ2 sl2 w2 => ⟨rfl, k σ2 sl2 (w2.trans w1)⟩⟩⟩

section
variable {K : PySem.W.Frag} {M : Addr → Prop} {ω ω1 ω2 : Om} {H H1 H2 : Hp} {p : Addr} {o : O}
/-- the object at p among the foreign ones -/
def addM (M : Addr → Prop) (p : Addr) : Addr → Prop := fun a => M a ∨ a = p
theorem mt_addM : Mt (addM M p) ω = Mt M ((p, o) :: ω) := by
  funext a
  refine propext ?_
  rw [mt_cons]
  unfold Mt addM
  constructor
  · rintro ((h | h) | h)
    · exact .inr (.inl h)
    · exact .inl h
    · exact .inr (.inr h)
  · rintro (h | h | h)
    · exact .inl (.inr h)
    · exact .inl (.inl h)
    · exact .inr h
theorem Sta.toM (st : Sta K M ((p, o) :: ω) H) : Sta K (addM M p) ω H := by
  obtain ⟨u, hu⟩ := (st.own (p, o) List.mem_cons_self).there
  refine ⟨fun a ha => ?_, fun a ha hm => ?_, (List.nodup_cons.mp st.nd).2, fun x hx => ?_⟩
  · rcases ha with ha | ha
    · exact st.m0 a ha
    · rw [ha, hu]; exact nofun
  · rcases hm with hm | hm
    · exact st.dis a (List.mem_cons_of_mem _ ha) hm
    · exact (List.nodup_cons.mp st.nd).1 (hm ▸ ha)
  · rw [mt_addM (o := o)]
    exact st.own x (List.mem_cons_of_mem _ hx)
/-- .. and back, it has not changed -/
theorem Sta.ofM (st1 : Sta K M ((p, o) :: ω1) H1) (st2 : Sta K (addM M p) ω2 H2) (sp : Stp ω1 H1 ω2 H2) : Sta K M ((p, o) :: ω2) H2 ∧ Stp ((p, o) :: ω1) H1 ((p, o) :: ω2) H2 := by
  have np1 : p ∉ ω1.map (·.1) := (List.nodup_cons.mp st1.nd).1
  obtain ⟨u, hu⟩ := (st1.own (p, o) List.mem_cons_self).there
  have hu2 : H2 p = some u := sp.keep p u hu np1
  have np2 : p ∉ ω2.map (·.1) := fun z => by
    rcases sp.keys p z with z | z
    · exact np1 z
    · rw [hu] at z; cases z
  have sp' : Stp ((p, o) :: ω1) H1 ((p, o) :: ω2) H2 := by
    refine ⟨fun a v h hn => sp.keep a v h fun z => hn (List.mem_cons_of_mem _ z), fun a ha => ?_, sp.there⟩
    rcases List.mem_cons.mp ha with z | z
    · exact .inl (by rw [z]; exact List.mem_cons_self)
    · rcases sp.keys a z with z | z
      · exact .inl (List.mem_cons_of_mem _ z)
      · exact .inr z
  refine ⟨⟨fun a ha => st2.m0 a (.inl ha), fun a ha hm => ?_, List.nodup_cons.mpr ⟨np2, st2.nd⟩, fun x hx => ?_⟩, sp'⟩
  · rcases List.mem_cons.mp ha with z | z
    · rw [z] at hm; exact st1.dis p List.mem_cons_self hm
    · exact st2.dis a z (.inl hm)
  rcases List.mem_cons.mp hx with rfl | hx
  · exact (st1.own (p, o) List.mem_cons_self).carry sp'.carry (hu2.trans hu.symm)
  · have := st2.own x hx
    rw [mt_addM (o := o)] at this
    exact this
end
section
variable (X : Cx) (scope : Scope)
/-- an element, a test in the block, whatever its context -/
def tEB (e : Expr) : TE := fun σ H Q => ∃ M δ ω d ω', (∀ (s : Shared) (H0 : Hp) (C : Addr) (cl : List (Str × Addr)) (fp : List Addr), RE (X.blk s H0 scope (compEnvC scope cl C X.env) fp) M e δ ω d ω') ∧ Sta X.K M ω H ∧ Slots X.K (Mt M ω) H σ δ ∧
  ∀ v H', Sta X.K M ω' H' → Stp ω H ω' H' → Dn X.K (Mt M ω') H' d v → Q v H'
def tTB (e : Expr) : TT := fun σ H Q => ∃ M δ ω b ω', (∀ (s : Shared) (H0 : Hp) (C : Addr) (cl : List (Str × Addr)) (fp : List Addr), RT (X.blk s H0 scope (compEnvC scope cl C X.env) fp) M e δ ω b ω') ∧ Sta X.K M ω H ∧ Slots X.K (Mt M ω) H σ δ ∧
  ∀ H', Sta X.K M ω' H' → Stp ω H ω' H' → Q b H'
theorem peEB (e : Expr) (s : Shared) (H0 : Hp) (C : Addr) (cl : List (Str × Addr)) (fp : List Addr) : PE (X.blk s H0 scope (compEnvC scope cl C X.env) fp) e (tEB X scope e) := ⟨fun pins s' σ H Q I h => by
  obtain ⟨M, δ, ω, d, ω', r, st, sl, k⟩ := h
  exact thn ((r s H0 C cl fp).run pins s' σ H I st sl) fun u s' ⟨v, H', I', rv, st', sp, hd⟩ => ⟨v, H', I', rv, k v H' st' sp hd⟩⟩
theorem ptTB (e : Expr) (s : Shared) (H0 : Hp) (C : Addr) (cl : List (Str × Addr)) (fp : List Addr) : PT (X.blk s H0 scope (compEnvC scope cl C X.env) fp) e (tTB X scope e) := ⟨fun pins s' σ H Q I h => by
  obtain ⟨M, δ, ω, d, ω', r, st, sl, k⟩ := h
  exact thn ((r s H0 C cl fp).run pins s' σ H I st sl) fun c s' ⟨ec, H', I', st', sp⟩ => ⟨H', I', by rw [ec]; exact k H' st' sp⟩⟩
end
/-- in every block -/
def AllB (X : Cx) (scope : Scope) (P : Cx → (Addr → Prop) → Prop) : Prop := ∀ (M : Addr → Prop) (s : Shared) (H0 : Hp) (C : Addr) (cl : List (Str × Addr)) (fp : List Addr), P (X.blk s H0 scope (compEnvC scope cl C X.env) fp) M
/-- a test's reading, whatever is foreign -/
def TR (X : Cx) (tt : TT) (δ : Sl) (ω : Om) (b : Bool) (ω' : Om) : Prop := ∀ (M : Addr → Prop) σ H (Q : Bool → Hp → Prop), Sta X.K M ω H → Slots X.K (Mt M ω) H σ δ → (∀ H', Sta X.K M ω' H' → Stp ω H ω' H' → Q b H') → tt σ H Q
theorem tr_yes {X : Cx} {δ : Sl} {ω : Om} : TR X tYes δ ω true ω := fun M σ H Q st sl k => k H st (Stp.refl _ _)
theorem tr_one {X : Cx} {scope : Scope} {c : Expr} {δ : Sl} {ω ω' : Om} {b : Bool} (h : AllB X scope (fun Y M' => RT Y M' c δ ω b ω')) : TR X (tTB X scope c) δ ω b ω' := fun M σ H Q st sl k => ⟨M, δ, ω, b, ω', fun s H0 C cl fp => h M s H0 C cl fp, st, sl, k⟩
section
variable {X : Cx} {M : Addr → Prop} {scope : Scope} {tg iter elt c : Expr} {ds : List D} {δ : Sl} {ω ω1 : Om} {wi : TI} {g : TG} {vs : List Nat} {tt : TT}
/-- the reading of a comprehension with one test: A i what is made and W i what is owned behind i turns -/
theorem lc_read1 (A : Nat → List D) (W : Nat → Om) (hA : A 0 = []) (hW : W 0 = ω1) (hz : ds.length ≤ 100000) (hlen : ∀ i, i ≤ ds.length → (A i).length ≤ i)
    (hw : ∀ σ H R, Sta X.K M ω H → Slots X.K (Mt M ω) H σ δ → (∀ J H1 G, Firm X.K M G → Dlv X.K M ds J G → G ω1 H1 → Sta X.K M ω1 H1 → Stp ω H ω1 H1 → R J H1) → wi σ H R)
    (hs : ∀ (i : Nat) (d : D), ds[i]? = some d → ∃ δ2 b ω2, GR X.K g vs d (wipeD δ vs) δ2 ∧ TR X tt δ2 (W i) b ω2 ∧
      (b = true → ∃ y, A (i + 1) = A i ++ [y] ∧ AllB X scope (fun Y M' => RE Y M' elt δ2 ω2 y (W (i + 1)))) ∧ (b = false → A (i + 1) = A i ∧ W (i + 1) = ω2)) :
    ∀ σ H (Q : VK), Sta X.K M ω H → Slots X.K (Mt M ω) H σ δ → (∀ p H', H p = none → Sta X.K M ((p, .lst (A ds.length)) :: W ds.length) H' → Stp ω H ((p, .lst (A ds.length)) :: W ds.length) H' → Q (.ref p) H') → tLc wi g tt (tEB X scope elt) vs σ H Q := by
  intro σ H Q st sl k
  refine hw σ H _ st sl fun J H1 G fG dl g1 st1 sp1 Dl hDl => ?_
  have hDl0 : H Dl = none := fresh_of sp1 hDl
  obtain ⟨sta0, stp0⟩ := take_lst (ds := []) (xs := []) st1 hDl dns_nil
  refine ⟨fun i m H' => m = ds.length - i ∧ i ≤ ds.length ∧ Sta X.K M ((Dl, .lst (A i)) :: W i) H' ∧ Stp ω H ((Dl, .lst (A i)) :: W i) H' ∧ Stp ω1 H1 ((Dl, .lst (A i)) :: W i) H' ∧ G ((Dl, .lst (A i)) :: W i) H',
    ⟨ds.length, by simp, Nat.zero_le _, by rw [hA, hW]; exact sta0, by rw [hA, hW]; exact sp1.trans stp0, by rw [hA, hW]; exact stp0, by rw [hA, hW]; exact fG _ _ _ _ stp0 st1 sta0 g1⟩, ?_⟩
  rintro i m H' ⟨rfl, hle, sti, spi, spi1, gi⟩
  obtain ⟨dl1, dl2⟩ := dl _ H' i sti gi
  by_cases hlt : i < ds.length
  · obtain ⟨go, yl⟩ := dl1 _ (List.getElem?_eq_getElem hlt)
    refine .inr ⟨go, fun H'' => Sta X.K M ((Dl, .lst (A (i + 1))) :: W (i + 1)) H'' ∧ Stp ω H ((Dl, .lst (A (i + 1))) :: W (i + 1)) H'' ∧ Stp ω1 H1 ((Dl, .lst (A (i + 1))) :: W (i + 1)) H'' ∧ G ((Dl, .lst (A (i + 1))) :: W (i + 1)) H'', fun H'' ⟨a, b, c, e⟩ => ⟨ds.length - (i + 1), by omega, rfl, hlt, a, b, c, e⟩, fun x Hx hy => ?_⟩
    obtain ⟨stx, spx, hdx⟩ := yl x Hx hy
    obtain ⟨δ2, b, ω2, hg, ht, hb1, hb2⟩ := hs i _ (List.getElem?_eq_getElem hlt)
    have slx : Slots X.K (Mt M ((Dl, .lst (A i)) :: W i)) Hx (L2.wipe σ vs) (wipeD δ vs) := (sl.carry (spi.trans spx).carry).wipe vs
    refine hg _ x _ Hx _ slx hdx fun σ2 sl2 hwp => ⟨hwp.trans (wipe_idem σ vs), ?_⟩
    have stM := stx.toM
    have slM : Slots X.K (Mt (addM M Dl) (W i)) Hx σ2 δ2 := by rw [mt_addM (o := .lst (A i))]; exact sl2
    refine ht _ _ _ _ stM slM fun H3 st3 sp3 => ?_
    obtain ⟨st3', sp3'⟩ := stx.ofM st3 sp3
    cases b with
    | false =>
      rw [if_neg Bool.false_ne_true]
      obtain ⟨e1, e2⟩ := hb2 rfl
      rw [e1, e2]
      exact ⟨st3', (spi.trans spx).trans sp3', (spi1.trans spx).trans sp3', fG _ _ _ _ (spx.trans sp3') sti st3' gi⟩
    | true =>
      rw [if_pos rfl]
      obtain ⟨y, e1, he⟩ := hb1 rfl
      refine ⟨addM M Dl, δ2, ω2, y, W (i + 1), fun s H0 C cl fp => he _ s H0 C cl fp, st3, slM.carry sp3.carry, fun v H4 st4 sp4 hv => ?_⟩
      obtain ⟨st4', sp4'⟩ := st3'.ofM st4 sp4
      obtain ⟨xs, hxs, hds⟩ := st4'.own (Dl, .lst (A i)) List.mem_cons_self
      rw [mt_addM (o := .lst (A i))] at hv
      have hl := hlen i (Nat.le_of_lt hlt)
      refine ⟨xs, hxs, by rw [hds.len]; exact Nat.lt_of_lt_of_le (show (A i).length < 100000 by omega) (by decide), ?_⟩
      obtain ⟨a1, a2⟩ := st4'.change (i := 0) (ob := .lst (A i ++ [y])) (u := .lst (xs ++ [v])) rfl (fun H' cc e => ⟨xs ++ [v], e, (dns_map cc hds).append (dns_cons (cc _ _ hv) dns_nil)⟩)
      rw [List.set_cons_zero] at a1 a2
      rw [e1]
      have spA := spx.trans (sp3'.trans (sp4'.trans a2))
      exact ⟨a1, spi.trans spA, spi1.trans spA, fG _ _ _ _ spA sti a1 gi⟩
  · have e : i = ds.length := by omega
    subst e
    exact .inl ⟨dl2 (Nat.le_refl _), k Dl H' hDl0 sti spi⟩
/-- a comprehension, all that its two rules ask -/
def LC (X : Cx) (M : Addr → Prop) (elt tg iter : Expr) (ifs : List Expr) (scope : Scope) (δ : Sl) (ω : Om) (ds : List D) (ω' : Om) : Prop := ∃ (own : List (Str × Nat)) (wi : TI) (g : TG) (tt : TT) (te : TE),
  PI X tg iter wi ∧ BlkOk X.N X.env.scope scope own ∧ (∀ (s : Shared) (H : Hp) (C : Addr) (cl : List (Str × Addr)) (fp : List Addr), PG (X.blk s H scope (compEnvC scope cl C X.env) fp) tg g) ∧
  (∀ (s : Shared) (H : Hp) (C : Addr) (cl : List (Str × Addr)) (fp : List Addr), PTs (X.blk s H scope (compEnvC scope cl C X.env) fp) ifs tt) ∧
  (∀ (s : Shared) (H : Hp) (C : Addr) (cl : List (Str × Addr)) (fp : List Addr), PE (X.blk s H scope (compEnvC scope cl C X.env) fp) elt te) ∧ (∀ x, foldedSetIterable iter X.env x = pure x) ∧
  ∀ σ H (Q : VK), Sta X.K M ω H → Slots X.K (Mt M ω) H σ δ → (∀ p H', H p = none → Sta X.K M ((p, .lst ds) :: ω') H' → Stp ω H ((p, .lst ds) :: ω') H' → Q (.ref p) H') → tLc wi g tt te (own.map (·.2)) σ H Q
theorem rn_lc {ifs : List Expr} {ω' : Om} {pos : Pos} (hc : X.calm = true) (hN : X.N.Nodup) (h : LC X M elt tg iter ifs scope δ ω ds ω') : RN X M (.ListComp elt [⟨tg, iter, ifs, 0⟩] scope pos) δ ω ds ω' := by
  obtain ⟨own, wi, g, tt, te, h1, h2, h3, h4, h5, h6, hr⟩ := h
  exact rn_of (pe_lc hc hN h1 h2 h3 h4 h5 h6) fun σ H Q st sl k => hr σ H Q st sl k
/-- y = [..], owned -/
theorem rst_setLcN {ifs : List Expr} {ω' : Om} {pos spos py : Pos} {P : Out → Prop} (i : Nat) {y : Str} (hc : X.calm = true) (hN : X.N.Nodup) (h : LC X M elt tg iter ifs scope δ ω ds ω') (q : ∀ p, P (.nx (δ.set i (some (.ptr p))) ((p, .lst ds) :: ω')))
    (hy : X.N[i]? = some y := by rfl) (hyl : X.env.scope.names.lookup y = some .local := by rfl)
    (hsw : swapsWith (.ListComp elt [⟨tg, iter, ifs, 0⟩] scope pos) (some (.Name y py)) spos.line X.env = pure true := by exact sw_true rfl rfl rfl (by decide +kernel)) : RSt X M (.Assign [.Name y py] (.ListComp elt [⟨tg, iter, ifs, 0⟩] scope pos) spos) δ ω P := by
  obtain ⟨own, wi, g, tt, te, h1, h2, h3, h4, h5, h6, hr⟩ := h
  exact rst_of (ps_setLc hc hN hy hyl hsw h1 h2 h3 h4 h5 h6) fun σ H D st sl k => hr σ H _ st sl fun p H' hp a b => k.nx _ H' _ _ (q p) a b ((sl.carry b.carry).set dn_ptr')
/-- y = [..], not changed any more -/
theorem rst_setLc {ifs : List Expr} {ω' : Om} {pos spos py : Pos} {P : Out → Prop} (i : Nat) {y : Str} (hc : X.calm = true) (hN : X.N.Nodup) (h : LC X M elt tg iter ifs scope δ ω ds ω') (q : P (.nx (δ.set i (some (.lst ds))) ω'))
    (hy : X.N[i]? = some y := by rfl) (hyl : X.env.scope.names.lookup y = some .local := by rfl)
    (hsw : swapsWith (.ListComp elt [⟨tg, iter, ifs, 0⟩] scope pos) (some (.Name y py)) spos.line X.env = pure true := by exact sw_true rfl rfl rfl (by decide +kernel)) : RSt X M (.Assign [.Name y py] (.ListComp elt [⟨tg, iter, ifs, 0⟩] scope pos) spos) δ ω P := by
  obtain ⟨own, wi, g, tt, te, h1, h2, h3, h4, h5, h6, hr⟩ := h
  refine rst_of (ps_setLc hc hN hy hyl hsw h1 h2 h3 h4 h5 h6) fun σ H D st sl k => hr σ H _ st sl fun p H' hp a b => ?_
  obtain ⟨a', d'⟩ := a.freeze
  exact k.nx _ H' _ _ q a' b.drop1 ((sl.carry b.drop1.carry).set d')
/-! the forms one uses: own: the block's names with their slots; g: the target's reading -/
variable {α : Type}
theorem lc_thread (own : List (Str × Nat)) (g : TG) (A : Nat → List D) (W : Nat → Om) (hA : A 0 = []) (hW : W 0 = ω1) (hz : ds.length ≤ 100000) (hlen : ∀ i, i ≤ ds.length → (A i).length ≤ i) (hi : RI X M tg iter δ ω ds ω1)
    (hg : ∀ (s : Shared) (H : Hp) (C : Addr) (cl : List (Str × Addr)) (fp : List Addr), PG (X.blk s H scope (compEnvC scope cl C X.env) fp) tg g)
    (hs : ∀ (i : Nat) (d : D), ds[i]? = some d → ∃ δ2, GR X.K g (own.map (·.2)) d (wipeD δ (own.map (·.2))) δ2 ∧ ∃ y, A (i + 1) = A i ++ [y] ∧ AllB X scope (fun Y M' => RE Y M' elt δ2 (W i) y (W (i + 1))))
    (hb : blkC X.N X.env.scope scope own = true := by first | decide +kernel | rfl) (hf : ∀ x, foldedSetIterable iter X.env x = pure x := by intro _; rfl) : LC X M elt tg iter [] scope δ ω (A ds.length) (W ds.length) := by
  obtain ⟨wi, hpi, hw⟩ := hi
  refine ⟨own, wi, g, tYes, tEB X scope elt, hpi, blkOk_by hb, hg, fun _ _ _ _ _ => pts_nil, fun s H C cl fp => peEB X scope elt s H C cl fp, hf, lc_read1 A W hA hW hz hlen hw fun i d hd => ?_⟩
  obtain ⟨δ2, h1, y, h2, h3⟩ := hs i d hd
  exact ⟨δ2, true, W i, h1, tr_yes, fun _ => ⟨y, h2, h3⟩, fun z => (by cases z)⟩
theorem lc_threadIf (own : List (Str × Nat)) (g : TG) (A : Nat → List D) (W : Nat → Om) (hA : A 0 = []) (hW : W 0 = ω1) (hz : ds.length ≤ 100000) (hlen : ∀ i, i ≤ ds.length → (A i).length ≤ i) (hi : RI X M tg iter δ ω ds ω1)
    (hg : ∀ (s : Shared) (H : Hp) (C : Addr) (cl : List (Str × Addr)) (fp : List Addr), PG (X.blk s H scope (compEnvC scope cl C X.env) fp) tg g)
    (hs : ∀ (i : Nat) (d : D), ds[i]? = some d → ∃ δ2 b ω2, GR X.K g (own.map (·.2)) d (wipeD δ (own.map (·.2))) δ2 ∧ AllB X scope (fun Y M' => RT Y M' c δ2 (W i) b ω2) ∧
      (b = true → ∃ y, A (i + 1) = A i ++ [y] ∧ AllB X scope (fun Y M' => RE Y M' elt δ2 ω2 y (W (i + 1)))) ∧ (b = false → A (i + 1) = A i ∧ W (i + 1) = ω2))
    (hb : blkC X.N X.env.scope scope own = true := by first | decide +kernel | rfl) (hf : ∀ x, foldedSetIterable iter X.env x = pure x := by intro _; rfl) : LC X M elt tg iter [c] scope δ ω (A ds.length) (W ds.length) := by
  obtain ⟨wi, hpi, hw⟩ := hi
  refine ⟨own, wi, g, tTB X scope c, tEB X scope elt, hpi, blkOk_by hb, hg, fun s H C cl fp => pts_one (ptTB X scope c s H C cl fp), fun s H C cl fp => peEB X scope elt s H C cl fp, hf, lc_read1 A W hA hW hz hlen hw fun i d hd => ?_⟩
  obtain ⟨δ2, b, ω2, h1, h2, h3, h4⟩ := hs i d hd
  exact ⟨δ2, b, ω2, h1, tr_one h2, h3, h4⟩
theorem take_succ_map {β : Type} (xs : List α) (f : α → β) {i : Nat} {x : α} (h : xs[i]? = some x) : (xs.take (i + 1)).map f = (xs.take i).map f ++ [f x] := by
  rw [List.take_add_one, h, List.map_append]; rfl
/-- pure, no test -/
theorem lc_map (own : List (Str × Nat)) (g : TG) (xs : List α) (enc gf : α → D) (hi : RI X M tg iter δ ω (xs.map enc) ω1) (hz : xs.length ≤ 100000)
    (hg : ∀ (s : Shared) (H : Hp) (C : Addr) (cl : List (Str × Addr)) (fp : List Addr), PG (X.blk s H scope (compEnvC scope cl C X.env) fp) tg g)
    (hs : ∀ x ∈ xs, ∃ δ2, GR X.K g (own.map (·.2)) (enc x) (wipeD δ (own.map (·.2))) δ2 ∧ AllB X scope (fun Y M' => RE Y M' elt δ2 ω1 (gf x) ω1))
    (hb : blkC X.N X.env.scope scope own = true := by first | decide +kernel | rfl) (hf : ∀ x, foldedSetIterable iter X.env x = pure x := by intro _; rfl) : LC X M elt tg iter [] scope δ ω (xs.map gf) ω1 := by
  have := lc_thread (X := X) (M := M) (elt := elt) own g (fun i => (xs.take i).map gf) (fun _ => ω1) (by simp) rfl (by simpa using hz) (fun i _ => by rw [List.length_map]; exact List.length_take_le _ _) hi hg (fun i d hd => by
    rw [List.getElem?_map] at hd
    cases e : xs[i]? with
    | none => rw [e] at hd; cases hd
    | some x =>
      rw [e] at hd
      cases hd
      obtain ⟨δ2, h1, h2⟩ := hs x (List.mem_of_getElem? e)
      exact ⟨δ2, h1, gf x, take_succ_map xs gf e, h2⟩) hb hf
  simpa using this
/-- pure, one test -/
theorem lc_filter (own : List (Str × Nat)) (g : TG) (xs : List α) (enc gf : α → D) (f : α → Bool) (hi : RI X M tg iter δ ω (xs.map enc) ω1) (hz : xs.length ≤ 100000)
    (hg : ∀ (s : Shared) (H : Hp) (C : Addr) (cl : List (Str × Addr)) (fp : List Addr), PG (X.blk s H scope (compEnvC scope cl C X.env) fp) tg g)
    (hs : ∀ x ∈ xs, ∃ δ2, GR X.K g (own.map (·.2)) (enc x) (wipeD δ (own.map (·.2))) δ2 ∧ AllB X scope (fun Y M' => RT Y M' c δ2 ω1 (f x) ω1) ∧ (f x = true → AllB X scope (fun Y M' => RE Y M' elt δ2 ω1 (gf x) ω1)))
    (hb : blkC X.N X.env.scope scope own = true := by first | decide +kernel | rfl) (hf : ∀ x, foldedSetIterable iter X.env x = pure x := by intro _; rfl) : LC X M elt tg iter [c] scope δ ω ((xs.filter f).map gf) ω1 := by
  have := lc_threadIf (X := X) (M := M) (elt := elt) (c := c) own g (fun i => ((xs.take i).filter f).map gf) (fun _ => ω1) (by simp) rfl (by simpa using hz) (fun i _ => by rw [List.length_map]; exact Nat.le_trans (List.length_filter_le _ _) (List.length_take_le _ _)) hi hg (fun i d hd => by
    rw [List.getElem?_map] at hd
    cases e : xs[i]? with
    | none => rw [e] at hd; cases hd
    | some x =>
      rw [e] at hd
      cases hd
      obtain ⟨δ2, h1, h2, h3⟩ := hs x (List.mem_of_getElem? e)
      refine ⟨δ2, f x, ω1, h1, h2, fun hb => ⟨gf x, ?_, h3 hb⟩, fun hb => ⟨?_, rfl⟩⟩
      · show ((xs.take (i + 1)).filter f).map gf = ((xs.take i).filter f).map gf ++ [gf x]
        rw [List.take_add_one, e, List.filter_append, List.map_append]
        simp [hb]
      · show ((xs.take (i + 1)).filter f).map gf = ((xs.take i).filter f).map gf
        rw [List.take_add_one, e, List.filter_append, List.map_append]
        simp [hb]) hb hf
  simpa using this
end
end DV
/-! DV5: promises of defs over deep data, calls, bodies; fields, isinstance, slices. -/
namespace DV
open PySem PySem.Spec PyProof.Rows L2

/-- a pure def: from ds it gives d -/
def spP (K : PySem.W.Frag) (n : Nat) (R : List D → D → Prop) : Sp := fun vs H Q _ => vs.length = n ∧ ∃ M ds d, Sta K M [] H ∧ Dns K (Mt M []) H ds vs ∧ R ds d ∧
  ∀ v H', Sta K M [] H' → Stp [] H [] H' → Dn K (Mt M []) H' d v → Q v H'
/-- .. a new list -/
def spN (K : PySem.W.Frag) (n : Nat) (R : List D → List D → Prop) : Sp := fun vs H Q _ => vs.length = n ∧ ∃ M ds es, Sta K M [] H ∧ Dns K (Mt M []) H ds vs ∧ R ds es ∧
  ∀ p H', H p = none → Sta K M [(p, .lst es)] H' → Stp [] H [(p, .lst es)] H' → Q (.ref p) H'
/-- a def that changes the object at its first argument -/
def spO (K : PySem.W.Frag) (n : Nat) (R : O → List D → D → O → Prop) : Sp := fun vs H Q _ => vs.length = n ∧ ∃ M a ob ds d ob', Sta K M [(a, ob)] H ∧ Dns K (Mt M [(a, ob)]) H (.ptr a :: ds) vs ∧ R ob ds d ob' ∧
  ∀ v H', Sta K M [(a, ob')] H' → Stp [(a, ob)] H [(a, ob')] H' → Dn K (Mt M [(a, ob')]) H' d v → Q v H'
/-- the def called x, as it is called -/
def Has (X : Cx) (x : Str) (k : Nat) (sp : Sp) : Prop := ∃ f fd ps, FnOk X.prog X.w X.K X.mg X.base CX0 k f fd ps sp ∧ X.mg x = some (.ref f) ∧ PySem.W.keepIn X.K (.ref f) = true ∧ Binds X.K fd ps []
section
variable {K : PySem.W.Frag} {M : Addr → Prop} {ω ω1 : Om} {H H' : Hp}
theorem mt_nil : Mt (Mt M ω) [] = Mt M ω := by
  funext a
  exact propext ⟨fun h => h.elim id fun z => absurd z (by simp), .inl⟩
theorem Sta.out (st : Sta K M ω H) : Sta K (Mt M ω) [] H := ⟨fun a ha => by
  rcases ha with h | h
  · exact st.m0 a h
  · obtain ⟨x, hx, e⟩ := List.mem_map.mp h
    obtain ⟨u, hu⟩ := (st.own x hx).there
    rw [← e, hu]; exact nofun, fun a ha => absurd ha (by simp), by simp, fun x hx => absurd hx (by simp)⟩
theorem Stp.ext (sp : Stp [] H ω1 H') : ∀ a o, H a = some o → H' a = some o := fun a o h => sp.keep a o h (by simp)
/-- foreign, but not at a -/
def Mx (M : Addr → Prop) (ω : Om) (a : Addr) : Addr → Prop := fun b => Mt M ω b ∧ b ≠ a
theorem mt_mx {a : Addr} {ob ob' : O} {k : Nat} (h : ω[k]? = some (a, ob)) : Mt (Mx M ω a) [(a, ob')] = Mt M ω := by
  funext b
  refine propext ⟨fun q => ?_, fun q => ?_⟩
  · rcases q with q | q
    · exact q.1
    · have : b = a := by simpa using q
      rw [this]
      exact .inr (List.mem_map.mpr ⟨_, List.mem_of_getElem? h, rfl⟩)
  · by_cases e : b = a
    · exact .inr (by simp [e])
    · exact .inl ⟨q, e⟩
theorem Sta.one (st : Sta K M ω H) {a : Addr} {ob : O} {k : Nat} (h : ω[k]? = some (a, ob)) : Sta K (Mx M ω a) [(a, ob)] H := by
  refine ⟨fun b hb => st.out.m0 b hb.1, fun b hb hm => hm.2 (by simpa using hb), by simp, fun x hx => ?_⟩
  have : x = (a, ob) := by simpa using hx
  subst this
  rw [mt_mx h]
  exact st.get h
theorem Sta.back (st : Sta K M ω H) {a : Addr} {ob ob' : O} {k : Nat} (h : ω[k]? = some (a, ob)) (st' : Sta K (Mx M ω a) [(a, ob')] H') (sp : Stp [(a, ob)] H [(a, ob')] H') :
    Sta K M (ω.set k (a, ob')) H' ∧ Stp ω H (ω.set k (a, ob')) H' := by
  have hm : a ∈ ω.map (·.1) := List.mem_map.mpr ⟨_, List.mem_of_getElem? h, rfl⟩
  have sp' : Stp ω H (ω.set k (a, ob')) H' := by
    refine ⟨fun b o e hn => sp.keep b o e fun z => hn ?_, fun b hb => by rw [keys_set h] at hb; exact .inl hb, sp.there⟩
    have : b = a := by simpa using z
    rw [this]; exact hm
  refine ⟨⟨fun b hb => ?_, by rw [keys_set h]; exact st.dis, by rw [keys_set h]; exact st.nd, fun x hx => ?_⟩, sp'⟩
  · cases q : H b with
    | none => exact absurd q (st.m0 b hb)
    | some o => exact sp.there b o q
  · rw [mt_set h]
    obtain ⟨j, hj⟩ := List.mem_iff_getElem?.mp hx
    by_cases e : k = j
    · subst e
      rw [List.getElem?_set_self (List.getElem?_eq_some_iff.mp h).1] at hj
      cases hj
      have := st'.own (a, ob') (by simp)
      rw [mt_mx h] at this
      exact this
    · rw [List.getElem?_set_ne e] at hj
      have ho := st.get (p := x.1) (o := x.2) hj
      obtain ⟨u, hu⟩ := ho.there
      have hne : x.1 ≠ a := fun z => e (by
        have n1 : (ω.map (·.1))[k]? = some a := by rw [List.getElem?_map, h]; rfl
        have n2 : (ω.map (·.1))[j]? = some a := by rw [List.getElem?_map, hj]; exact congrArg some z
        obtain ⟨h1, e1⟩ := List.getElem?_eq_some_iff.mp n1
        obtain ⟨h2, e2⟩ := List.getElem?_eq_some_iff.mp n2
        exact (List.getElem_inj st.nd).mp (e1.trans e2.symm))
      have c := sp'.carry (M := M)
      rw [mt_set h] at c
      exact ho.carry c ((sp.keep x.1 u hu (by simpa using hne)).trans hu.symm)
end
section
variable {X : Cx} {M : Addr → Prop} {δ : Sl} {ω ω1 ω2 : Om} {d : D} {ds es : List D} {e : Expr} {l : List Expr} {pos p : Pos} {x : Str} {k n : Nat}
theorem re_call {R : List D → D → Prop} (G : Has X x k (spP X.K n R)) (hr : Room k X.A) (ha : RA X M (e :: l) δ ω ds ω1) (hR : R ds d) (hn : ds.length = n := by rfl) (hg : Gl X x := by rfl) (hdb : (x == ("__debug__" : Str)) = false := by decide)
    (he : starEach (e :: l) X.env = (false, eval e X.env) :: starEach l X.env := by rfl) (hpl : (backTo pos (starEach l X.env)).any (·.1) = false := by rfl) : RE X M (.Call (.Name x p) (e :: l) [] pos) δ ω d ω1 := by
  obtain ⟨f, fd, ps, F, hm, hk, hb⟩ := G
  obtain ⟨t, hp, ht⟩ := ha
  refine re_of (pe_call F hr hg hm hk hb .nil pass0 hp hdb he hpl) fun σ H Q st sl kk => ht σ H _ st sl fun vs H1 st1 sp1 hds => ?_
  rw [List.append_nil]
  refine ⟨by rw [hds.len, hn], Mt M ω1, ds, d, st1.out, by rw [mt_nil]; exact hds, hR, fun v H2 st2 sp2 hv => ?_⟩
  obtain ⟨a, b⟩ := st1.ext sp2.ext
  rw [mt_nil] at hv
  exact kk v H2 a (sp1.trans b) hv
theorem rn_call {R : List D → List D → Prop} (G : Has X x k (spN X.K n R)) (hr : Room k X.A) (ha : RA X M (e :: l) δ ω ds ω1) (hR : R ds es) (hn : ds.length = n := by rfl) (hg : Gl X x := by rfl) (hdb : (x == ("__debug__" : Str)) = false := by decide)
    (he : starEach (e :: l) X.env = (false, eval e X.env) :: starEach l X.env := by rfl) (hpl : (backTo pos (starEach l X.env)).any (·.1) = false := by rfl) : RN X M (.Call (.Name x p) (e :: l) [] pos) δ ω es ω1 := by
  obtain ⟨f, fd, ps, F, hm, hk, hb⟩ := G
  obtain ⟨t, hp, ht⟩ := ha
  refine rn_of (pe_call F hr hg hm hk hb .nil pass0 hp hdb he hpl) fun σ H Q st sl kk => ht σ H _ st sl fun vs H1 st1 sp1 hds => ?_
  rw [List.append_nil]
  refine ⟨by rw [hds.len, hn], Mt M ω1, ds, es, st1.out, by rw [mt_nil]; exact hds, hR, fun q H2 hq st2 sp2 => ?_⟩
  obtain ⟨a, b⟩ := st1.ext sp2.ext
  have np : q ∉ ω1.map (·.1) := fun z => by
    obtain ⟨y, hy, e⟩ := List.mem_map.mp z
    obtain ⟨u, hu⟩ := (st1.own y hy).there
    rw [e, hq] at hu; cases hu
  have sp' : Stp ω1 H1 ((q, .lst es) :: ω1) H2 := ⟨b.keep, fun c hc => by
    rcases List.mem_cons.mp hc with z | z
    · exact .inr (by rw [z]; exact hq)
    · exact .inl z, b.there⟩
  refine kk q H2 (fresh_of sp1 hq) ⟨a.m0, fun c hc hm => ?_, List.nodup_cons.mpr ⟨np, a.nd⟩, fun y hy => ?_⟩ (sp1.trans sp')
  · rcases List.mem_cons.mp hc with z | z
    · rw [z] at hm; exact st1.m0 q hm hq
    · exact a.dis c z hm
  · rcases List.mem_cons.mp hy with rfl | hy
    · have := st2.own (q, .lst es) (by simp)
      have em : Mt (Mt M ω1) [(q, .lst es)] = Mt M ((q, .lst es) :: ω1) := by
        funext c
        refine propext ?_
        show ((M c ∨ c ∈ ω1.map (·.1)) ∨ c ∈ [q]) ↔ (M c ∨ c ∈ q :: ω1.map (·.1))
        simp only [List.mem_cons, List.not_mem_nil, or_false]
        constructor
        · rintro ((h | h) | h)
          · exact .inl h
          · exact .inr (.inr h)
          · exact .inr (.inl h)
        · rintro (h | h | h)
          · exact .inl (.inl h)
          · exact .inr h
          · exact .inl (.inr h)
      rw [em] at this
      exact this
    · have h1 := st1.own y hy
      obtain ⟨u, hu⟩ := h1.there
      exact h1.carry sp'.carry ((sp2.ext _ _ hu).trans hu.symm)
theorem re_callO {R : O → List D → D → O → Prop} {a : Addr} {ob ob' : O} (j : Nat) (G : Has X x k (spO X.K n R)) (hr : Room k X.A) (ha : RA X M (e :: l) δ ω (.ptr a :: ds) ω1) (ho : ω1[j]? = some (a, ob)) (hR : R ob ds d ob') (hn : ds.length + 1 = n := by rfl) (hg : Gl X x := by rfl) (hdb : (x == ("__debug__" : Str)) = false := by decide)
    (he : starEach (e :: l) X.env = (false, eval e X.env) :: starEach l X.env := by rfl) (hpl : (backTo pos (starEach l X.env)).any (·.1) = false := by rfl) : RE X M (.Call (.Name x p) (e :: l) [] pos) δ ω d (ω1.set j (a, ob')) := by
  obtain ⟨f, fd, ps, F, hm, hk, hb⟩ := G
  obtain ⟨t, hp, ht⟩ := ha
  refine re_of (pe_call F hr hg hm hk hb .nil pass0 hp hdb he hpl) fun σ H Q st sl kk => ht σ H _ st sl fun vs H1 st1 sp1 hds => ?_
  rw [List.append_nil]
  refine ⟨by rw [hds.len]; exact hn, Mx M ω1 a, a, ob, ds, d, ob', st1.one ho, by rw [mt_mx ho]; exact hds, hR, fun v H2 st2 sp2 hv => ?_⟩
  obtain ⟨b, c⟩ := st1.back ho st2 sp2
  rw [mt_mx ho] at hv
  exact kk v H2 b (sp1.trans c) (by rw [mt_set ho]; exact hv)
/-- an owned list that is not changed any more -/
theorem re_frz {q : Addr} (j : Nat) (h : RE X M e δ ω (.ptr q) ω1) (ho : ω1[j]? = some (q, .lst ds)) : RE X M e δ ω (.lst ds) (ω1.eraseIdx j) := re_of (peE X M e) fun σ H Q st sl k => h.t st sl fun v H1 st1 sp1 hv => by
  rw [dn_ptr hv]
  have hsub : ∀ y ∈ ω1.eraseIdx j, y ∈ ω1 := fun y hy => List.mem_of_mem_eraseIdx hy
  have hsub' : ∀ c ∈ (ω1.eraseIdx j).map (·.1), c ∈ ω1.map (·.1) := fun c hc => by
    obtain ⟨y, hy, e⟩ := List.mem_map.mp hc
    exact List.mem_map.mpr ⟨y, hsub y hy, e⟩
  have cr : Carry (Mt M ω1) (Mt M (ω1.eraseIdx j)) H1 H1 := fun a o h hn => ⟨h, fun z => hn (z.elim .inl fun z => .inr (hsub' a z))⟩
  have sp2 : Stp ω1 H1 (ω1.eraseIdx j) H1 := ⟨fun _ _ h _ => h, fun a ha => .inl (hsub' a ha), fun a o h => by rw [h]; exact nofun⟩
  have nd2 : ((ω1.eraseIdx j).map (·.1)).Nodup := (List.Sublist.map _ (List.eraseIdx_sublist ω1 j)).nodup st1.nd
  refine k _ H1 ⟨st1.m0, fun c hc => st1.dis c (hsub' c hc), nd2, fun y hy => (st1.own y (hsub y hy)).carry cr rfl⟩ (sp1.trans sp2) ?_
  obtain ⟨xs, hx, hd⟩ := st1.get ho
  unfold Dn
  refine ⟨q, xs, rfl, ⟨fun z => ?_, hx⟩, hd.carry cr⟩
  rcases z with z | z
  · exact st1.dis q (List.mem_map.mpr ⟨_, List.mem_of_getElem? ho, rfl⟩) z
  · obtain ⟨y, hy, ey⟩ := List.mem_map.mp z
    obtain ⟨i, hi⟩ := List.mem_iff_getElem?.mp hy
    rw [List.getElem?_eraseIdx] at hi
    have inj : ∀ {m : Nat}, ω1[m]? = some y → m = j := fun {m} hm => by
      have n1 : (ω1.map (·.1))[j]? = some q := by rw [List.getElem?_map, ho]; rfl
      have n2 : (ω1.map (·.1))[m]? = some q := by rw [List.getElem?_map, hm]; exact congrArg some ey
      obtain ⟨h1, e1⟩ := List.getElem?_eq_some_iff.mp n1
      obtain ⟨h2, e2⟩ := List.getElem?_eq_some_iff.mp n2
      exact (List.getElem_inj st1.nd).mp (e2.trans e1.symm)
    split at hi
    · have := inj hi; omega
    · have := inj hi; omega
end
/-! ### bodies -/
section
variable {P : Program} {w : World} {K : PySem.W.Frag} {mg : Str → Option Value} {base : Heap}
/-- the slots at the entry -/
def startD (N : List Str) (ds : List D) : Sl := ds.map some ++ List.replicate (N.length - ds.length) none
def RetIs (d : D) : Out → Prop
  | .rt d' _ => d' = d
  | .nx _ _ => d = .non
  | _ => False
theorem dn_shrink {M : Addr → Prop} {ω ω' : Om} {H : Hp} {d : D} {v : V} (h : Dn K (Mt M ω) H d v) (hs : ∀ a ∈ ω'.map (·.1), a ∈ ω.map (·.1)) : Dn K (Mt M ω') H d v :=
  h.carry fun a o e hn => ⟨e, fun z => hn (z.elim .inl fun z => .inr (hs a z))⟩
theorem Sta.nil {M : Addr → Prop} {ω : Om} {H : Hp} (st : Sta K M ω H) : Sta K M [] H := ⟨st.m0, fun a ha => absurd ha (by simp), by simp, fun x hx => absurd hx (by simp)⟩
theorem fun_P {x qual : Str} {st : Stmt} {f : Addr} {fd : FuncData} {N ps : List Str} {k n : Nat} {R : List D → D → Prop} (F : Fun K x qual st f fd) (S : FnScope N ps (defScope st)) (hn : ps.length = n)
    (hbody : ∀ (cdv : Value) (A : Around) (outer : List Env) (s : Shared) (H : Hp) (E : XK) (M : Addr → Prop) (ds : List D) (d : D), Room k (A.deeper (envOfC qual (defScope st) s.heap.objs.size f cdv)) → R ds d → ds.length = n →
      RSs (cxOf CX0 P w K mg base N qual (defScope st) f cdv A outer s H E).nox M (defBody st) (startD N ds) [] (RetIs d)) : FnOk P w K mg base CX0 (k + 1) f fd ps (spP K n R) :=
  F.ok S (fun vs H Q E h => by rw [h.1, hn]) fun cdv A outer s H vs Q E hr h => by
    obtain ⟨hl, M, ds, d, st0, hds, hR, q⟩ := h
    have hdl : ds.length = n := by rw [← hds.len]; exact hl
    refine ⟨tSS _ M (defBody st), pssS _ M _, startD N ds, [], RetIs d, hbody cdv A outer s H E M ds d hr hR hdl, st0, ?_, ?_⟩
    · show Slots K _ H (L2.start N vs) (startD N ds)
      unfold L2.start startD
      rw [hds.len]
      exact Slots.start _ hds
    · exact ⟨fun σ' H' δ' ω' p st' sp' sl' => by
          have e : d = .non := p
          subst e
          exact q .non H' st'.nil (sp'.trans ⟨fun _ _ h _ => h, fun a ha => absurd ha (by simp), fun a o h => by rw [h]; exact nofun⟩) dn_non',
        fun _ _ _ _ p _ _ _ => p.elim, fun _ _ _ _ p _ _ _ => p.elim, fun v H' d' ω' p st' sp' hv => by
          have e : d' = d := p
          subst e
          exact q v H' st'.nil (sp'.trans ⟨fun _ _ h _ => h, fun a ha => absurd ha (by simp), fun a o h => by rw [h]; exact nofun⟩) (dn_shrink hv fun a ha => absurd ha (by simp))⟩
end
end DV
/-! DV6: tuple * int, sum of a tuple, sorted(set(..)), isinstance, slices, fields, instances, bodies that change an object. -/
namespace L2
open PySem PySem.Spec PyProof.Rows
open PySem.AutoSeq1 (wpAny_loadPart')
open PySem.MeetsSeq PySem.MeetsSeq2 PySem.MeetsSeq3
theorem dv_tuple_mul1 (l : Addr) (items : Array Value) (n : Nat) (dd : Option Addr) (sl : Array (Option Value)) (u : Tok) :
    Meets (Builtin.«tuple.__mul__» ⟨[.ref l, .int 1 u], []⟩) (fun _ R s => s.heap.get? l = some { cls := .type "tuple", dict := dd, data := .seq items n, slots := sl } ∧
      R (.ok (.ret (Value.ref l))) s) :=
  .of_wp fun prog w A R s h => by
    obtain ⟨hp, g, d, tk, os⟩ := s
    obtain ⟨hl, h⟩ := h
    have f1 := AutoSeq1.idx_int
    have hT : Shared.TypeIs ⟨hp, g, d, tk, os⟩ (.ref l) "tuple" := ⟨_, hl, rfl⟩
    wp_walk using wpAny_loadPart' hl
    exact ⟨_, rfl, h⟩
section
variable {X : Cx}
def rRepT1 (K : PySem.W.Frag) : R2 := fun x y H Q => ∃ l xs, x = .ref l ∧ y = .int 1 ∧ SqT K H l xs ∧ Q (.ref l) H
theorem op_repT1 : OpR X (binaryOp .Mult) (rRepT1 X.K) := by
  intro pins s σ H x y v u Q I rx ry h
  obtain ⟨l, xs, rfl, rfl, hT, q⟩ := h
  cases rx
  obtain ⟨t, rfl⟩ := ry
  obtain ⟨its, r, ⟨⟨cls, dd, data, sl⟩, ho, hc, n, hd⟩, hs⟩ := I.tuple hT
  simp only at hc hd
  subst hc hd
  refine wpAny_binaryOp_repeat_ref (T := "tuple") (U := "int") (by decide) ⟨_, ho, rfl⟩ (fun s' => typeIs_int s' 1 t) noFill_tuple_mul F.fills_int_mul F.slot_int_rmul repeat_tuple F.slot_int_index.lookup
    (call_meets F.slot_int_rmul (typeIs_int s 1 t) F.entry_int_rmul (F.args_int_rmul_2 _ _) (int_rmul_tuple 1 t l its.toArray n dd sl)
      ⟨ho, rfl, ⟨_, ho, rfl⟩, call_meets F.slot_tuple_mul ⟨_, ho, rfl⟩ F.entry_tuple_mul (F.args_tuple_mul_2 _ _) (dv_tuple_mul1 l its.toArray n dd sl t) ⟨ho, ?_⟩⟩)
  exact ⟨.ref l, H, I, rfl, q⟩
/-- sum of a tuple of ints -/
def rSumTu (K : PySem.W.Frag) : List V → Hp → VK → Prop := fun vs H Q => ∃ (a : Addr) (ns : List Int), vs = [V.ref a] ∧ SqT K H a (ns.map V.int) ∧ Q (.int ns.sum) H
theorem cr_sumTu (hc : X.calm = true) : CallR X (.builtin "sum") (rSumTu X.K) := by
  intro pins s σ H xs us Q I r h
  obtain ⟨a, ns, rfl, ha, q⟩ := h
  obtain ⟨u, rfl, ru⟩ := vals1 r
  cases ru
  obtain ⟨its, rv, p, hz⟩ := I.tuple ha
  have hi : IntsAre its ns := intsAre_of rv
  obtain ⟨xs, hx⟩ := hi.allInts.items
  have hn : PySem.numsOf its.toArray.toList = ns := by rw [show its.toArray.toList = its from rfl, hi.numsOf]
  have p' : s.heap.IsTuple a its.toArray := p
  rw [hx] at p' hn
  rw [nums_intItems] at hn
  refine PySem.W.ktm_sumG (I.ok.hd hc) p' fun h' tk t' hk => ?_
  rw [preSum_eq, List.take_of_length_le (by simp), hn]
  exact ⟨.int ns.sum, H, I.kept hk, ⟨_, rfl⟩, q⟩
end
end L2
namespace DV
open PySem PySem.Spec PyProof.Rows L2
section
variable {X : Cx} {M : Addr → Prop} {δ : Sl} {ω ω1 ω2 ω3 : Om} {d a b c : D} {ds es : List D} {e e1 e2 e3 : Expr} {pos p p2 : Pos}
/-- t * n -/
theorem dns_repT {K : PySem.W.Frag} {N : Addr → Prop} {H : Hp} {xs : List V} (h : Dns K N H ds xs) : ∀ n : Nat, Dns K N H (List.replicate n ds).flatten (List.replicate n xs).flatten := dns_rep h
theorem od_repT {n : Int} (hne : ds ≠ []) (h1 : 1 ≤ n) (h2 : n ≤ 1000) (hz : ds.length ≤ 1000) : OpD X M (binaryOp .Mult) (.tup ds) (.int n) ω (.tup (List.replicate n.toNat ds).flatten) ω := by
  by_cases e : n = 1
  · subst e
    refine ⟨_, op_repT1, fun x y H Q st hx hy k => ?_⟩
    obtain ⟨p, xs, e', hp, hds⟩ := dn_tup hx
    refine ⟨p, xs, e', dn_int hy, hp.seq, ?_⟩
    have : (List.replicate (1 : Int).toNat ds).flatten = ds := by simp
    rw [this] at k
    rw [← e']
    exact k x H st (Stp.refl _ _) hx
  · refine ⟨_, op_repT, fun x y H Q st hx hy k => ?_⟩
    obtain ⟨p, xs, rfl, hp, hds⟩ := dn_tup hx
    refine ⟨p, n, xs, rfl, dn_int hy, hp.seq, fun z => hne ?_, by omega, h2, by rw [hds.len]; exact hz, fun t ht => ?_⟩
    · have := hds.len
      rw [z] at this
      exact List.eq_nil_of_length_eq_zero this.symm
    · obtain ⟨a1, a2, a3⟩ := dn_newtup st ht (dns_repT hds n.toNat)
      exact k _ _ a1 a2 a3
theorem cd_sumT {ns : List Int} (hc : X.calm = true := by rfl) : CallD X M (.builtin "sum") [.tup (ns.map .int)] ω (.int ns.sum) ω := ⟨_, cr_sumTu hc, fun vs H Q st hs k => by
  obtain ⟨v, rfl, hv⟩ := dns_one hs
  obtain ⟨q, xs, rfl, hq, hd⟩ := dn_tup hv
  rw [dns_ints hd] at hq
  exact ⟨q, ns, rfl, hq.seq, k _ H st (Stp.refl _ _) dn_int'⟩⟩

/-! ### isinstance -/
def tyN : D → String
  | .non => "NoneType"
  | .bl _ => "bool"
  | .int _ => "int"
  | .str _ => "str"
  | .tup _ => "tuple"
  | .lst _ => "list"
  | .fls _ => "list"
  | _ => ""
theorem tyX {K : PySem.W.Frag} {N : Addr → Prop} {H : Hp} {d : D} {v : V} (h : Dn K N H d v) (ht : tyN d ≠ "") : TyX K H v (.type (tyN d)) := by
  cases d with
  | non => rw [dn_non h]; exact .base .non
  | bl b => rw [dn_bl h]; exact .base (.bl b)
  | int i => rw [dn_int h]; exact .base (.int i)
  | str x => rw [dn_str h]; exact .base (.str x)
  | tup ds =>
    obtain ⟨a, xs, rfl, hp, _⟩ := dn_tup h
    rcases hp with ⟨_, hp | ⟨o, hp⟩⟩ | ⟨o, its, n, hk, hc, _⟩
    · exact .base (.tup hp)
    · exact .fTuple hp
    · exact .kTuple hk hc
  | lst ds => obtain ⟨a, xs, rfl, hp, _⟩ := dn_lst h; exact .base (.lst hp.2)
  | fls ds =>
    obtain ⟨a, xs, rfl, hp, _⟩ := dn_fls h
    rcases hp with ⟨_, hp | ⟨o, hp⟩⟩ | ⟨o, its, n, hk, hc, _⟩
    · exact .base (.lst hp)
    · exact .base (.frz hp)
    · exact .kList hk hc
  | ins C fs => exact absurd rfl ht
  | ptr q => exact absurd rfl ht
  | ty n => exact absurd rfl ht
/-- a built-in type as a value -/
theorem re_ty {x : Str} {T : String} (hm : X.mg x = none) (hv : bootBuiltins x = some (.type T) := by decide +kernel) (hg : Gl X x := by rfl) (hn : x ≠ "__name__" := by decide) (hd : (x == ("__debug__" : Str)) = false := by decide) : RE X M (.Name x pos) δ ω (.ty T) ω :=
  re_c (pe_bltn (v := .ty T) hg hm hv rfl hn hd) fun _ _ => dn_ty'
/-- a class, a def of the module as a value -/
theorem re_ref {x : Str} {C : Addr} (hm : X.mg x = some (.ref C)) (hg : Gl X x := by rfl) (hd : (x == ("__debug__" : Str)) = false := by decide) : RE X M (.Name x pos) δ ω (.ptr C) ω :=
  re_c (pe_glob (v := .ref C) hg hm rfl hd) fun _ _ => dn_ptr'
theorem cd_isi {T : String} {k : Bool} (ht : tyN d ≠ "") (h : kitB (tyN d) T = some k) : CallD X M (.builtin "isinstance") [d, .ty T] ω (.bl k) ω := ⟨_, call_isi, fun vs H Q st hs kk => by
  obtain ⟨v, w, rfl, hv, hw⟩ := dns_two hs
  rw [dn_ty hw]
  exact ⟨v, .ty T, _, _, k, rfl, .ty T, tyX hv ht, kit_ty h, kk _ H st (Stp.refl _ _) dn_bl'⟩⟩
/-- of an own class -/
theorem cd_isiC {C : Addr} {fs : List (Str × D)} (c : C8.InsC X.K C) : CallD X M (.builtin "isinstance") [.ins C fs, .ptr C] ω (.bl true) ω := ⟨_, C8.call_isC c, fun vs H Q st hs kk => by
  obtain ⟨v, w, rfl, hv, hw⟩ := dns_two hs
  obtain ⟨q, dx, us, rfl, _, hq, _⟩ := dn_ins hv
  rw [dn_ptr hw]
  exact ⟨q, dx, us, rfl, hq, kk _ H st (Stp.refl _ _) dn_bl'⟩⟩
/-- isinstance(e, (T1, T2)) -/
theorem re_isiT2 {x1 x2 : Str} {T1 T2 : String} {k1 k2 : Bool} {n1 n2 : Pos} {j : Nat} {tp : Pos} (hmi : X.mg "isinstance" = none) (h : RE X M e δ ω d ω1) (hm1 : X.mg x1 = none) (hm2 : X.mg x2 = none) (ht : tyN d ≠ "") (h1 : kitB (tyN d) T1 = some k1) (h2 : kitB (tyN d) T2 = some k2)
    (hv1 : bootBuiltins x1 = some (.type T1) := by decide +kernel) (hg1 : Gl X x1 := by rfl) (hn1 : x1 ≠ "__name__" := by decide) (hd1 : (x1 == ("__debug__" : Str)) = false := by decide)
    (hv2 : bootBuiltins x2 = some (.type T2) := by decide +kernel) (hg2 : Gl X x2 := by rfl) (hn2 : x2 ≠ "__name__" := by decide) (hd2 : (x2 == ("__debug__" : Str)) = false := by decide)
    (hgi : Gl X "isinstance" := by rfl) (he : starEach [e, .Tuple [.Name x1 n1, .Name x2 n2] j tp] X.env = (false, eval e X.env) :: starEach [.Tuple [.Name x1 n1, .Name x2 n2] j tp] X.env := by rfl)
    (he2 : starEach [.Tuple [.Name x1 n1, .Name x2 n2] j tp] X.env = (false, eval (.Tuple [.Name x1 n1, .Name x2 n2] j tp) X.env) :: starEach [] X.env := by rfl)
    (he3 : starEach [.Name x1 n1, .Name x2 n2] X.env = (false, eval (.Name x1 n1) X.env) :: starEach [.Name x2 n2] X.env := by rfl) (he4 : starEach [.Name x2 n2] X.env = (false, eval (.Name x2 n2) X.env) :: starEach [] X.env := by rfl)
    (hpl : (backTo pos (starEach [.Tuple [.Name x1 n1, .Name x2 n2] j tp] X.env)).any (·.1) = false := by rfl) :
    RE X M (.Call (.Name "isinstance" p) [e, .Tuple [.Name x1 n1, .Name x2 n2] j tp] [] pos) δ ω (.bl (k1 || k2)) ω1 :=
  re_of (pe_callB call_isiT hgi hmi (by decide +kernel) (pa_cons (peE X M e) (pa_cons (pe_tup (pa_cons (pe_bltn (v := .ty T1) hg1 hm1 hv1 rfl hn1 hd1) (pa_cons (pe_bltn (v := .ty T2) hg2 hm2 hv2 rfl hn2 hd2) pa_nil he4) he3)) pa_nil he2) he) (by decide) (by decide) he hpl)
    fun σ H Q st sl kk => h.t st sl fun v H1 st1 sp1 hv => by
      refine ⟨by show 2 ≤ sizeLine; decide, fun t ht' => ?_⟩
      obtain ⟨a1, a2⟩ := st1.new (o := .tup [.ty T1, .ty T2]) ht'
      refine ⟨v, t, [.ty T1, .ty T2], _, [.type T1, .type T2], k1 || k2, rfl, upd_same, .cons (.ty T1) (.cons (.ty T2) .nil), tyX (hv.carry a2.carry) ht, ?_, kk _ _ a1 (sp1.trans a2) dn_bl'⟩
      refine kitAny_cons (kit_ty h1) (fun e1 => ?_) fun e1 => by rw [e1]; rfl
      rw [e1, Bool.false_or]
      exact kitAny_cons (kit_ty h2) (fun e2 => by rw [e2]; rfl) fun e2 => e2

/-! ### slices -/
structure RO (X : Cx) (M : Addr → Prop) (e : Option Expr) (δ : Sl) (ω : Om) (o : Option Int) : Prop where
  ex : ∃ t, PO X e t ∧ ∀ σ H Q, Sta X.K M ω H → Slots X.K (Mt M ω) H σ δ → (∀ H', Sta X.K M ω H' → Stp ω H ω H' → Q o H') → t σ H Q
theorem ro_none : RO X M none δ ω none := ⟨_, po_none, fun σ H Q st sl k => k H st (Stp.refl _ _)⟩
theorem ro_some {i : Int} (h : RE X M e δ ω (.int i) ω) : RO X M (some e) δ ω (some i) := ⟨_, po_some (peE X M e), fun σ H Q st sl k => h.t st sl fun v H1 st1 sp1 hv => ⟨i, dn_int hv, k H1 st1 sp1⟩⟩
def cutL {α : Type} (xs : List α) (lo hi : Option Int) : List α := (xs.drop (HT.sIx xs.length 0 lo)).take (HT.sIx xs.length xs.length hi - HT.sIx xs.length 0 lo)
theorem cutL_map {α β : Type} (f : α → β) (xs : List α) (lo hi : Option Int) : cutL (xs.map f) lo hi = (cutL xs lo hi).map f := by
  unfold cutL
  rw [List.length_map, ← List.map_drop, ← List.map_take]
theorem Dns.cut {K : PySem.W.Frag} {N : Addr → Prop} {H : Hp} {xs : List V} (h : Dns K N H ds xs) (lo hi : Option Int) : Dns K N H (cutL ds lo hi) (cutV xs lo hi) := by
  unfold cutL cutV
  rw [h.len]
  exact (h.drop _).take _
theorem cutL_full {α : Type} {xs : List α} {lo hi : Option Int} (h : HT.sIx xs.length 0 lo = 0 ∧ HT.sIx xs.length xs.length hi = xs.length) : cutL xs lo hi = xs := by
  unfold cutL
  rw [h.1, h.2, List.drop_zero, Nat.sub_zero, List.take_length]
/-- t[lo:hi] -/
theorem re_slT {lo hi : Option Expr} {l h : Option Int} (he : RE X M e δ ω (.tup ds) ω1) (hl : RO X M lo δ ω1 l) (hh : RO X M hi δ ω1 h) : RE X M (.Subscript e (.Slice lo hi none p2) pos) δ ω (.tup (cutL ds l h)) ω1 := by
  obtain ⟨tl, pl, rl⟩ := hl
  obtain ⟨th, ph, rh⟩ := hh
  refine re_of (pe_slice sl_tupA (peE X M e) pl ph) fun σ H Q st sl k => he.t st sl fun v H1 st1 sp1 hv => rl σ H1 _ st1 (sl.carry sp1.carry) fun H2 st2 sp2 => rh σ H2 _ st2 (sl.carry (sp1.trans sp2).carry) fun H3 st3 sp3 => ?_
  have hv3 := hv.carry (sp2.trans sp3).carry
  obtain ⟨q, xs, rfl, hq, hd⟩ := dn_tup hv3
  refine ⟨q, xs, rfl, hq.seq, fun hw => ?_, fun hw t ht => ?_⟩
  · rw [hd.len] at hw
    rw [cutL_full hw] at k
    exact k _ H3 st3 ((sp1.trans sp2).trans sp3) hv3
  · obtain ⟨a1, a2, a3⟩ := dn_newtup st3 ht (hd.cut l h)
    exact k _ _ a1 (((sp1.trans sp2).trans sp3).trans a2) a3
/-- xs[lo:hi]: a new list -/
theorem rn_sl {lo hi : Option Expr} {l h : Option Int} (he : RE X M e δ ω (.lst ds) ω1) (hl : RO X M lo δ ω1 l) (hh : RO X M hi δ ω1 h) : RN X M (.Subscript e (.Slice lo hi none p2) pos) δ ω (cutL ds l h) ω1 := by
  obtain ⟨tl, pl, rl⟩ := hl
  obtain ⟨th, ph, rh⟩ := hh
  refine rn_of (pe_slice sl_list (peE X M e) pl ph) fun σ H Q st sl k => he.t st sl fun v H1 st1 sp1 hv => rl σ H1 _ st1 (sl.carry sp1.carry) fun H2 st2 sp2 => rh σ H2 _ st2 (sl.carry (sp1.trans sp2).carry) fun H3 st3 sp3 => ?_
  have hv3 := hv.carry (sp2.trans sp3).carry
  obtain ⟨q, xs, rfl, hq, hd⟩ := dn_lst hv3
  refine ⟨q, xs, rfl, hq.seq, fun t ht => ?_⟩
  obtain ⟨a1, a2⟩ := take_lst st3 ht (hd.cut l h)
  exact k _ _ (fresh_of ((sp1.trans sp2).trans sp3) ht) a1 (((sp1.trans sp2).trans sp3).trans a2)
theorem rn_slF {lo hi : Option Expr} {l h : Option Int} (he : RE X M e δ ω (.fls ds) ω1) (hl : RO X M lo δ ω1 l) (hh : RO X M hi δ ω1 h) : RN X M (.Subscript e (.Slice lo hi none p2) pos) δ ω (cutL ds l h) ω1 := by
  obtain ⟨tl, pl, rl⟩ := hl
  obtain ⟨th, ph, rh⟩ := hh
  refine rn_of (pe_slice sl_list (peE X M e) pl ph) fun σ H Q st sl k => he.t st sl fun v H1 st1 sp1 hv => rl σ H1 _ st1 (sl.carry sp1.carry) fun H2 st2 sp2 => rh σ H2 _ st2 (sl.carry (sp1.trans sp2).carry) fun H3 st3 sp3 => ?_
  have hv3 := hv.carry (sp2.trans sp3).carry
  obtain ⟨q, xs, rfl, hq, hd⟩ := dn_fls hv3
  refine ⟨q, xs, rfl, hq.seq, fun t ht => ?_⟩
  obtain ⟨a1, a2⟩ := take_lst st3 ht (hd.cut l h)
  exact k _ _ (fresh_of ((sp1.trans sp2).trans sp3) ht) a1 (((sp1.trans sp2).trans sp3).trans a2)

/-! ### fields -/
theorem re_fld {C : Addr} {fs : List (Str × D)} {f : Str} (c : Cls X.K C) (na : NoAttr X.K C f) (h : RE X M e δ ω (.ins C fs) ω1) (hl : fs.lookup f = some d) (hb : attributeBase e f X.env (eval e X.env) = eval e X.env := by rfl) : RE X M (.Attribute e f pos) δ ω d ω1 :=
  re_of (pe_fld (peE X M e) hb) fun σ H Q st sl k => h.t st sl fun v H1 st1 sp1 hv => by
    obtain ⟨q, dx, vs, rfl, _, hq, hd⟩ := dn_ins hv
    obtain ⟨x, hx, hdx⟩ := hd.lookup hl
    exact ⟨q, C, dx, vs, x, rfl, hq, c, na, hx, k x H1 st1 sp1 hdx⟩
/-- of an owned instance -/
theorem re_fldO {C q : Addr} {fs : List (Str × D)} {f : Str} (j : Nat) (c : Cls X.K C) (na : NoAttr X.K C f) (h : RE X M e δ ω (.ptr q) ω1) (ho : ω1[j]? = some (q, .ins C fs)) (hl : fs.lookup f = some d) (hb : attributeBase e f X.env (eval e X.env) = eval e X.env := by rfl) : RE X M (.Attribute e f pos) δ ω d ω1 :=
  re_of (pe_fld (peE X M e) hb) fun σ H Q st sl k => h.t st sl fun v H1 st1 sp1 hv => by
    obtain ⟨dx, vs, hq, hd⟩ := st1.get ho
    obtain ⟨x, hx, hdx⟩ := hd.lookup hl
    exact ⟨q, C, dx, vs, x, dn_ptr hv, hq, c, na, hx, k x H1 st1 sp1 hdx⟩
def putD (f : Str) (d : D) : List (Str × D) → List (Str × D)
  | [] => [(f, d)]
  | (g, x) :: r => if g = f then (g, d) :: r else (g, x) :: putD f d r
theorem dnf_nil {K : PySem.W.Frag} {N : Addr → Prop} {H : Hp} : DnF K N H [] [] := by unfold DnF; rfl
theorem dnf_cons {K : PySem.W.Frag} {N : Addr → Prop} {H : Hp} {f : Str} {d : D} {v : V} {fs : List (Str × D)} {vs : List (Str × V)} (h : Dn K N H d v) (h2 : DnF K N H fs vs) : DnF K N H ((f, d) :: fs) ((f, v) :: vs) := by unfold DnF; exact ⟨v, vs, rfl, h, h2⟩
theorem DnF.put {K : PySem.W.Frag} {N : Addr → Prop} {H : Hp} {f : Str} {d : D} {v : V} (hd : Dn K N H d v) : ∀ {fs : List (Str × D)} {vs : List (Str × V)}, DnF K N H fs vs → DnF K N H (putD f d fs) (putF f v vs)
  | [], _, h => by unfold DnF at h; subst h; exact dnf_cons hd dnf_nil
  | (g, x) :: r, _, h => by
    unfold DnF at h
    obtain ⟨y, s, rfl, h1, h2⟩ := h
    unfold putD putF
    by_cases e : g = f
    · rw [if_pos e, if_pos e]; exact dnf_cons hd h2
    · rw [if_neg e, if_neg e]; exact dnf_cons h1 (h2.put hd)
theorem dnf_map {K : PySem.W.Frag} {N N' : Addr → Prop} {H H' : Hp} (c : ∀ d v, Dn K N H d v → Dn K N' H' d v) : ∀ {fs : List (Str × D)} {xs : List (Str × V)}, DnF K N H fs xs → DnF K N' H' fs xs
  | [], _, h => by unfold DnF at h; subst h; exact dnf_nil
  | (g, d) :: ds, _, h => by
    unfold DnF at h
    obtain ⟨x, r, rfl, h1, h2⟩ := h
    exact dnf_cons (c _ _ h1) (dnf_map c h2)
theorem DnF.len {K : PySem.W.Frag} {N : Addr → Prop} {H : Hp} : ∀ {fs : List (Str × D)} {vs : List (Str × V)}, DnF K N H fs vs → vs.length = fs.length
  | [], _, h => by unfold DnF at h; subst h; rfl
  | (g, d) :: ds, _, h => by
    unfold DnF at h
    obtain ⟨x, r, rfl, h1, h2⟩ := h
    show r.length + 1 = ds.length + 1
    rw [h2.len]
/-- o.f = e, o an owned instance -/
theorem rst_fld {o : Expr} {C q : Addr} {fs : List (Str × D)} {f : Str} {pos' : Pos} {P : Out → Prop} (j : Nat) (c : Cls X.K C) (na : NoAttr X.K C f) (hv : RE X M e δ ω d ω1) (h : RE X M o δ ω1 (.ptr q) ω2) (ho : ω2[j]? = some (q, .ins C fs)) (hz : fs.length < 1000)
    (hq : P (.nx δ (ω2.set j (q, .ins C (putD f d fs))))) (hs : swapsWith e (some (.Attribute o f pos')) pos.line X.env = pure false := by rfl) : RSt X M (.Assign [.Attribute o f pos'] e pos) δ ω P :=
  rst_of (ps_fld (peE X M o) (peE X M e) hs) fun σ H Dd st sl k => hv.t st sl fun v H1 st1 sp1 hdv => h.t st1 (sl.carry sp1.carry) fun ov H2 st2 sp2 hov => by
    obtain ⟨dx, vs, hq', hd⟩ := st2.get ho
    have hdv2 := hdv.carry sp2.carry
    refine ⟨q, C, dx, vs, dn_ptr hov, hq', c, na, by rw [hd.len]; exact hz, ?_⟩
    obtain ⟨a1, a2⟩ := st2.change (ob := .ins C (putD f d fs)) ho (fun H' cc e => ⟨dx, putF f v vs, e, (dnf_map cc hd).put (cc _ _ hdv2)⟩)
    have sp := (sp1.trans sp2).trans a2
    exact k.nx _ _ _ _ hq a1 sp (sl.carry sp.carry)
end
/-! ### bodies that change their first argument's object; instances -/
section
variable {P : Program} {w : World} {K : PySem.W.Frag} {mg : Str → Option Value} {base : Heap}
def RetO (d : D) (x : Addr × O) : Out → Prop
  | .rt d' ω => d' = d ∧ x ∈ ω
  | .nx _ ω => d = .non ∧ x ∈ ω
  | _ => False
theorem Sta.only {M : Addr → Prop} {ω : Om} {H : Hp} {x : Addr × O} (st : Sta K M ω H) (hx : x ∈ ω) : Sta K M [x] H := by
  have hk : ∀ a ∈ ([x] : Om).map (·.1), a ∈ ω.map (·.1) := fun a ha => by
    have : a = x.1 := by simpa using ha
    rw [this]; exact List.mem_map.mpr ⟨x, hx, rfl⟩
  refine ⟨st.m0, fun a ha => st.dis a (hk a ha), by simp, fun y hy => ?_⟩
  have : y = x := by simpa using hy
  subst this
  exact (st.own y hx).carry (fun a o e hn => ⟨e, fun z => hn (z.elim .inl fun z => .inr (hk a z))⟩) rfl
theorem fun_O {x qual : Str} {st : Stmt} {f : Addr} {fd : FuncData} {N ps : List Str} {k n : Nat} {R : O → List D → D → O → Prop} (F : Fun K x qual st f fd) (S : FnScope N ps (defScope st)) (hn : ps.length = n)
    (hbody : ∀ (cdv : Value) (A : Around) (outer : List Env) (s : Shared) (H : Hp) (E : XK) (M : Addr → Prop) (a : Addr) (ob : O) (ds : List D) (d : D) (ob' : O), Room k (A.deeper (envOfC qual (defScope st) s.heap.objs.size f cdv)) → R ob ds d ob' → ds.length + 1 = n →
      RSs (cxOf CX0 P w K mg base N qual (defScope st) f cdv A outer s H E).nox M (defBody st) (startD N (.ptr a :: ds)) [(a, ob)] (RetO d (a, ob'))) : FnOk P w K mg base CX0 (k + 1) f fd ps (spO K n R) :=
  F.ok S (fun vs H Q E h => by rw [h.1, hn]) fun cdv A outer s H vs Q E hr h => by
    obtain ⟨hl, M, a, ob, ds, d, ob', st0, hds, hR, q⟩ := h
    have hdl : ds.length + 1 = n := by
      have := hds.len
      simp only [List.length_cons] at this
      omega
    have out : ∀ {ω' : Om} {H' : Hp}, Sta K M ω' H' → Stp [(a, ob)] H ω' H' → (a, ob') ∈ ω' → Sta K M [(a, ob')] H' ∧ Stp [(a, ob)] H [(a, ob')] H' ∧ ∀ {d v}, Dn K (Mt M ω') H' d v → Dn K (Mt M [(a, ob')]) H' d v := fun {ω' H'} st' sp' hm =>
      ⟨st'.only hm, ⟨sp'.keep, fun b hb => .inl (by simpa using hb), sp'.there⟩, fun h => dn_shrink h fun b hb => by
        have : b = a := by simpa using hb
        rw [this]; exact List.mem_map.mpr ⟨_, hm, rfl⟩⟩
    refine ⟨tSS _ M (defBody st), pssS _ M _, startD N (.ptr a :: ds), [(a, ob)], RetO d (a, ob'), hbody cdv A outer s H E M a ob ds d ob' hr hR hdl, st0, ?_, ?_⟩
    · show Slots K _ H (L2.start N vs) (startD N (.ptr a :: ds))
      unfold L2.start startD
      rw [hds.len]
      exact Slots.start _ hds
    · exact ⟨fun σ' H' δ' ω' p st' sp' sl' => by
          obtain ⟨e, hm⟩ := (show d = .non ∧ (a, ob') ∈ ω' from p)
          obtain ⟨u1, u2, u3⟩ := out st' sp' hm
          subst e
          exact q .non H' u1 u2 dn_non',
        fun _ _ _ _ p _ _ _ => p.elim, fun _ _ _ _ p _ _ _ => p.elim, fun v H' d' ω' p st' sp' hv => by
          obtain ⟨e, hm⟩ := (show d' = d ∧ (a, ob') ∈ ω' from p)
          obtain ⟨u1, u2, u3⟩ := out st' sp' hm
          subst e
          exact q v H' u1 u2 (u3 hv)⟩
/-- .. that gives a new list -/
def RetN (ds : List D) : Out → Prop
  | .rt d ω => ∃ p, d = .ptr p ∧ (p, .lst ds) ∈ ω
  | _ => False
theorem fun_N {x qual : Str} {st : Stmt} {f : Addr} {fd : FuncData} {N ps : List Str} {k n : Nat} {R : List D → List D → Prop} (F : Fun K x qual st f fd) (S : FnScope N ps (defScope st)) (hn : ps.length = n)
    (hbody : ∀ (cdv : Value) (A : Around) (outer : List Env) (s : Shared) (H : Hp) (E : XK) (M : Addr → Prop) (ds es : List D), Room k (A.deeper (envOfC qual (defScope st) s.heap.objs.size f cdv)) → R ds es → ds.length = n →
      RSs (cxOf CX0 P w K mg base N qual (defScope st) f cdv A outer s H E).nox M (defBody st) (startD N ds) [] (RetN es)) : FnOk P w K mg base CX0 (k + 1) f fd ps (spN K n R) :=
  F.ok S (fun vs H Q E h => by rw [h.1, hn]) fun cdv A outer s H vs Q E hr h => by
    obtain ⟨hl, M, ds, es, st0, hds, hR, q⟩ := h
    have hdl : ds.length = n := by rw [← hds.len]; exact hl
    refine ⟨tSS _ M (defBody st), pssS _ M _, startD N ds, [], RetN es, hbody cdv A outer s H E M ds es hr hR hdl, st0, ?_, ?_⟩
    · show Slots K _ H (L2.start N vs) (startD N ds)
      unfold L2.start startD
      rw [hds.len]
      exact Slots.start _ hds
    · refine ⟨fun _ _ _ _ p _ _ _ => p.elim, fun _ _ _ _ p _ _ _ => p.elim, fun _ _ _ _ p _ _ _ => p.elim, fun v H' d' ω' p st' sp' hv => ?_⟩
      obtain ⟨r, e, hm⟩ := (show ∃ p, d' = .ptr p ∧ (p, .lst es) ∈ ω' from p)
      subst e
      rw [dn_ptr hv]
      have hr' : H r = none := by
        rcases sp'.keys r (List.mem_map.mpr ⟨_, hm, rfl⟩) with z | z
        · exact absurd z (by simp)
        · exact z
      exact q r H' hr' (st'.only hm) ⟨sp'.keep, fun b hb => .inr ((show b = r by simpa using hb) ▸ hr'), sp'.there⟩
end
end DV
/-! DV7: instances made, == by an own def, sorted(set(..)) of tuples of ints. -/
namespace DV
open PySem PySem.Spec PyProof.Rows L2
/-- the class called x, as it is made: its __init__ keeps sp -/
def HasC (X : Cx) (x : Str) (C : Addr) (k : Nat) (sp : Sp) : Prop := ∃ f fd ps, Mk X.K C f ∧ FnOk X.prog X.w X.K X.mg X.base CX0 k f fd ps sp ∧ X.mg x = some (.ref C) ∧ Binds X.K fd ps []
section
variable {X : Cx} {M : Addr → Prop} {δ : Sl} {ω ω1 ω2 ω3 : Om} {d a b c : D} {ds es : List D} {e e1 e2 e3 : Expr} {l : List Expr} {pos p p2 : Pos} {x : Str} {k n : Nat}
theorem re_make {R : O → List D → D → O → Prop} {C : Addr} {fs : List (Str × D)} (G : HasC X x C k (spO X.K n R)) (hr : Room (k + 1) X.A) (ha : RA X M (e :: l) δ ω ds ω1) (hR : R (.ins C []) ds .non (.ins C fs)) (hn : ds.length + 1 = n := by rfl) (hg : Gl X x := by rfl) (hdb : (x == ("__debug__" : Str)) = false := by decide)
    (he : starEach (e :: l) X.env = (false, eval e X.env) :: starEach l X.env := by rfl) (hpl : (backTo pos (starEach l X.env)).any (·.1) = false := by rfl) : RE X M (.Call (.Name x p) (e :: l) [] pos) δ ω (.ins C fs) ω1 := by
  obtain ⟨f, fd, ps, hM, F, hm, hb⟩ := G
  obtain ⟨t, hp, ht⟩ := ha
  refine re_of (pe_make hM F hr hg hm hb .nil pass0 hp hdb he hpl) fun σ H Q st sl kk => ht σ H _ st sl fun vs H1 st1 sp1 hds o dx ho hdx hne => ?_
  rw [List.append_nil]
  obtain ⟨s1, p1⟩ := st1.out.new (o := .own o) hdx
  have ho' : upd H1 dx (.own o) o = none := by rw [upd_ne (Ne.symm hne)]; exact ho
  obtain ⟨s2, p2⟩ := s1.take (o := .ins C dx []) (ob := .ins C []) ho' (fun N' H' cc e => ⟨dx, [], e, dnf_nil⟩)
  have hds2 : Dns X.K (Mt (Mt M ω1) [(o, .ins C [])]) (upd (upd H1 dx (.own o)) o (.ins C dx [])) ds vs := by
    have := (show Dns X.K (Mt (Mt M ω1) []) H1 ds vs by rw [mt_nil]; exact hds).carry p1.carry
    exact this.carry p2.carry
  refine ⟨by show vs.length + 1 = n; rw [hds.len]; exact hn, Mt M ω1, o, .ins C [], ds, .non, .ins C fs, s2, dns_cons dn_ptr' hds2, hR, fun v H2 st3 sp3 hv => ⟨dn_non hv, ?_⟩⟩
  obtain ⟨s4, d4⟩ := st3.freezeI
  rw [mt_nil] at d4
  have ext : ∀ a u, H1 a = some u → H2 a = some u := fun a u h => by
    have ne : a ≠ o := fun z => by rw [z, ho] at h; cases h
    have ne2 : a ≠ dx := fun z => by rw [z, hdx] at h; cases h
    exact sp3.keep a u (by rw [upd_ne ne, upd_ne ne2]; exact h) (by simpa using ne)
  obtain ⟨s5, p5⟩ := st1.ext ext
  exact kk _ H2 s5 (sp1.trans p5) d4

/-! ### == by an own __eq__ -/
def rEqOwn (C : Addr) (sp : Sp) : R2 := fun x y H Q => ∃ a b dx dy fs gs, x = .ref a ∧ y = .ref b ∧ H a = some (.ins C dx fs) ∧ H b = some (.ins C dy gs) ∧ sp [.ref a, .ref b] H Q E0
theorem op_eqOwn {C f : Addr} {fd : FuncData} {ps : List Str} {sp : Sp} (F : FnOk X.prog X.w X.K X.mg X.base CX0 k f fd ps sp) (hs : PySem.W.findIn X.K (.ref C) "__eq__" = some (some (.ref f))) (hf : PySem.W.isFn X.K (.ref f) = true) (hb : Binds X.K fd ps []) (hr : Room k X.A) :
    OpR X (compareOp .Eq) (rEqOwn C sp) := by
  intro pins s σ H x y u v Q I rx ry hq
  obtain ⟨a, b, dx, dy, fs, gs, rfl, rfl, ha, hb', hsp⟩ := hq
  cases rx
  cases ry
  obtain ⟨mA, J, _⟩ := ins_get I.hok ha
  obtain ⟨mB, J', _⟩ := ins_get I.hok hb'
  obtain ⟨od, J, _⟩ := J.look
  obtain ⟨od', J', _⟩ := J'.look
  obtain ⟨m, hF⟩ := I.fr
  show wpAny (model X.prog X.w) X.A (richCompare .Eq (.ref a) (.ref b)) (EP X pins σ Q) X.xe s
  refine PySem.W.cmp_K (op := .Eq) (tb := .ref C) hr.units0 hF I.ok.mod.kin J J'.type (by simp [PySem.W.notFirst]) hs hf ?_
  have hl := F.len _ _ _ _ hsp
  have r2 : Vals [V.ref a, V.ref b] [Value.ref a, Value.ref b] := .cons rfl (.cons rfl .nil)
  refine wpAny_call (codeAny_mono (F.run X.A X.stack s H ⟨[.ref a, .ref b], []⟩ [.ref a, .ref b] [.ref a, .ref b] _ E0 hr I.env0 (by
    have := hb s [.ref a, .ref b] I.kIn (by simpa using hl)
    simpa using this) r2 hsp) fun r s' hq => ?_)
  cases r with
  | error e => exact hq.elim
  | ok fl =>
    cases fl with
    | ret w' =>
      have h := I.after hq
      obtain ⟨z, H', I', rz, qz⟩ := id h
      show PySem.W.CmpBack (EP X pins σ Q) w' s'
      cases z with
      | non => cases rz; exact h
      | bl _ => cases rz; exact h
      | int _ => obtain ⟨t, rfl⟩ := rz; exact h
      | str _ => obtain ⟨t, rfl⟩ := rz; exact h
      | byt _ => obtain ⟨t, rfl⟩ := rz; exact h
      | flt _ => obtain ⟨t, rfl⟩ := rz; exact h
      | ref _ => cases rz; exact h
      | ty _ => cases rz; exact h
    | next => exact False.elim hq
    | brk => exact False.elim hq
    | cont => exact False.elim hq
/-- the class at C has an own == that keeps sp -/
def HasEq (X : Cx) (C : Addr) (k : Nat) (sp : Sp) : Prop := ∃ f fd ps, FnOk X.prog X.w X.K X.mg X.base CX0 k f fd ps sp ∧ PySem.W.findIn X.K (.ref C) "__eq__" = some (some (.ref f)) ∧ PySem.W.isFn X.K (.ref f) = true ∧ Binds X.K fd ps []
theorem od_eqOwn {R : List D → D → Prop} {C : Addr} {fs gs : List (Str × D)} (G : HasEq X C k (spP X.K 2 R)) (hr : Room k X.A) (hR : R [.ins C fs, .ins C gs] d) : OpD X M (compareOp .Eq) (.ins C fs) (.ins C gs) ω d ω := by
  obtain ⟨f, fd, ps, F, hs, hf, hb⟩ := G
  refine ⟨_, op_eqOwn F hs hf hb hr, fun x y H Q st hx hy kk => ?_⟩
  obtain ⟨q, dx, us, rfl, _, hq, _⟩ := dn_ins hx
  obtain ⟨q', dy, us', rfl, _, hq', _⟩ := dn_ins hy
  refine ⟨q, q', dx, dy, us, us', rfl, rfl, hq, hq', rfl, Mt M ω, [.ins C fs, .ins C gs], d, st.out, by rw [mt_nil]; exact dns_cons hx (dns_cons hy dns_nil), hR, fun v H2 st2 sp2 hv => ?_⟩
  obtain ⟨s5, p5⟩ := st.ext sp2.ext
  rw [mt_nil] at hv
  exact kk v H2 s5 p5 hv
end

/-! ### sorted(set(..)) of tuples of ints -/
abbrev encT (xs : List Int) : D := .tup (xs.map .int)
theorem dns_tups {K : PySem.W.Frag} {N : Addr → Prop} {H : Hp} : ∀ {kss : List (List Int)} {xs : List V}, Dns K N H (kss.map encT) xs → ∃ ks : List (Addr × List Int), xs = ks.map (fun p => V.ref p.1) ∧ ks.map (·.2) = kss ∧ ∀ p ∈ ks, TupN K N H p.1 (p.2.map V.int)
  | [], _, h => by simp only [List.map_nil] at h; unfold Dns at h; subst h; exact ⟨[], rfl, rfl, fun p hp => absurd hp (by simp)⟩
  | ns :: kss, _, h => by
    simp only [List.map_cons] at h
    unfold Dns at h; obtain ⟨x, r, rfl, h1, h2⟩ := h
    obtain ⟨a, us, rfl, ht, hd⟩ := dn_tup h1
    obtain ⟨ks, rfl, rfl, h3⟩ := dns_tups h2
    rw [dns_ints hd] at ht
    exact ⟨(a, ns) :: ks, rfl, rfl, fun p hp => by
      rcases List.mem_cons.mp hp with rfl | hp
      · exact ht
      · exact h3 p hp⟩
theorem dns_of_tups {K : PySem.W.Frag} {N : Addr → Prop} {H : Hp} : ∀ {ks : List (Addr × List Int)}, (∀ p ∈ ks, TupN K N H p.1 (p.2.map V.int)) → Dns K N H ((ks.map (·.2)).map encT) (ks.map fun p => V.ref p.1)
  | [], _ => dns_nil
  | (a, ns) :: ks, h => by
    refine dns_cons ?_ (dns_of_tups fun p hp => h p (List.mem_cons_of_mem _ hp))
    unfold Dn
    refine ⟨a, ns.map V.int, rfl, h (a, ns) List.mem_cons_self, ?_⟩
    have : ∀ ns : List Int, Dns K N H (ns.map .int) (ns.map V.int) := by
      intro ns
      induction ns with
      | nil => exact dns_nil
      | cons n ns ih => exact dns_cons dn_int' ih
    exact this ns
/-- strictly ascending by f, each once -/
def insU (f : List Int → Int) (x : List Int) : List (List Int) → List (List Int)
  | [] => [x]
  | y :: ys => if f x < f y then x :: y :: ys else if f x = f y then y :: ys else y :: insU f x ys
def srtU (f : List Int → Int) (kss : List (List Int)) : List (List Int) := kss.foldr (insU f) []
section
variable {f : List Int → Int}
theorem mem_insU {x z : List Int} : ∀ {l : List (List Int)}, z ∈ insU f x l → z = x ∨ z ∈ l
  | [], h => by simp only [insU, List.mem_singleton] at h; exact .inl h
  | y :: ys, h => by
    unfold insU at h
    split at h
    · rcases List.mem_cons.mp h with h | h
      · exact .inl h
      · exact .inr h
    · split at h
      · exact .inr h
      · rcases List.mem_cons.mp h with h | h
        · rw [h]; exact .inr List.mem_cons_self
        · rcases mem_insU h with h | h
          · exact .inl h
          · exact .inr (List.mem_cons_of_mem _ h)
theorem insU_mem {x : List Int} : ∀ {l : List (List Int)}, (∃ z ∈ insU f x l, f z = f x) ∧ ∀ z ∈ l, z ∈ insU f x l
  | [] => ⟨⟨x, by simp [insU], rfl⟩, fun z h => absurd h (by simp)⟩
  | y :: ys => by
    unfold insU
    split
    · exact ⟨⟨x, List.mem_cons_self, rfl⟩, fun z h => List.mem_cons_of_mem _ h⟩
    · split
      · rename_i h
        exact ⟨⟨y, List.mem_cons_self, h.symm⟩, fun z h => h⟩
      · obtain ⟨⟨z, hz, e⟩, h2⟩ := insU_mem (x := x) (l := ys)
        refine ⟨⟨z, List.mem_cons_of_mem _ hz, e⟩, fun z h => ?_⟩
        rcases List.mem_cons.mp h with h | h
        · rw [h]; exact List.mem_cons_self
        · exact List.mem_cons_of_mem _ (h2 z h)
theorem insU_sorted {x : List Int} : ∀ {l : List (List Int)}, l.Pairwise (fun a b => f a < f b) → (insU f x l).Pairwise (fun a b => f a < f b)
  | [], _ => by simp [insU]
  | y :: ys, h => by
    unfold insU
    have h' := List.pairwise_cons.mp h
    split
    · rename_i hlt
      refine List.pairwise_cons.mpr ⟨fun z hz => ?_, h⟩
      rcases List.mem_cons.mp hz with hz | hz
      · rw [hz]; exact hlt
      · exact Int.lt_trans hlt (h'.1 z hz)
    · split
      · exact h
      · rename_i h1 h2
        refine List.pairwise_cons.mpr ⟨fun z hz => ?_, insU_sorted h'.2⟩
        rcases mem_insU hz with hz | hz
        · rw [hz]; omega
        · exact h'.1 z hz
theorem srtU_sorted : ∀ l : List (List Int), (srtU f l).Pairwise (fun a b => f a < f b)
  | [] => List.Pairwise.nil
  | x :: xs => insU_sorted (srtU_sorted xs)
theorem srtU_sub : ∀ {l : List (List Int)} {z : List Int}, z ∈ srtU f l → z ∈ l
  | [], z, h => h
  | x :: xs, z, h => by
    rcases mem_insU (show z ∈ insU f x (srtU f xs) from h) with h | h
    · rw [h]; exact List.mem_cons_self
    · exact List.mem_cons_of_mem _ (srtU_sub h)
theorem srtU_all : ∀ {l : List (List Int)} {z : List Int}, (∀ a ∈ l, ∀ b ∈ l, f a = f b → a = b) → z ∈ l → z ∈ srtU f l
  | [], z, _, h => h
  | x :: xs, z, inj, h => by
    have hh := insU_mem (f := f) (x := x) (l := srtU f xs)
    rcases List.mem_cons.mp h with h | h
    · obtain ⟨y, hy, e⟩ := hh.1
      have : y ∈ x :: xs := srtU_sub (l := x :: xs) hy
      have ey := inj y this x List.mem_cons_self e
      rw [ey] at hy
      rw [h]
      exact hy
    · exact hh.2 z (srtU_all (fun a ha b hb => inj a (List.mem_cons_of_mem _ ha) b (List.mem_cons_of_mem _ hb)) h)
theorem sorted_unique : ∀ {l m : List (List Int)}, l.Pairwise (fun a b => f a < f b) → m.Pairwise (fun a b => f a < f b) → (∀ z, z ∈ l ↔ z ∈ m) → l = m
  | [], [], _, _, _ => rfl
  | [], y :: ys, _, _, h => absurd ((h y).mpr List.mem_cons_self) (by simp)
  | x :: xs, [], _, _, h => absurd ((h x).mp List.mem_cons_self) (by simp)
  | x :: xs, y :: ys, h1, h2, h => by
    have p1 := List.pairwise_cons.mp h1
    have p2 := List.pairwise_cons.mp h2
    have e : x = y := by
      rcases List.mem_cons.mp ((h x).mp List.mem_cons_self) with e | e
      · exact e
      · rcases List.mem_cons.mp ((h y).mpr List.mem_cons_self) with e' | e'
        · exact e'.symm
        · have a1 := p2.1 x e
          have a2 := p1.1 y e'
          omega
    subst e
    refine congrArg (x :: ·) (sorted_unique p1.2 p2.2 fun z => ⟨fun hz => ?_, fun hz => ?_⟩)
    · rcases List.mem_cons.mp ((h z).mp (List.mem_cons_of_mem _ hz)) with e | e
      · have := p1.1 z hz; rw [e] at this; omega
      · exact e
    · rcases List.mem_cons.mp ((h z).mpr (List.mem_cons_of_mem _ hz)) with e | e
      · have := p2.1 z hz; rw [e] at this; omega
      · exact e
theorem code_inj {B : Int} : ∀ {ns ms : List Int}, ns.length = ms.length → TS.Bd B ns → TS.Bd B ms → TS.code B ns = TS.code B ms → ns = ms
  | [], [], _, _, _, _ => rfl
  | [], _ :: _, h, _, _, _ => by simp at h
  | _ :: _, [], h, _, _, _ => by simp at h
  | n :: ns, m :: ms, hl, h1, h2, h => by
    have hl' : ns.length = ms.length := by simpa using hl
    have e : n = m := by
      rcases Int.lt_trichotomy n m with q | q | q
      · have := TS.code_lt hl' h1.tail h2.tail q; omega
      · exact q
      · have := TS.code_lt hl'.symm h2.tail h1.tail q; omega
    subst e
    have : TS.code B ns = TS.code B ms := by
      unfold TS.code at h
      rw [hl'] at h
      omega
    rw [code_inj hl' h1.tail h2.tail this]
end
section
variable {X : Cx} {M : Addr → Prop} {δ : Sl} {ω ω1 : Om} {e : Expr} {pos p pos2 p2 : Pos}
/-- how the list walked is held: deep or owned -/
def IsLst (K : PySem.W.Frag) (M : Addr → Prop) (ω : Om) (d : D) (ds : List D) : Prop := d = .lst ds ∨ ∃ (q : Addr) (j : Nat), d = .ptr q ∧ ω[j]? = some (q, O.lst ds)
theorem isLst_get {K : PySem.W.Frag} {H : Hp} {d : D} {ds : List D} {v : V} (st : Sta K M ω H) (h : IsLst K M ω d ds) (hd : Dn K (Mt M ω) H d v) : ∃ a xs, v = .ref a ∧ H a = some (.lst xs) ∧ Dns K (Mt M ω) H ds xs := by
  rcases h with rfl | ⟨q, j, rfl, hj⟩
  · obtain ⟨a, xs, e, h1, h2⟩ := dn_lst hd
    exact ⟨a, xs, e, h1.2, h2⟩
  · obtain ⟨xs, h1, h2⟩ := st.get hj
    exact ⟨q, xs, dn_ptr hd, h1, h2⟩
theorem rn_sortedSet {kss : List (List Int)} {n : Nat} {B : Int} {d : D} (hc : X.calm = true) (hu : X.A.units + 64 < cLine) (hms : X.mg "sorted" = none) (hmt : X.mg "set" = none) (h : RE X M e δ ω d ω1) (hd : IsLst X.K M ω1 d (kss.map encT)) (hz : kss.length < 64) (hn : 1 ≤ n) (hb : ∀ k ∈ kss, k.length = n ∧ TS.Bd B k)
    (hgs : Gl X "sorted" := by rfl) (hgt : Gl X "set" := by rfl) (he : starEach [e] X.env = (false, eval e X.env) :: starEach [] X.env := by rfl) (hpl : (backTo pos2 (starEach [] X.env)).any (·.1) = false := by rfl)
    (he2 : starEach [.Call (.Name "set" p2) [e] [] pos2] X.env = (false, eval (.Call (.Name "set" p2) [e] [] pos2) X.env) :: starEach [] X.env := by rfl) (hpl2 : (backTo pos (starEach [] X.env)).any (·.1) = false := by rfl) :
    RN X M (.Call (.Name "sorted" p) [.Call (.Name "set" p2) [e] [] pos2] [] pos) δ ω ((srtU (TS.code B) kss).map encT) ω1 :=
  rn_of (pe_callB (cr_sortedT hc) hgs hms (by decide +kernel) (pa_cons (pe_callTy (cr_setOfT hc hu) hgt hmt (by decide +kernel) (pa_cons (peE X M e) pa_nil he) (by decide) (by decide) he hpl) pa_nil he2) (by decide) (by decide) he2 hpl2)
    fun σ H Q st sl k => h.t st sl fun v H1 st1 sp1 hv => by
      obtain ⟨a, xs, rfl, ha, hds⟩ := isLst_get st1 hd hv
      obtain ⟨ks, rfl, e2, h3⟩ := dns_tups hds
      subst e2
      refine ⟨a, ks, rfl, SqL.of ha, fun p hp => (h3 p hp).seq, by simpa using hz, fun a' L ha' hsub hall => ?_⟩
      obtain ⟨s2, p2'⟩ := st1.new (o := SetTO X.prog X.w a' L) ha'
      have h3' : ∀ p ∈ L, TupN X.K (Mt M ω1) (upd H1 a' (SetTO X.prog X.w a' L)) p.1 (p.2.map V.int) := fun p hp => p2'.carry.tup (h3 p (hsub p hp))
      refine ⟨a', L, n, B, rfl, upd_same, fun p hp => (h3' p hp).seq, hn, fun p hp => hb p.2 (List.mem_map.mpr ⟨p, hsub p hp, rfl⟩), fun L' q hperm hnd h64 hsrt hq => ?_⟩
      have mem : ∀ z, z ∈ L'.map (·.2) ↔ z ∈ ks.map (·.2) := fun z => by
        constructor
        · intro hz'
          obtain ⟨p, hp, ep⟩ := List.mem_map.mp hz'
          exact List.mem_map.mpr ⟨p, hsub p (hperm.mem_iff.mp hp), ep⟩
        · intro hz'
          obtain ⟨p, hp, ep⟩ := List.mem_map.mp hz'
          have := hall p hp
          rw [ep] at this
          obtain ⟨r, hr, er⟩ := List.mem_map.mp this
          exact List.mem_map.mpr ⟨r, hperm.mem_iff.mpr hr, er⟩
      have inj : ∀ x ∈ ks.map (·.2), ∀ y ∈ ks.map (·.2), TS.code B x = TS.code B y → x = y := fun x hx y hy exy => code_inj ((hb x hx).1.trans (hb y hy).1.symm) (hb x hx).2 (hb y hy).2 exy
      have strict : (L'.map (·.2)).Pairwise (fun x y => TS.code B x < TS.code B y) := by
        have h1 : (L'.map (·.2)).Pairwise (fun x y => TS.code B x ≤ TS.code B y) := List.pairwise_map.mpr hsrt
        have h2 := h1.and hnd
        refine List.Pairwise.imp_of_mem (fun {x y} hx hy hxy => ?_) h2
        have ne : TS.code B x ≠ TS.code B y := fun z => hxy.2 (inj x ((mem x).mp hx) y ((mem y).mp hy) z)
        have := hxy.1
        omega
      have eq : L'.map (·.2) = srtU (TS.code B) (ks.map (·.2)) := sorted_unique strict (srtU_sorted _) fun z => ⟨fun hz' => srtU_all inj ((mem z).mp hz'), fun hz' => (mem z).mpr (srtU_sub hz')⟩
      have hdL : Dns X.K (Mt M ω1) (upd H1 a' (SetTO X.prog X.w a' L)) ((L'.map (·.2)).map encT) (L'.map fun q => V.ref q.1) := dns_of_tups fun p hp => h3' p (hperm.mem_iff.mp hp)
      rw [eq] at hdL
      obtain ⟨a1, a2⟩ := take_lst s2 hq hdL
      exact k q _ (fresh_of (sp1.trans p2') hq) a1 ((sp1.trans p2').trans a2)
end
end DV
/-! DV8: dicts whose keys are nested tuples: a display of one entry, in, not in, d[k] = v for a new key. -/
namespace DV
open PySem PySem.Spec PyProof.Rows L2
section
variable {K : PySem.W.Frag} {N : Addr → Prop} {H : Hp}
/-- a key in the heap -/
theorem keyDs_map (ks : List NestedKey) : keyDs ks = ks.map keyD := by
  induction ks with
  | nil => unfold keyDs; rfl
  | cons k ks ih => unfold keyDs; rw [ih]; rfl
end
section
variable {X : Cx} {pins : List (Addr × Obj)} {σ : L2.St} {H : Hp} {s : Shared} {N : Addr → Prop}
mutual
theorem dn_nested (I : Inv X pins σ H s) : ∀ (k : NestedKey) {v : V} {u : Value}, Dn X.K N H (keyD k) v → RelV v u → NestedIs s.heap k u
  | .none, v, u, h, r => by unfold keyD at h; rw [dn_non h] at r; cases r; exact .none
  | .num i, v, u, h, r => by unfold keyD at h; rw [dn_int h] at r; obtain ⟨t, rfl⟩ := r; exact .int i t
  | .text x, v, u, h, r => by unfold keyD at h; rw [dn_str h] at r; obtain ⟨t, rfl⟩ := r; exact .text x t
  | .tup ks, v, u, h, r => by
    unfold keyD at h
    obtain ⟨a, xs, rfl, ht, hd⟩ := dn_tup h
    cases r
    obtain ⟨its, rv, ⟨o, ho, hc, n, hdat⟩, _⟩ := I.tuple ht.seq
    exact .tup ho hc hdat (dns_nested I ks hd rv)
theorem dns_nested (I : Inv X pins σ H s) : ∀ (ks : List NestedKey) {xs : List V} {us : List Value}, Dns X.K N H (keyDs ks) xs → Vals xs us → NestedAll s.heap ks us
  | [], _, _, h, r => by unfold keyDs at h; unfold Dns at h; subst h; cases r; exact .nil
  | k :: ks, _, _, h, r => by
    unfold keyDs at h
    unfold Dns at h
    obtain ⟨x, xs, rfl, h1, h2⟩ := h
    cases r with
    | cons r1 r2 => exact .cons (dn_nested I k h1 r1) (dns_nested I ks h2 r2)
end
def hasK (kvs : List (NestedKey × D)) (k : NestedKey) : Bool := kvs.any fun x => decide (x.1 = k)
theorem dk_is (I : Inv X pins σ H s) : ∀ {kvs : List (NestedKey × D)} {xs : List (NestedKey × Addr × V)} {us : List (NestedKey × Addr × Value)}, DkOk X.K N H kvs xs →
    Paired (fun (x : NestedKey × Addr × V) (u : NestedKey × Addr × Value) => x.1 = u.1 ∧ x.2.1 = u.2.1 ∧ RelV x.2.2 u.2.2) xs us → (∀ x ∈ us, (nestedKind X.prog X.w).is s.heap x.1 x.2.1) ∧ ∀ k, (atKey us k).isSome = hasK kvs k
  | [], _, _, h, r => by
    unfold DkOk at h; subst h; cases r
    exact ⟨fun x hx => absurd hx (by simp), fun k => rfl⟩
  | (k, d) :: kvs, _, _, h, r => by
    unfold DkOk at h
    obtain ⟨a, v, xs, rfl, h1, h2, h3, h4⟩ := h
    cases r with
    | @cons _ u _ us r1 r2 =>
      obtain ⟨i1, i2⟩ := dk_is I h4 r2
      obtain ⟨e1, e2, _⟩ := r1
      refine ⟨fun x hx => ?_, fun k' => ?_⟩
      · rcases List.mem_cons.mp hx with rfl | hx
        · rw [← e1, ← e2]
          exact ⟨dn_nested I k h2 rfl, h1⟩
        · exact i1 x hx
      · have := i2 k'
        unfold atKey hasK at *
        simp only [List.find?_cons, List.any_cons]
        have e1' : u.1 = k := e1.symm
        rw [e1']
        by_cases hk : k = k'
        · simp [hk]
        · simp only [decide_eq_false hk, Bool.false_or]
          exact this
theorem dko_of (I : Inv X pins σ H s) {p : Addr} {kvs : List (NestedKey × D)} {xs : List (NestedKey × Addr × V)} (hp : H p = some (DKO X.prog X.w p xs)) (hd : DkOk X.K N H kvs xs) :
    (p == sysModules) = false ∧ ∃ us, Paired (fun (x : NestedKey × Addr × V) (u : NestedKey × Addr × Value) => x.1 = u.1 ∧ x.2.1 = u.2.1 ∧ RelV x.2.2 u.2.2) xs us ∧ s.heap.DictOfH (nestedKind X.prog X.w) p us ∧ ∀ k, (atKey us k).isSome = hasK kvs k := by
  obtain ⟨⟨h1, us, r, o, es, ep, h2, h3, h4, h5, h6⟩, _⟩ := I.hok p _ hp
  obtain ⟨i1, i2⟩ := dk_is I hd r
  exact ⟨h1, us, r, ⟨o, es, ep, h2, h3, h4, h5, i1, h6⟩, i2⟩
theorem dko_new {P : Program} {w : World} {H : Hp} {h : Heap} {p : Addr} {xs : List (NestedKey × Addr × V)} (x : DKf P w p xs h) : ObjOk P w H h p (DKO P w p xs) := by
  refine ⟨x, ?_, fun h1 h2 x1 k => ?_⟩
  · obtain ⟨_, _, _, o, _, _, ho, _⟩ := x; exact ⟨o, ho⟩
  · obtain ⟨a, us, r, o, es, ep, b, c⟩ := x1
    exact ⟨a, us, r, o, es, ep, k _ b, c⟩
/-- k in d, by values -/
def rInDk (P : Program) (w : World) (K : PySem.W.Frag) (neg : Bool) : R2 := fun x y H Q => ∃ (k : NestedKey) (a p : Addr) (N : Addr → Prop) (kvs : List (NestedKey × D)) (xs : List (NestedKey × Addr × V)), x = .ref a ∧ y = .ref p ∧ k.depth ≤ 8 ∧ Dn K N H (keyD k) (.ref a) ∧
  H p = some (DKO P w p xs) ∧ DkOk K N H kvs xs ∧ Q (.bl (if neg then !hasK kvs k else hasK kvs k)) H
theorem room_nk {A : Around} {P : Program} {w : World} (hu : A.units + 64 < cLine) : (nestedKind P w).room A.in1 := by show A.units + 1 + 8 < cLine; omega
theorem op_inDk (hu : X.A.units + 64 < cLine) : OpR X (compareOp .In) (rInDk X.prog X.w X.K false) := by
  intro pins s σ H x y v u Q I rx ry h
  obtain ⟨k, a, p, N, kvs, xs, rfl, rfl, h1, h2, h3, h4, q⟩ := h
  cases rx; cases ry
  obtain ⟨hs, us, r, hm, hk⟩ := dko_of I h3 h4
  refine wpAny_in_heap (room_nk hu) (show (nestedKind X.prog X.w).is s.heap k a from ⟨dn_nested I k h2 rfl, h1⟩) hs hm ⟨.bl _, H, I.tok _, rfl, ?_⟩
  rw [hk k]
  exact q
theorem op_notInDk (hu : X.A.units + 64 < cLine) : OpR X (compareOp .NotIn) (rInDk X.prog X.w X.K true) := by
  intro pins s σ H x y v u Q I rx ry h
  obtain ⟨k, a, p, N, kvs, xs, rfl, rfl, h1, h2, h3, h4, q⟩ := h
  cases rx; cases ry
  obtain ⟨hs, us, r, hm, hk⟩ := dko_of I h3 h4
  refine wpAny_notIn_heap (room_nk hu) (show (nestedKind X.prog X.w).is s.heap k a from ⟨dn_nested I k h2 rfl, h1⟩) hs hm ⟨.bl _, H, I.tok _, rfl, ?_⟩
  rw [hk k]
  exact q
/-- d[k] = v, k not in d -/
def rSetDk (P : Program) (w : World) (K : PySem.W.Frag) : V → V → V → Hp → (Hp → Prop) → Prop := fun o i v H Q => ∃ (k : NestedKey) (a p : Addr) (N : Addr → Prop) (kvs : List (NestedKey × D)) (xs : List (NestedKey × Addr × V)), i = .ref a ∧ o = .ref p ∧ k.depth ≤ 8 ∧ Dn K N H (keyD k) (.ref a) ∧
  H p = some (DKO P w p xs) ∧ DkOk K N H kvs xs ∧ hasK kvs k = false ∧ xs.length < sizeLine ∧ Q (upd H p (DKO P w p (xs ++ [(k, a, v)])))
theorem paired_append {α β : Type} {F : α → β → Prop} : ∀ {l1 l2 : List α} {m1 m2 : List β}, Paired F l1 m1 → Paired F l2 m2 → Paired F (l1 ++ l2) (m1 ++ m2)
  | _, _, _, _, .nil, h => h
  | _, _, _, _, .cons r t, h => .cons r (paired_append t h)
theorem set_dk (hu : X.A.units + 64 < cLine) : PSet X (rSetDk X.prog X.w X.K) := by
  intro pins s σ H o i v ov iv u Q I ro ri rv h
  obtain ⟨k, a, p, N, kvs, xs, rfl, rfl, h1, h2, h3, h4, hno, hz, q⟩ := h
  cases ro; cases ri
  obtain ⟨hs, us, r, hm, hk⟩ := dko_of I h3 h4
  have hl := Paired.length r
  have hnone : atKey us k = none := by
    have := hk k
    rw [hno] at this
    cases e : atKey us k with
    | none => rfl
    | some z => rw [e] at this; cases this
  refine wpAny_setItem_heap (hsz := by omega) (room_nk hu) (show (nestedKind X.prog X.w).is s.heap k a from ⟨dn_nested I k h2 rfl, h1⟩) hm fun h' dd' hsb => ?_
  rw [storedH_new hnone] at dd'
  obtain ⟨oo, es, ep, g1, g2, g3, g4, _, g5⟩ := dd'
  have mu : Mut (H p) := by rw [h3]; exact True.intro
  refine ⟨_, I.write (x := p) (e := p) (o := DKO X.prog X.w p (xs ++ [(k, a, v)])) mu (.inl rfl) (fun b ob hb e => (hsb.2 b hb).trans e) ⟨oo, g1⟩ (dko_new ?_), q⟩
  exact ⟨hs, _, paired_append r (.cons ⟨rfl, rfl, rv⟩ .nil), oo, es, ep, g1, g2, g3, g4, g5⟩
/-- {k: v} -/
def tDisp1 (P : Program) (w : World) (K : PySem.W.Frag) (tk tv : TE) : TE := fun σ H Q => ∀ p, H p = none → tk σ (upd H p (DKO P w p [])) fun x H1 => tv σ H1 fun y H2 => ∃ (k : NestedKey) (a : Addr) (N : Addr → Prop), x = .ref a ∧ k.depth ≤ 8 ∧ Dn K N H2 (keyD k) (.ref a) ∧ H2 p = some (DKO P w p []) ∧
  Q (.ref p) (upd H2 p (DKO P w p [(k, a, y)]))
theorem dko_empty {P : Program} {w : World} {H : Hp} (h : Heap) (hb : sysModules < h.objs.size) : ObjOk P w H (h.push { cls := .type "dict", data := .dict #[] }) h.objs.size (DKO P w h.objs.size []) :=
  dko_new ⟨beq_eq_false_iff_ne.mpr (Ne.symm (Nat.ne_of_lt hb)), [], .nil, _, #[], 0, Heap.get?_push_size _ rfl, ⟨rfl, rfl, rfl⟩, rfl, rfl, List.nodup_nil⟩
theorem pe_disp1 {X : Cx} {pos : Pos} {ke ve : Expr} {tk tv : TE} (hu : X.A.units + 64 < cLine) (hk : PE X ke tk) (hv : PE X ve tv)
    (hshape : (evalEachOpt [some ke] X.env).zip ((evalEach [ve] X.env).map fun v => do let x ← v; standAt pos; pure x) = [(eval ke X.env, (do let x ← eval ve X.env; standAt pos; pure x))].map fun p => (some p.1, p.2) := by rfl) :
    PE X (.Dict [some ke] [ve] pos) (tDisp1 X.prog X.w X.K tk tv) := by
  refine ⟨fun pins s σ H Q I q => ?_⟩
  have hn := I.hok.fresh (Nat.le_refl s.heap.objs.size)
  have I1 := I.laid (a := s.heap.objs.size) (o := DKO X.prog X.w s.heap.objs.size []) (h' := s.heap.push { cls := .type "dict", data := .dict #[] }) (t' := s.toks) (fun _ _ q => Heap.get?_push_of_some _ q) (Nat.le_refl _) (dko_empty s.heap I.big)
  rw [arm_eval_Dict, hshape, dictDisplay_pairs _ (by simp) (by simp)]
  refine wpAny_bind (wpAny_standAt (wpAny_bind (wpAny_subDictH (knd := nestedKind X.prog X.w) (Q := fun d s' => wpAny (model X.prog X.w) X.A (pure (Value.ref d)) (EP X pins σ Q) X.xe s') (show X.A.units + 8 < cLine by omega) (by simp) ?_)))
  refine evalPairs_cons (thn (hk.run pins _ σ _ _ I1 (q _ hn)) fun kv s1 ⟨x, H1, I1', rx, q1⟩ => wpAny_bind (thn (hv.run pins s1 σ H1 _ I1' q1) fun vv s2 ⟨y, H2, I2, ry, k, a, N, ex, hdep, hdn, hp, q2⟩ => wpAny_bind (wpAny_standAt (wpAny_pure (evalPairs_nil ?_)))))
  subst ex
  cases rx
  obtain ⟨hs, us, r, hm, _⟩ := dko_of (kvs := []) (xs := []) (N := N) I2 hp rfl
  cases r
  refine ⟨[(k, a, vv)], ⟨rfl, rfl, ⟨dn_nested I2 k hdn rfl, hdep⟩, trivial⟩, hm, fun h' tk dd' hsb => wpAny_pure ⟨.ref s.heap.objs.size, _, ?_, rfl, q2⟩⟩
  obtain ⟨oo, es, ep, g1, g2, g3, g4, _, g5⟩ := dd'
  have mu : Mut (H2 s.heap.objs.size) := by rw [hp]; exact True.intro
  refine I2.write (x := s.heap.objs.size) (e := s.heap.objs.size) (o := DKO X.prog X.w s.heap.objs.size [(k, a, y)]) mu (.inl rfl) (fun b ob hb e => (hsb.2 b hb).trans e) ⟨oo, g1⟩ (dko_new ?_)
  exact ⟨hs, _, .cons ⟨rfl, rfl, ry⟩ .nil, oo, es, ep, g1, g2, g3, g4, g5⟩
end
section
variable {X : Cx} {M : Addr → Prop} {δ : Sl} {ω ω1 ω2 ω3 : Om} {d : D} {e e1 e2 e3 : Expr} {pos pos' : Pos} {kvs : List (NestedKey × D)} {k : NestedKey}
theorem keyT (h : ∃ ks, k = .tup ks) {K : PySem.W.Frag} {N : Addr → Prop} {H : Hp} {v : V} (hd : Dn K N H (keyD k) v) : ∃ a, v = .ref a := by
  obtain ⟨ks, rfl⟩ := h
  unfold keyD at hd
  obtain ⟨a, xs, e, _⟩ := dn_tup hd
  exact ⟨a, e⟩
theorem od_inDk {q : Addr} (j : Nat) (hu : X.A.units + 64 < cLine) (ht : ∃ ks, k = .tup ks) (h8 : k.depth ≤ 8) (ho : ω[j]? = some (q, .dkn X.prog X.w kvs)) : OpD X M (compareOp .In) (keyD k) (.ptr q) ω (.bl (hasK kvs k)) ω := ⟨_, op_inDk hu, fun x y H Q st hx hy kk => by
  obtain ⟨a, rfl⟩ := keyT ht hx
  obtain ⟨xs, h1, h2⟩ := st.get ho
  exact ⟨k, a, q, _, kvs, xs, rfl, dn_ptr hy, h8, hx, h1, h2, kk _ H st (Stp.refl _ _) dn_bl'⟩⟩
theorem od_notInDk {q : Addr} (j : Nat) (hu : X.A.units + 64 < cLine) (ht : ∃ ks, k = .tup ks) (h8 : k.depth ≤ 8) (ho : ω[j]? = some (q, .dkn X.prog X.w kvs)) : OpD X M (compareOp .NotIn) (keyD k) (.ptr q) ω (.bl (!hasK kvs k)) ω := ⟨_, op_notInDk hu, fun x y H Q st hx hy kk => by
  obtain ⟨a, rfl⟩ := keyT ht hx
  obtain ⟨xs, h1, h2⟩ := st.get ho
  exact ⟨k, a, q, _, kvs, xs, rfl, dn_ptr hy, h8, hx, h1, h2, kk _ H st (Stp.refl _ _) dn_bl'⟩⟩
theorem dkOk_append {K : PySem.W.Frag} {N : Addr → Prop} {H : Hp} {a : Addr} {v : V} (h1 : k.depth ≤ 8) (h2 : Dn K N H (keyD k) (.ref a)) (h3 : Dn K N H d v) : ∀ {kvs : List (NestedKey × D)} {xs : List (NestedKey × Addr × V)}, DkOk K N H kvs xs → DkOk K N H (kvs ++ [(k, d)]) (xs ++ [(k, a, v)])
  | [], _, h => by unfold DkOk at h; subst h; exact ⟨a, v, [], rfl, h1, h2, h3, rfl⟩
  | (k', d') :: r, _, h => by
    unfold DkOk at h
    obtain ⟨b, w, s, rfl, g1, g2, g3, g4⟩ := h
    exact ⟨b, w, _, rfl, g1, g2, g3, dkOk_append h1 h2 h3 g4⟩
theorem dkOk_len {K : PySem.W.Frag} {N : Addr → Prop} {H : Hp} : ∀ {kvs : List (NestedKey × D)} {xs : List (NestedKey × Addr × V)}, DkOk K N H kvs xs → xs.length = kvs.length
  | [], _, h => by unfold DkOk at h; subst h; rfl
  | (k', d') :: r, _, h => by
    unfold DkOk at h
    obtain ⟨b, w, s, rfl, g1, g2, g3, g4⟩ := h
    show s.length + 1 = r.length + 1
    rw [dkOk_len g4]
/-- d[k] = e, k not in d -/
theorem rst_setDk {o ie : Expr} {q : Addr} {spos : Pos} {P : Out → Prop} (j : Nat) (hu : X.A.units + 64 < cLine) (h : RE X M e δ ω d ω1) (ho : RE X M o δ ω1 (.ptr q) ω2) (hi : RE X M ie δ ω2 (keyD k) ω3) (ht : ∃ ks, k = .tup ks) (h8 : k.depth ≤ 8) (h3 : ω3[j]? = some (q, .dkn X.prog X.w kvs)) (hno : hasK kvs k = false) (hz : kvs.length < 100000)
    (hq : P (.nx δ (ω3.set j (q, .dkn X.prog X.w (kvs ++ [(k, d)])))))
    (ha : ∀ v, assign (.Subscript o ie spos) X.env v = (do
      let ov ← holding [v] (eval o X.env)
      let iv ← holding [v, ov] (eval ie X.env)
      standAt spos
      holding [v, ov, iv] (setItem ov iv v)
      release [v, ov, iv] []) := by intro _; rfl)
    (hs : swapsWithSole [.Subscript o ie spos] e pos.line X.env = pure false := by rfl) (hw : swappedStores [.Subscript o ie spos] e X.env = pure none := by rfl)
    (h1 : (assignEach [.Subscript o ie spos] X.env).map (·.2) = [assign (.Subscript o ie spos) X.env] := by rfl) : RSt X M (.Assign [.Subscript o ie spos] e pos) δ ω P :=
  rst_of (ps_asg (peE X M e) (pg_sub (peE X M o) (peE X M ie) (set_dk hu) ha) hs hw h1) fun σ H D st sl kk => h.t st sl fun v H1 st1 sp1 hv =>
    ho.t st1 (sl.carry sp1.carry) fun ov H2 st2 sp2 hov => hi.t st2 (sl.carry (sp1.trans sp2).carry) fun iv H3 st3 sp3 hiv => by
      obtain ⟨a, rfl⟩ := keyT ht hiv
      obtain ⟨xs, g1, g2⟩ := st3.get h3
      have hv3 := hv.carry (sp2.trans sp3).carry
      refine ⟨k, a, q, _, kvs, xs, rfl, dn_ptr hov, h8, hiv, g1, g2, hno, by rw [dkOk_len g2]; exact Nat.lt_of_lt_of_le hz (by decide), ?_⟩
      obtain ⟨a1, a2⟩ := st3.change (ob := .dkn X.prog X.w (kvs ++ [(k, d)])) h3 (fun H' c e => ⟨xs ++ [(k, a, v)], e, (dkOk_append h8 hiv hv3 g2).carry c⟩)
      have sp := ((sp1.trans sp2).trans sp3).trans a2
      exact kk.nx _ _ _ _ hq a1 sp (sl.carry sp.carry)
/-- x = {k: e} -/
theorem rst_disp1 {ke ve : Expr} {py : Pos} {x : Str} {P : Out → Prop} (i : Nat) (hN : X.N.Nodup) (hu : X.A.units + 64 < cLine) (hk : ∀ M', RE X M' ke δ ω (keyD k) ω) (hv : ∀ M', RE X M' ve δ ω d ω) (ht : ∃ ks, k = .tup ks) (h8 : k.depth ≤ 8)
    (q : ∀ p, P (.nx (δ.set i (some (.ptr p))) ((p, .dkn X.prog X.w [(k, d)]) :: ω))) (hi : X.N[i]? = some x := by rfl) (hx : Loc X.env.scope x := by first | exact Or.inl rfl | exact Or.inr rfl)
    (hs : swapsWith (.Dict [some ke] [ve] pos) (some (.Name x py)) pos'.line X.env = pure false := by rfl) (hf : X.fn x = true ∨ X.env.scope.names.lookup x = some .local := by first | exact .inl rfl | exact .inr rfl)
    (hshape : (evalEachOpt [some ke] X.env).zip ((evalEach [ve] X.env).map fun v => do let x ← v; standAt pos; pure x) = [(eval ke X.env, (do let x ← eval ve X.env; standAt pos; pure x))].map fun p => (some p.1, p.2) := by rfl) :
    RSt X M (.Assign [.Name x py] (.Dict [some ke] [ve] pos) pos') δ ω P := by
  let te : Expr → TE := fun e => fun σ H Q => ∃ M', tE X M' e σ H Q
  have pte : ∀ e, PE X e (te e) := fun e => ⟨fun pins s σ H Q I h => by obtain ⟨M', h⟩ := h; exact (peE X M' e).run pins s σ H Q I h⟩
  refine rst_of (ps_set hN hi hx (pe_disp1 hu (pte ke) (pte ve) hshape) hs hf) fun σ H Dd st sl kk => fun p hp => ?_
  obtain ⟨s1, p1⟩ := st.take (o := DKO X.prog X.w p []) (ob := .dkn X.prog X.w []) hp (fun N' H' cc e => ⟨[], e, rfl⟩)
  have sl1 := sl.carry p1.carry
  rw [← mt_addM (o := .dkn X.prog X.w [])] at sl1
  refine ⟨addM M p, (hk _).t s1.toM sl1 fun v H1 st1 sp1 hv1 => ⟨addM M p, (hv _).t st1 (sl1.carry sp1.carry) fun y H2 st2 sp2 hy => ?_⟩⟩
  obtain ⟨s2, p2⟩ := s1.ofM st1 sp1
  obtain ⟨s3, p3⟩ := s2.ofM st2 sp2
  have hk2 := hv1.carry sp2.carry
  obtain ⟨a, rfl⟩ := keyT ht hk2
  obtain ⟨xs, g1, g2⟩ := s3.own (p, .dkn X.prog X.w []) List.mem_cons_self
  unfold DkOk at g2
  subst g2
  refine ⟨k, a, _, rfl, h8, hk2, g1, ?_⟩
  rw [mt_addM (o := .dkn X.prog X.w [])] at hk2 hy
  obtain ⟨a1, a2⟩ := s3.change (i := 0) (ob := .dkn X.prog X.w [(k, d)]) (u := DKO X.prog X.w p [(k, a, y)]) rfl (fun H' c e => ⟨[(k, a, y)], e, ⟨a, y, [], rfl, h8, c _ _ hk2, c _ _ hy, rfl⟩⟩)
  rw [List.set_cons_zero] at a1 a2
  have sp := ((p1.trans p2).trans p3).trans a2
  exact kk.nx _ _ _ _ (q p) a1 sp ((sl.carry sp.carry).set dn_ptr')
end
end DV
/-! DV9: words in short: a function by its promise, any and all over a comprehension, tuple of a comprehension. -/
namespace DV
open PySem PySem.Spec PyProof.Rows L2
def HasF (P : Program) (w : World) (K : PySem.W.Frag) (mg : Str → Option Value) (base : Heap) (x : Str) (k : Nat) (sp : Sp) : Prop :=
  ∃ f fd ps, FnOk P w K mg base CX0 k f fd ps sp ∧ mg x = some (.ref f) ∧ PySem.W.keepIn K (.ref f) = true ∧ Binds K fd ps []
theorem has_of {P : Program} {w : World} {K : PySem.W.Frag} {mg : Str → Option Value} {base : Heap} {x qual : Str} {st : Stmt} {k : Nat} {sp : Sp} {ps : List Str}
    (E : ∃ f fd, Fun K x qual st f fd ∧ mg x = some (.ref f)) (ok : ∀ f fd, Fun K x qual st f fd → FnOk P w K mg base CX0 k f fd ps sp)
    (hb : ∀ (kV doc pm : Value) (an : Option Addr) (cdv ct : Value) (us : List Value), us.length = ps.length → bindArgs (PySem.W.fnOf x qual (defArgs st) (defBody st) (defScope st) .none kV doc pm an cdv ct) ⟨us, []⟩ = pure (ps.zip us)) : HasF P w K mg base x k sp := by
  obtain ⟨f, fd, F, hm⟩ := E
  exact ⟨f, fd, ps, ok f fd F, hm, F.kp, F.binds hb⟩
section
variable {α : Type} {X : Cx} {M : Addr → Prop} {δ : Sl} {ω ω1 ω2 : Om} {ds es : List D} {e elt tg iter : Expr} {ifs : List Expr} {scope : Scope} {pos p p1 : Pos}
theorem LC.to (h : LC X M elt tg iter ifs scope δ ω ds ω1) (q : ds = es) : LC X M elt tg iter ifs scope δ ω es ω1 := q ▸ h
theorem re_all {xs : List α} {g : α → Bool} (hm : X.mg "all" = none) (hc : X.calm = true) (hN : X.N.Nodup) (h : LC X M elt tg iter ifs scope δ ω (xs.map fun x => .bl (g x)) ω1) (hg : Gl X "all" := by rfl)
    (he : starEach [.ListComp elt [⟨tg, iter, ifs, 0⟩] scope p1] X.env = (false, eval (.ListComp elt [⟨tg, iter, ifs, 0⟩] scope p1) X.env) :: starEach [] X.env := by rfl) (hpl : (backTo pos (starEach [] X.env)).any (·.1) = false := by rfl) :
    RE X M (.Call (.Name "all" p) [.ListComp elt [⟨tg, iter, ifs, 0⟩] scope p1] [] pos) δ ω (.bl (xs.all g)) ω1 :=
  (re_callB (id := "all") hm (ra_cons (RN.re (rn_lc hc hN (h.to (es := (xs.map g).map .bl) (by simp)))) ra_nil he) (cd_all hc) (by decide +kernel) hg (by decide) (by decide) he hpl).to (by simp [List.all_map, Function.comp_def])
theorem re_any {xs : List α} {g : α → Bool} (hm : X.mg "any" = none) (hc : X.calm = true) (hN : X.N.Nodup) (h : LC X M elt tg iter ifs scope δ ω (xs.map fun x => .bl (g x)) ω1) (hg : Gl X "any" := by rfl)
    (he : starEach [.ListComp elt [⟨tg, iter, ifs, 0⟩] scope p1] X.env = (false, eval (.ListComp elt [⟨tg, iter, ifs, 0⟩] scope p1) X.env) :: starEach [] X.env := by rfl) (hpl : (backTo pos (starEach [] X.env)).any (·.1) = false := by rfl) :
    RE X M (.Call (.Name "any" p) [.ListComp elt [⟨tg, iter, ifs, 0⟩] scope p1] [] pos) δ ω (.bl (xs.any g)) ω1 :=
  (re_callB (id := "any") hm (ra_cons (RN.re (rn_lc hc hN (h.to (es := (xs.map g).map .bl) (by simp)))) ra_nil he) (cd_any hc) (by decide +kernel) hg (by decide) (by decide) he hpl).to (by simp [List.any_map, Function.comp_def])
/-- tuple([..]) -/
theorem re_tupLc (hm : X.mg "tuple" = none) (hc : X.calm = true) (hN : X.N.Nodup) (h : LC X M elt tg iter ifs scope δ ω ds ω1) (hg : Gl X "tuple" := by rfl)
    (he : starEach [.ListComp elt [⟨tg, iter, ifs, 0⟩] scope p1] X.env = (false, eval (.ListComp elt [⟨tg, iter, ifs, 0⟩] scope p1) X.env) :: starEach [] X.env := by rfl) (hpl : (backTo pos (starEach [] X.env)).any (·.1) = false := by rfl) :
    RE X M (.Call (.Name "tuple" p) [.ListComp elt [⟨tg, iter, ifs, 0⟩] scope p1] [] pos) δ ω (.tup ds) ω1 :=
  re_callTy (T := "tuple") hm (ra_cons (RN.re (rn_lc hc hN h)) ra_nil he) cd_tupleL (by decide +kernel) hg (by decide) (by decide) he hpl
theorem ri_to (h : RI X M tg iter δ ω ds ω1) (q : ds = es) : RI X M tg iter δ ω es ω1 := q ▸ h
/-- zip of two images -/
theorem zipD_maps {β : Type} (f : α → D) (g : β → D) : ∀ (as : List α) (bs : List β), zipD (as.map f) (bs.map g) = (as.zip bs).map fun x => .tup [f x.1, g x.2]
  | [], bs => by simp [zipD]
  | a :: as, [] => by simp [zipD]
  | a :: as, b :: bs => by simp only [List.map_cons, zipD, List.zip_cons_cons, zipD_maps f g as bs]
theorem rangeD_map (n : Nat) : rangeD 0 n = (List.range n).map fun i : Nat => D.int (i : Int) := by
  unfold rangeD
  exact List.map_congr_left fun i _ => by rw [Int.zero_add]
/-- isinstance(e, T) -/
theorem re_isi {x : Str} {d : D} (T : String) (k : Bool) (hmi : X.mg "isinstance" = none) (hm : X.mg x = none) (h : RE X M e δ ω d ω1) (ht : tyN d ≠ "" := by simp [tyN, encT]) (hk : kitB (tyN d) T = some k := by rfl)
    (hv : bootBuiltins x = some (.type T) := by decide +kernel) (hgx : Gl X x := by rfl) (hn : x ≠ "__name__" := by decide) (hd : (x == ("__debug__" : Str)) = false := by decide)
    (hg : Gl X "isinstance" := by rfl) (he : starEach [e, .Name x p1] X.env = (false, eval e X.env) :: starEach [.Name x p1] X.env := by rfl) (he2 : starEach [.Name x p1] X.env = (false, eval (.Name x p1) X.env) :: starEach [] X.env := by rfl)
    (hpl : (backTo pos (starEach [.Name x p1] X.env)).any (·.1) = false := by rfl) :
    RE X M (.Call (.Name "isinstance" p) [e, .Name x p1] [] pos) δ ω (.bl k) ω1 :=
  re_callB (id := "isinstance") hmi (ra_cons h (ra_cons (re_ty hm hv hgx hn hd) ra_nil he2) he) (cd_isi ht hk) (by decide +kernel) hg (by decide) (by decide) he hpl
end
/-! ### more rules of statements -/
theorem Sta.frzAt {K : PySem.W.Frag} {M : Addr → Prop} {ω1 : Om} {H1 : Hp} {q : Addr} {ds : List D} (j : Nat) (st1 : Sta K M ω1 H1) (ho : ω1[j]? = some (q, .lst ds)) :
    Sta K M (ω1.eraseIdx j) H1 ∧ Stp ω1 H1 (ω1.eraseIdx j) H1 ∧ Dn K (Mt M (ω1.eraseIdx j)) H1 (.lst ds) (.ref q) := by
  have hsub : ∀ y ∈ ω1.eraseIdx j, y ∈ ω1 := fun y hy => List.mem_of_mem_eraseIdx hy
  have hsub' : ∀ c ∈ (ω1.eraseIdx j).map (·.1), c ∈ ω1.map (·.1) := fun c hc => by
    obtain ⟨y, hy, e⟩ := List.mem_map.mp hc
    exact List.mem_map.mpr ⟨y, hsub y hy, e⟩
  have cr : Carry (Mt M ω1) (Mt M (ω1.eraseIdx j)) H1 H1 := fun a o h hn => ⟨h, fun z => hn (z.elim .inl fun z => .inr (hsub' a z))⟩
  have sp2 : Stp ω1 H1 (ω1.eraseIdx j) H1 := ⟨fun _ _ h _ => h, fun a ha => .inl (hsub' a ha), fun a o h => by rw [h]; exact nofun⟩
  have nd2 : ((ω1.eraseIdx j).map (·.1)).Nodup := (List.Sublist.map _ (List.eraseIdx_sublist ω1 j)).nodup st1.nd
  refine ⟨⟨st1.m0, fun c hc => st1.dis c (hsub' c hc), nd2, fun y hy => (st1.own y (hsub y hy)).carry cr rfl⟩, sp2, ?_⟩
  obtain ⟨xs, hx, hd⟩ := st1.get ho
  unfold Dn
  refine ⟨q, xs, rfl, ⟨fun z => ?_, hx⟩, hd.carry cr⟩
  rcases z with z | z
  · exact st1.dis q (List.mem_map.mpr ⟨_, List.mem_of_getElem? ho, rfl⟩) z
  · obtain ⟨y, hy, ey⟩ := List.mem_map.mp z
    obtain ⟨i, hi⟩ := List.mem_iff_getElem?.mp hy
    rw [List.getElem?_eraseIdx] at hi
    have inj : ∀ {m : Nat}, ω1[m]? = some y → m = j := fun {m} hm => by
      have n1 : (ω1.map (·.1))[j]? = some q := by rw [List.getElem?_map, ho]; rfl
      have n2 : (ω1.map (·.1))[m]? = some q := by rw [List.getElem?_map, hm]; exact congrArg some ey
      obtain ⟨h1, e1⟩ := List.getElem?_eq_some_iff.mp n1
      obtain ⟨h2, e2⟩ := List.getElem?_eq_some_iff.mp n2
      exact (List.getElem_inj st1.nd).mp (e2.trans e1.symm)
    split at hi
    · have := inj hi; omega
    · have := inj hi; omega
section
variable {X : Cx} {M : Addr → Prop} {δ δ' : Sl} {ω ω1 ω2 : Om} {ds es : List D} {e : Expr} {pos : Pos} {st : Stmt} {sts rest : List Stmt} {P P' : Out → Prop}
/-- return of a new list -/
theorem rst_retL (h : RN X M e δ ω ds ω1) (q : ∀ p, P (.rt (.ptr p) ((p, .lst ds) :: ω1))) : RSt X M (.Return (some e) pos) δ ω P :=
  rst_of (ps_ret (peN X M e)) fun σ H D st sl k => h.t st sl fun p H1 hp st1 sp1 => k.rt (.ref p) H1 (.ptr p) _ (q p) st1 sp1 dn_ptr'
theorem RSt.imp (h : RSt X M st δ ω P) (hi : ∀ o, P o → P' o) : RSt X M st δ ω P' := ⟨fun pins s σ H I a b => thn (h.run pins s σ H I a b) fun f s1 q => by
  cases f with
  | next => obtain ⟨σ', H', δ', ω', I', a, b, c, p⟩ := q; exact ⟨σ', H', δ', ω', I', a, b, c, hi _ p⟩
  | ret v => obtain ⟨v, σ', H', d, ω', I', r, a, b, c, p⟩ := q; exact ⟨v, σ', H', d, ω', I', r, a, b, c, hi _ p⟩
  | brk => obtain ⟨σ', H', δ', ω', I', a, b, c, p⟩ := q; exact ⟨σ', H', δ', ω', I', a, b, c, hi _ p⟩
  | cont => obtain ⟨σ', H', δ', ω', I', a, b, c, p⟩ := q; exact ⟨σ', H', δ', ω', I', a, b, c, hi _ p⟩⟩
/-- a statement, then the rest, shown once, from Q -/
theorem rss_mid (Q : Sl → Om → Prop) (h : RSt X M st δ ω (Then P Q)) (h2 : ∀ δ' ω', Q δ' ω' → RSs X M rest δ' ω' P) : RSs X M (st :: rest) δ ω P := rss_cons (h.imp fun o ho => by
  cases o with
  | nx δ' ω' => exact h2 _ _ ho
  | rt d ω' => exact ho
  | bk δ' ω' => exact ho
  | ct δ' ω' => exact ho)
/-- a name's list is not changed from here on -/
theorem rss_frz {q : Addr} (i j : Nat) (hi : δ[i]? = some (some (.ptr q))) (ho : ω[j]? = some (q, .lst ds)) (h : RSs X M sts (δ.set i (some (.lst ds))) (ω.eraseIdx j) P) : RSs X M sts δ ω P := ⟨fun pins s σ H I a b => by
  obtain ⟨a1, a2, a3⟩ := a.frzAt j ho
  have cr : Carry (Mt M ω) (Mt M (ω.eraseIdx j)) H H := a2.carry
  have b' : Slots X.K (Mt M (ω.eraseIdx j)) H σ (δ.set i (some (.lst ds))) := by
    refine ⟨by rw [List.length_set]; exact b.1, fun k d hk => ?_⟩
    by_cases e : i = k
    · subst e
      rw [List.getElem?_set_self (List.getElem?_eq_some_iff.mp hi).1] at hk
      cases hk
      obtain ⟨v, e1, hv⟩ := b.2 i _ hi
      rw [dn_ptr hv] at e1
      exact ⟨_, e1, a3⟩
    · rw [List.getElem?_set_ne e] at hk
      exact (b.carry cr).2 k d hk
  exact thn (h.run pins s σ H I a1 b') fun f s1 q => spost_trans a2 q⟩
end
end DV
namespace K80
open PySem PySem.Spec PyProof.Rows L2 DV
def topS (i : Nat) : Stmt := PySem.Challenge.pw_clearhall_k80_whole_rows_that_part_kinds.main.body.getD i (.Pass ⟨0, 0, 0, 0⟩)
abbrev N_is_integer : List Str := ["thing"]
theorem sc_is_integer : FnScope N_is_integer ["thing"] (defScope (topS 6)) := ⟨rfl, rfl, rfl, by decide +kernel, rfl, by decide +kernel, by decide +kernel⟩
abbrev N_is_within : List Str := ["thing", "least", "most"]
theorem sc_is_within : FnScope N_is_within ["thing", "least", "most"] (defScope (topS 7)) := ⟨rfl, rfl, rfl, by decide +kernel, rfl, by decide +kernel, by decide +kernel⟩
abbrev N_is_counts : List Str := ["many", "thing", "count"]
theorem sc_is_counts : FnScope N_is_counts ["many", "thing"] (defScope (topS 13)) := ⟨rfl, rfl, rfl, by decide +kernel, rfl, by decide +kernel, by decide +kernel⟩
abbrev N_is_at_most : List Str := ["one", "other", "count", "most"]
theorem sc_is_at_most : FnScope N_is_at_most ["one", "other"] (defScope (topS 14)) := ⟨rfl, rfl, rfl, by decide +kernel, rfl, by decide +kernel, by decide +kernel⟩
abbrev N_first_wrong_counts : List Str := ["many", "lots", "at", "lot", "other"]
theorem sc_first_wrong_counts : FnScope N_first_wrong_counts ["many", "lots"] (defScope (topS 15)) := ⟨rfl, rfl, rfl, by decide +kernel, rfl, by decide +kernel, by decide +kernel⟩
abbrev N_Kinds_init : List Str := ["self", "many", "lots", "at"]
theorem sc_Kinds_init : FnScope N_Kinds_init ["self", "many", "lots"] (defScope (inClass (topS 16) 0)) := ⟨rfl, rfl, rfl, by decide +kernel, rfl, by decide +kernel, by decide +kernel⟩
abbrev N_Kinds_eq : List Str := ["self", "other"]
theorem sc_Kinds_eq : FnScope N_Kinds_eq ["self", "other"] (defScope (inClass (topS 16) 1)) := ⟨rfl, rfl, rfl, by decide +kernel, rfl, by decide +kernel, by decide +kernel⟩
abbrev N_is_row_of : List Str := ["kinds", "thing", "kind"]
theorem sc_is_row_of : FnScope N_is_row_of ["kinds", "thing"] (defScope (topS 17)) := ⟨rfl, rfl, rfl, by decide +kernel, rfl, by decide +kernel, by decide +kernel⟩
abbrev N_check_row : List Str := ["kinds", "thing"]
theorem sc_check_row : FnScope N_check_row ["kinds", "thing"] (defScope (topS 18)) := ⟨rfl, rfl, rfl, by decide +kernel, rfl, by decide +kernel, by decide +kernel⟩
abbrev N_begin : List Str := ["kinds"]
theorem sc_begin : FnScope N_begin ["kinds"] (defScope (topS 19)) := ⟨rfl, rfl, rfl, by decide +kernel, rfl, by decide +kernel, by decide +kernel⟩
abbrev N_caps : List Str := ["kinds", "lot", "kind"]
theorem sc_caps : FnScope N_caps ["kinds"] (defScope (topS 20)) := ⟨rfl, rfl, rfl, by decide +kernel, rfl, by decide +kernel, by decide +kernel⟩
abbrev N_with_one : List Str := ["counts", "kind"]
theorem sc_with_one : FnScope N_with_one ["counts", "kind"] (defScope (topS 21)) := ⟨rfl, rfl, rfl, by decide +kernel, rfl, by decide +kernel, by decide +kernel⟩
abbrev N_capped : List Str := ["kinds", "counts", "count", "most"]
theorem sc_capped : FnScope N_capped ["kinds", "counts"] (defScope (topS 22)) := ⟨rfl, rfl, rfl, by decide +kernel, rfl, by decide +kernel, by decide +kernel⟩
abbrev N_step : List Str := ["kinds", "counts", "kind", "later", "lot"]
theorem sc_step : FnScope N_step ["kinds", "counts", "kind"] (defScope (topS 23)) := ⟨rfl, rfl, rfl, by decide +kernel, rfl, by decide +kernel, by decide +kernel⟩
abbrev N_run : List Str := ["kinds", "state", "row", "found", "kind", "flag"]
theorem sc_run : FnScope N_run ["kinds", "state", "row"] (defScope (topS 24)) := ⟨rfl, rfl, rfl, by decide +kernel, rfl, by decide +kernel, by decide +kernel⟩
abbrev N_entered_in : List Str := ["kinds", "row"]
theorem sc_entered_in : FnScope N_entered_in ["kinds", "row"] (defScope (topS 25)) := ⟨rfl, rfl, rfl, by decide +kernel, rfl, by decide +kernel, by decide +kernel⟩
abbrev N_entered : List Str := ["kinds", "row"]
theorem sc_entered : FnScope N_entered ["kinds", "row"] (defScope (topS 26)) := ⟨rfl, rfl, rfl, by decide +kernel, rfl, by decide +kernel, by decide +kernel⟩
abbrev N_unlike_row : List Str := ["one", "other", "start", "known", "waiting", "done", "pair", "row", "kind", "first", "second", "goal"]
theorem sc_unlike_row : FnScope N_unlike_row ["one", "other"] (defScope (topS 27)) := ⟨rfl, rfl, rfl, by decide +kernel, rfl, by decide +kernel, by decide +kernel⟩
abbrev N_law_hand : List Str := ["script", "cells", "cell"]
theorem sc_law_hand : FnScope N_law_hand ["script"] (defScope (topS 29)) := ⟨rfl, rfl, rfl, by decide +kernel, rfl, by decide +kernel, by decide +kernel⟩
abbrev N_law_draw : List Str := ["hand", "many", "cell", "digit", "number"]
theorem sc_law_draw : FnScope N_law_draw ["hand", "many"] (defScope (topS 30)) := ⟨rfl, rfl, rfl, by decide +kernel, rfl, by decide +kernel, by decide +kernel⟩
abbrev N_law_is : List Str := ["told", "due", "one", "two"]
theorem sc_law_is : FnScope N_law_is ["told", "due"] (defScope (topS 31)) := ⟨rfl, rfl, rfl, by decide +kernel, rfl, by decide +kernel, by decide +kernel⟩
abbrev N_law_flag : List Str := ["told", "due"]
theorem sc_law_flag : FnScope N_law_flag ["told", "due"] (defScope (topS 32)) := ⟨rfl, rfl, rfl, by decide +kernel, rfl, by decide +kernel, by decide +kernel⟩
abbrev N_law_are_below : List Str := ["one", "other", "k"]
theorem sc_law_are_below : FnScope N_law_are_below ["one", "other"] (defScope (topS 33)) := ⟨rfl, rfl, rfl, by decide +kernel, rfl, by decide +kernel, by decide +kernel⟩
abbrev N_law_counts : List Str := ["hand", "many", "found", "k"]
theorem sc_law_counts : FnScope N_law_counts ["hand", "many"] (defScope (topS 34)) := ⟨rfl, rfl, rfl, by decide +kernel, rfl, by decide +kernel, by decide +kernel⟩
abbrev N_law_kind_lots : List Str := ["hand", "many", "most", "drawn", "turn", "found", "one", "other"]
theorem sc_law_kind_lots : FnScope N_law_kind_lots ["hand", "many", "most"] (defScope (topS 35)) := ⟨rfl, rfl, rfl, by decide +kernel, rfl, by decide +kernel, by decide +kernel⟩
abbrev N_law_step : List Str := ["lots", "counts", "kind", "more", "lot"]
theorem sc_law_step : FnScope N_law_step ["lots", "counts", "kind"] (defScope (topS 36)) := ⟨rfl, rfl, rfl, by decide +kernel, rfl, by decide +kernel, by decide +kernel⟩
abbrev N_law_caps : List Str := ["many", "lots", "lot", "k"]
theorem sc_law_caps : FnScope N_law_caps ["many", "lots"] (defScope (topS 37)) := ⟨rfl, rfl, rfl, by decide +kernel, rfl, by decide +kernel, by decide +kernel⟩
abbrev N_law_capped : List Str := ["counts", "caps_v", "k"]
theorem sc_law_capped : FnScope N_law_capped ["counts", "caps_v"] (defScope (topS 38)) := ⟨rfl, rfl, rfl, by decide +kernel, rfl, by decide +kernel, by decide +kernel⟩
abbrev N_law_other_lots : List Str := ["hand", "many", "lots", "kind", "at", "found", "lot", "more", "k", "least", "one", "other"]
theorem sc_law_other_lots : FnScope N_law_other_lots ["hand", "many", "lots"] (defScope (topS 39)) := ⟨rfl, rfl, rfl, by decide +kernel, rfl, by decide +kernel, by decide +kernel⟩
abbrev N_law_parting : List Str := ["many", "lots", "others", "caps_v", "begin_v", "known", "waiting", "turn", "state", "row", "kind", "one", "first", "two", "second", "there"]
theorem sc_law_parting : FnScope N_law_parting ["many", "lots", "others"] (defScope (topS 40)) := ⟨rfl, rfl, rfl, by decide +kernel, rfl, by decide +kernel, by decide +kernel⟩
abbrev N_law : List Str := ["script", "hand", "many", "lots", "others", "one", "other", "due", "told"]
theorem sc_law : FnScope N_law ["script"] (defScope (topS 41)) := ⟨rfl, rfl, rfl, by decide +kernel, rfl, by decide +kernel, by decide +kernel⟩
structure FxC_Kinds (K : PySem.W.Frag) (mg : Str → Option Value) (C : Addr) : Prop where
  cl : Cls K C
  mgC : mg "Kinds" = some (.ref C)
  ic : C8.InsC K C
  n_many : NoAttr K C "many"
  n_lots : NoAttr K C "lots"
  init : ∃ f fd, Fun K "__init__" "Kinds.__init__" (inClass (topS 16) 0) f fd ∧ Mk K C f
  m_eq : ∃ f fd, Fun K "__eq__" "Kinds.__eq__" (inClass (topS 16) 1) f fd ∧ PySem.W.findIn K (.ref C) "__eq__" = some (some (.ref f)) ∧ PySem.W.isFn K (.ref f) = true
structure Fx (K : PySem.W.Frag) (mg : Str → Option Value) (CKinds : Addr) : Prop where
  f_is_integer : ∃ f fd, Fun K "is_integer" "is_integer" (topS 6) f fd ∧ mg "is_integer" = some (.ref f)
  f_is_within : ∃ f fd, Fun K "is_within" "is_within" (topS 7) f fd ∧ mg "is_within" = some (.ref f)
  f_is_counts : ∃ f fd, Fun K "is_counts" "is_counts" (topS 13) f fd ∧ mg "is_counts" = some (.ref f)
  f_is_at_most : ∃ f fd, Fun K "is_at_most" "is_at_most" (topS 14) f fd ∧ mg "is_at_most" = some (.ref f)
  f_first_wrong_counts : ∃ f fd, Fun K "first_wrong_counts" "first_wrong_counts" (topS 15) f fd ∧ mg "first_wrong_counts" = some (.ref f)
  f_is_row_of : ∃ f fd, Fun K "is_row_of" "is_row_of" (topS 17) f fd ∧ mg "is_row_of" = some (.ref f)
  f_check_row : ∃ f fd, Fun K "check_row" "check_row" (topS 18) f fd ∧ mg "check_row" = some (.ref f)
  f_begin : ∃ f fd, Fun K "begin" "begin" (topS 19) f fd ∧ mg "begin" = some (.ref f)
  f_caps : ∃ f fd, Fun K "caps" "caps" (topS 20) f fd ∧ mg "caps" = some (.ref f)
  f_with_one : ∃ f fd, Fun K "with_one" "with_one" (topS 21) f fd ∧ mg "with_one" = some (.ref f)
  f_capped : ∃ f fd, Fun K "capped" "capped" (topS 22) f fd ∧ mg "capped" = some (.ref f)
  f_step : ∃ f fd, Fun K "step" "step" (topS 23) f fd ∧ mg "step" = some (.ref f)
  f_run : ∃ f fd, Fun K "run" "run" (topS 24) f fd ∧ mg "run" = some (.ref f)
  f_entered_in : ∃ f fd, Fun K "entered_in" "entered_in" (topS 25) f fd ∧ mg "entered_in" = some (.ref f)
  f_entered : ∃ f fd, Fun K "entered" "entered" (topS 26) f fd ∧ mg "entered" = some (.ref f)
  f_unlike_row : ∃ f fd, Fun K "unlike_row" "unlike_row" (topS 27) f fd ∧ mg "unlike_row" = some (.ref f)
  f_law_hand : ∃ f fd, Fun K "_law_hand" "_law_hand" (topS 29) f fd ∧ mg "_law_hand" = some (.ref f)
  f_law_draw : ∃ f fd, Fun K "_law_draw" "_law_draw" (topS 30) f fd ∧ mg "_law_draw" = some (.ref f)
  f_law_is : ∃ f fd, Fun K "_law_is" "_law_is" (topS 31) f fd ∧ mg "_law_is" = some (.ref f)
  f_law_flag : ∃ f fd, Fun K "_law_flag" "_law_flag" (topS 32) f fd ∧ mg "_law_flag" = some (.ref f)
  f_law_are_below : ∃ f fd, Fun K "_law_are_below" "_law_are_below" (topS 33) f fd ∧ mg "_law_are_below" = some (.ref f)
  f_law_counts : ∃ f fd, Fun K "_law_counts" "_law_counts" (topS 34) f fd ∧ mg "_law_counts" = some (.ref f)
  f_law_kind_lots : ∃ f fd, Fun K "_law_kind_lots" "_law_kind_lots" (topS 35) f fd ∧ mg "_law_kind_lots" = some (.ref f)
  f_law_step : ∃ f fd, Fun K "_law_step" "_law_step" (topS 36) f fd ∧ mg "_law_step" = some (.ref f)
  f_law_caps : ∃ f fd, Fun K "_law_caps" "_law_caps" (topS 37) f fd ∧ mg "_law_caps" = some (.ref f)
  f_law_capped : ∃ f fd, Fun K "_law_capped" "_law_capped" (topS 38) f fd ∧ mg "_law_capped" = some (.ref f)
  f_law_other_lots : ∃ f fd, Fun K "_law_other_lots" "_law_other_lots" (topS 39) f fd ∧ mg "_law_other_lots" = some (.ref f)
  f_law_parting : ∃ f fd, Fun K "_law_parting" "_law_parting" (topS 40) f fd ∧ mg "_law_parting" = some (.ref f)
  f_law : ∃ f fd, Fun K "law" "law" (topS 41) f fd ∧ mg "law" = some (.ref f)
  z_abs : mg "abs" = none
  z_all : mg "all" = none
  z_any : mg "any" = none
  z_bool : mg "bool" = none
  z_enumerate : mg "enumerate" = none
  z_int : mg "int" = none
  z_isinstance : mg "isinstance" = none
  z_len : mg "len" = none
  z_list : mg "list" = none
  z_max : mg "max" = none
  z_min : mg "min" = none
  z_range : mg "range" = none
  z_set : mg "set" = none
  z_sorted : mg "sorted" = none
  z_sum : mg "sum" = none
  z_tuple : mg "tuple" = none
  z_zip : mg "zip" = none
  k_MOST_KINDS : ∃ t, mg "MOST_KINDS" = some (.int 3 t)
  k_MOST_COUNT : ∃ t, mg "MOST_COUNT" = some (.int 4 t)
  k_MOST_LOTS : ∃ t, mg "MOST_LOTS" = some (.int 12 t)
  k_MOST_ROW : ∃ t, mg "MOST_ROW" = some (.int 200 t)
  c_Kinds : FxC_Kinds K mg CKinds
end K80
namespace K80
open PySem PySem.Spec PyProof.Rows L2 DV
section
variable {P : Program} {w : World} {K : PySem.W.Frag} {mg : Str → Option Value} {base : Heap} {C : Addr}
def rIsInteger : List D → D → Prop := fun ds d => ∃ i, ds = [.int i] ∧ d = .bl true
theorem h_is_integer (E : Fx K mg C) : HasF P w K mg base "is_integer" 1 (spP K 1 rIsInteger) := by
  refine has_of (ps := ["thing"]) E.f_is_integer (fun f fd F => fun_P F sc_is_integer rfl fun cdv A outer s H Ex M ds d hr hR hn => ?_) (fun _ _ _ _ _ _ us hl => match us, hl with | [_], _ => rfl)
  obtain ⟨i, rfl, rfl⟩ := hR
  exact rss_one (rst_ret (re_and (re_isi "int" true E.z_isinstance E.z_int (re_var 0 rfl)) fun _ => re_one (re_not (re_isi "bool" false E.z_isinstance E.z_bool (re_var 0 rfl)))) rfl)
def within (i a b : Int) : Bool := decide (a ≤ i) && decide (i ≤ b)
def rWithin : List D → D → Prop := fun ds d => ∃ i a b, ds = [.int i, .int a, .int b] ∧ d = .bl (within i a b)
theorem h_is_within (E : Fx K mg C) : HasF P w K mg base "is_within" 2 (spP K 3 rWithin) := by
  refine has_of (ps := ["thing", "least", "most"]) E.f_is_within (fun f fd F => fun_P F sc_is_within rfl fun cdv A outer s H Ex M ds d hr hR hn => ?_) (fun _ _ _ _ _ _ us hl => match us, hl with | [_, _, _], _ => rfl)
  obtain ⟨i, a, b, rfl, rfl⟩ := hR
  exact rss_one (rst_ret (re_and (k := true) (re_call (h_is_integer E) hr (ra_cons (re_var 0 rfl) ra_nil) ⟨i, rfl, rfl⟩) fun hk => re_one (re_chain (re_var 1 rfl) (re_var 0 rfl) od_le (re_var 2 rfl) od_le)) (by simp [RetIs, within]))
def isCounts (xs : List Int) : Bool := (xs.all fun x => within x 0 4) && decide (1 < xs.sum)
def rIsCounts : List D → D → Prop := fun ds d => ∃ xs : List Int, xs.length ≤ 100 ∧ ds = [.int xs.length, encT xs] ∧ d = .bl (isCounts xs)
theorem h_is_counts (E : Fx K mg C) : HasF P w K mg base "is_counts" 3 (spP K 2 rIsCounts) := by
  refine has_of (ps := ["many", "thing"]) E.f_is_counts (fun f fd F => fun_P F sc_is_counts rfl fun cdv A outer s H Ex M ds d hr hR hn => ?_) (fun _ _ _ _ _ _ us hl => match us, hl with | [_, _], _ => rfl)
  obtain ⟨xs, hx, rfl, rfl⟩ := hR
  obtain ⟨t4, h4⟩ := E.k_MOST_COUNT
  refine rss_cons (rst_if (k := false) ((rw_or (k := false) (k' := false) (rt_not (k := true) (rt_val (re_isi "tuple" true E.z_isinstance E.z_tuple (re_var 1 rfl)))) fun _ => rw_or1 ((rt_cmp (re_callB E.z_len (ra_cons (re_var 1 rfl) ra_nil) cd_lenT) (re_var 0 rfl) od_neI).to (by simp))).rt) nofun fun _ => rss_nil ?_)
  refine rss_one (rst_ret (re_and (re_all (xs := xs) (g := fun x => within x 0 4) E.z_all rfl sc_is_counts.nd (lc_map [("count", 2)] (gName 2) xs .int _ (ri_tup (re_var 1 rfl)) (by omega) (fun s H C cl fp => pg_name sc_is_counts.nd rfl (Or.inl rfl)) fun x hxm => ⟨_, gr_name 2, fun M' s H0 C' cl fp => ?_⟩)) fun _ => re_one (re_cmp (re_callB E.z_sum (ra_cons (re_var 1 rfl) ra_nil) cd_sumT) re_int od_gt)) ?_)
  · exact re_call (h_is_within E) hr (ra_cons (re_var 2 rfl) (ra_cons re_int (ra_cons (re_gint h4) ra_nil))) ⟨x, 0, 4, rfl, rfl⟩
  · rfl
def leZ (xs ys : List Int) : Bool := (xs.zip ys).all fun p => decide (p.1 ≤ p.2)
def rIsAtMost : List D → D → Prop := fun ds d => ∃ xs ys : List Int, xs.length ≤ 100 ∧ ds = [encT xs, encT ys] ∧ d = .bl (leZ xs ys)
theorem h_is_at_most (E : Fx K mg C) : HasF P w K mg base "is_at_most" 1 (spP K 2 rIsAtMost) := by
  refine has_of (ps := ["one", "other"]) E.f_is_at_most (fun f fd F => fun_P F sc_is_at_most rfl fun cdv A outer s H Ex M ds d hr hR hn => ?_) (fun _ _ _ _ _ _ us hl => match us, hl with | [_, _], _ => rfl)
  obtain ⟨xs, ys, hx, rfl, rfl⟩ := hR
  refine rss_one (rst_ret (re_all (xs := xs.zip ys) (g := fun p => decide (p.1 ≤ p.2)) E.z_all rfl sc_is_at_most.nd (lc_map [("count", 2), ("most", 3)] (gTup _ 2 (gCons (gName 2) (gCons (gName 3) gNil))) (xs.zip ys) (fun p => .tup [.int p.1, .int p.2]) _ (ri_to (ri_zipT E.z_zip (re_var 0 rfl) (re_var 1 rfl)) (zipD_maps _ _ _ _)) (by rw [List.length_zip]; omega) (fun s H C cl fp => pg_tup rfl (pgs_cons (pg_name sc_is_at_most.nd rfl (Or.inl rfl)) (pgs_cons (pg_name sc_is_at_most.nd rfl (Or.inl rfl)) pgs_nil))) fun x hxm => ⟨_, gr_tup2 (gr_name 2) (gr_name 3), fun M' s H0 C' cl fp => ?_⟩)) rfl)
  · exact re_cmp (re_var 2 rfl) (re_var 3 rfl) od_le
end
end K80
namespace K80
open PySem PySem.Spec PyProof.Rows L2 DV
theorem atI_nat {α : Type} {xs : List α} {i : Nat} {x : α} (h : xs[i]? = some x) : atI xs (i : Int) = some x := by
  have hi : i < xs.length := (List.getElem?_eq_some_iff.mp h).1
  unfold atI ixN
  rw [if_pos (by omega), if_pos (by omega)]
  show xs[(i : Int).toNat]? = some x
  rw [Int.toNat_natCast]; exact h
theorem atI_nat' {α : Type} {xs : List α} {i : Nat} {j : Int} {x : α} (h : xs[i]? = some x) (e : j = (i : Int)) : atI xs j = some x := e ▸ atI_nat h
theorem cut_take {α : Type} {xs : List α} {i : Nat} (h : i ≤ xs.length) : cutL xs none (some (i : Int)) = xs.take i := by
  unfold cutL
  rw [HT.sIx_none, HT.sIx_nat, List.drop_zero, Nat.sub_zero, Nat.min_eq_left h]
theorem cut_drop {α : Type} {xs : List α} {i : Nat} (h : i ≤ xs.length) : cutL xs (some (i : Int)) none = xs.drop i := by
  unfold cutL
  rw [HT.sIx_none, HT.sIx_nat, Nat.min_eq_left h]
  exact List.take_of_length_le (by rw [List.length_drop]; exact Nat.le_refl _)
theorem cut_drop' {α : Type} {xs : List α} {i : Nat} {j : Int} (h : i ≤ xs.length) (e : j = (i : Int)) : cutL xs (some j) none = xs.drop i := e ▸ cut_drop h
abbrev encTT (lots : List (List Int)) : D := .tup (lots.map encT)
/-- the lots as the books take them -/
structure Good (m : Nat) (lots : List (List Int)) : Prop where
  few : lots.length ≤ 12
  len : ∀ l ∈ lots, l.length = m
  cnt : ∀ l ∈ lots, isCounts l = true
  asc : ∀ (i : Nat) (a b : List Int), lots[i]? = some a → lots[i + 1]? = some b → HT.lexLt a b = true
  srt : lots.Pairwise fun a b => TS.code 5 a < TS.code 5 b
  apart : ∀ (i j : Nat) (a b : List Int), i < j → lots[i]? = some a → lots[j]? = some b → leZ a b = false ∧ leZ b a = false
section
variable {P : Program} {w : World} {K : PySem.W.Frag} {mg : Str → Option Value} {base : Heap} {C : Addr}
def rFirstWrong : List D → D → Prop := fun ds d => ∃ (m : Nat) (lots : List (List Int)), m ≤ 3 ∧ Good m lots ∧ ds = [.int m, encTT lots] ∧ d = .non
theorem h_first_wrong_counts (E : Fx K mg C) : HasF P w K mg base "first_wrong_counts" 4 (spP K 2 rFirstWrong) := by
  refine has_of (ps := ["many", "lots"]) E.f_first_wrong_counts (fun f fd F => fun_P F sc_first_wrong_counts rfl fun cdv A outer s H Ex M ds d hr hR hn => ?_) (fun _ _ _ _ _ _ us hl => match us, hl with | [_, _], _ => rfl)
  obtain ⟨m, lots, hm, hG, rfl, rfl⟩ := hR
  refine rss_cons (rst_for rfl PassesOwn.never (fun i δ ω => ω = [] ∧ ∃ a b c, δ = [some (.int m), some (encTT lots), a, b, c]) (ri_enumT E.z_enumerate (re_var 1 rfl)) ⟨rfl, none, none, none, rfl⟩ (fun i d δ' ω' hd hI => ?_) fun δ' ω' hI => rss_one (rst_ret re_non rfl))
  obtain ⟨rfl, a, b, c, rfl⟩ := hI
  obtain ⟨dl, hdl, rfl⟩ := enumD_get hd
  rw [List.getElem?_map] at hdl
  obtain ⟨lot, hlot, rfl⟩ := Option.map_eq_some_iff.mp hdl
  have hmem : lot ∈ lots := List.mem_of_getElem? hlot
  have hlen := hG.len lot hmem
  have hil : i < lots.length := (List.getElem?_eq_some_iff.mp hlot).1
  refine ⟨_, rg_tup2 rfl (rg_name 2 sc_first_wrong_counts.nd) (rg_name 3 sc_first_wrong_counts.nd), ?_⟩
  refine rss_cons (rst_if (k := false) (RW.rt ((rw_or (k := false) (k' := false) (rt_not (k := true) (rt_val ((re_call (h_is_counts E) hr (ra_cons (re_var 0 rfl) (ra_cons (re_var 3 rfl) ra_nil)) ⟨lot, by omega, by rw [hlen], rfl⟩).to (by rw [hG.cnt lot hmem])))) fun _ => rw_or1 (RW.rt ?_)))) nofun fun _ => rss_nil ?_)
  · by_cases h0 : i = 0
    · subst h0
      exact rw_and (k := false) (k' := false) ((rt_cmp (re_var 2 rfl) re_int od_gt).to (by simp)) nofun
    · obtain ⟨prev, hp⟩ : ∃ prev, lots[i - 1]? = some prev := ⟨_, List.getElem?_eq_getElem (by omega)⟩
      have hasc := hG.asc (i - 1) prev lot hp (by rw [show i - 1 + 1 = i by omega]; exact hlot)
      refine rw_and (k := true) (k' := false) ((rt_cmp (re_var 2 rfl) re_int od_gt).to (by simp; omega)) fun _ => rw_and1 (rt_not (k := true) ((rt_cmp (re_ix (re_var 1 rfl) (re_bin (re_var 2 rfl) re_int od_sub) (ix_T (d := encT prev) (atI_nat' (i := i - 1) (by rw [List.getElem?_map, hp]; rfl) (by omega)))) (re_var 3 rfl) (od_ltT hr.units0)).to hasc))
  · refine rss_one (rst_if (k := false) (rt_val ((re_any (xs := lots.take i) (g := fun o => leZ lot o || leZ o lot) E.z_any rfl sc_first_wrong_counts.nd (lc_map [("other", 4)] (gName 4) (lots.take i) encT _ (ri_to (ri_tup (re_slT (re_var 1 rfl) ro_none (ro_some (re_var 2 rfl)))) ?_) (by rw [List.length_take]; have := hG.few; omega) (fun s H C cl fp => pg_name sc_first_wrong_counts.nd rfl (Or.inl rfl)) fun x hxm => ⟨_, gr_name 4, fun M' s H0 C' cl fp => ?_⟩)).to ?_)) nofun fun _ => rss_nil ⟨rfl, _, _, _, rfl⟩)
    · rw [cutL_map, show ((0 + i : Nat) : Int) = (i : Int) by rw [Nat.zero_add], cut_take (by omega)]
    · have hxl := hG.len x (List.mem_of_mem_take hxm)
      exact re_or (re_call (h_is_at_most E) (hr.mono (by decide)) (ra_cons (re_var 3 rfl) (ra_cons (re_var 4 rfl) ra_nil)) ⟨lot, x, by omega, rfl, rfl⟩) fun _ => re_one (re_call (h_is_at_most E) (hr.mono (by decide)) (ra_cons (re_var 4 rfl) (ra_cons (re_var 3 rfl) ra_nil)) ⟨x, lot, by omega, rfl, rfl⟩)
    · congr 1
      rw [List.any_eq_false]
      intro o ho
      obtain ⟨j, hj⟩ := List.mem_iff_getElem?.mp ho
      rw [List.getElem?_take] at hj
      split at hj
      · obtain ⟨p, q⟩ := hG.apart j i o lot (by assumption) hj hlot
        rw [p, q]; decide
      · cases hj
end
end K80
namespace K80
open PySem PySem.Spec PyProof.Rows L2 DV
def kindsD (C : Addr) (m : Nat) (lots : List (List Int)) : D := .ins C [("many", .int m), ("lots", encTT lots)]
section
variable {P : Program} {w : World} {K : PySem.W.Frag} {mg : Str → Option Value} {base : Heap} {C : Addr}
def rKinds (C : Addr) : O → List D → D → O → Prop := fun ob ds d ob' => ∃ (m : Nat) (lots : List (List Int)), 1 ≤ m ∧ m ≤ 3 ∧ Good m lots ∧ ob = .ins C [] ∧ ds = [.int m, encTT lots] ∧ d = .non ∧ ob' = .ins C [("many", .int m), ("lots", encTT lots)]
theorem ok_Kinds (E : Fx K mg C) : ∃ f fd ps, Mk K C f ∧ FnOk P w K mg base CX0 5 f fd ps (spO K 3 (rKinds C)) ∧ mg "Kinds" = some (.ref C) ∧ Binds K fd ps [] := by
  obtain ⟨f, fd, F, mk⟩ := E.c_Kinds.init
  refine ⟨f, fd, ["self", "many", "lots"], mk, fun_O F sc_Kinds_init rfl fun cdv A outer s H Ex M a ob ds d ob' hr hR hn => ?_, E.c_Kinds.mgC, F.binds (fun _ _ _ _ _ _ us hl => match us, hl with | [_, _, _], _ => rfl)⟩
  obtain ⟨m, lots, h1, h3, hG, rfl, rfl, rfl, rfl⟩ := hR
  obtain ⟨t3, k3⟩ := E.k_MOST_KINDS
  obtain ⟨t12, k12⟩ := E.k_MOST_LOTS
  refine rss_cons (rst_if (k := false) (rt_not (k := true) (rt_val ((re_call (h_is_within E) (hr.mono (by decide)) (ra_cons (re_var 1 rfl) (ra_cons re_int (ra_cons (re_gint k3) ra_nil))) ⟨_, _, _, rfl, rfl⟩).to (by simp [within]; omega)))) nofun fun _ => rss_nil ?_)
  refine rss_cons (rst_if (k := false) (RW.rt (rw_or (k := false) (k' := false) (rt_not (k := true) (rt_val (re_isi "tuple" true E.z_isinstance E.z_tuple (re_var 2 rfl)))) fun _ => rw_or1 ((rt_cmp (re_callB E.z_len (ra_cons (re_var 2 rfl) ra_nil) cd_lenT) (re_gint k12) od_gt).to (by have := hG.few; simp; omega)))) nofun fun _ => rss_nil ?_)
  refine rss_cons (rst_set 3 sc_Kinds_init.nd (re_call (h_first_wrong_counts E) hr (ra_cons (re_var 1 rfl) (ra_cons (re_var 2 rfl) ra_nil)) ⟨m, lots, h3, hG, rfl, rfl⟩) ?_)
  refine rss_cons (rst_if (k := false) ((rt_cmp (re_var 3 rfl) re_non od_notN).to (by rfl)) nofun fun _ => rss_nil ?_)
  refine rss_cons (rst_fld 0 E.c_Kinds.cl E.c_Kinds.n_many (re_var 1 rfl) (re_var 0 rfl) rfl (by decide) ?_)
  refine rss_one (rst_fld 0 E.c_Kinds.cl E.c_Kinds.n_lots (re_var 2 rfl) (re_var 0 rfl) rfl (by simp [putD]) ⟨rfl, ?_⟩)
  exact List.mem_cons_self
def rKindsEq (C : Addr) : List D → D → Prop := fun ds d => ∃ (m n : Nat) (ls os : List (List Int)), ds = [kindsD C m ls, kindsD C n os] ∧ d = .bl (decide ((m : Int) = n) && decide (ls = os))
theorem pl_encTT {lots : List (List Int)} : Pl 64 (encTT lots) := (pl_tup (n := 1) fun d hd => by
  obtain ⟨l, _, rfl⟩ := List.mem_map.mp hd
  exact pl_ints).mono (by decide)
theorem h_Kinds_eq (E : Fx K mg C) : ∃ f fd ps, FnOk P w K mg base CX0 1 f fd ps (spP K 2 (rKindsEq C)) ∧ PySem.W.findIn K (.ref C) "__eq__" = some (some (.ref f)) ∧ PySem.W.isFn K (.ref f) = true ∧ Binds K fd ps [] := by
  obtain ⟨f, fd, F, h1, h2⟩ := E.c_Kinds.m_eq
  refine ⟨f, fd, ["self", "other"], fun_P F sc_Kinds_eq rfl fun cdv A outer s H Ex M ds d hr hR hn => ?_, h1, h2, F.binds (fun _ _ _ _ _ _ us hl => match us, hl with | [_, _], _ => rfl)⟩
  obtain ⟨m, n, ls, os, rfl, rfl⟩ := hR
  have cl := E.c_Kinds.cl
  have nm := E.c_Kinds.n_many
  have nl := E.c_Kinds.n_lots
  refine rss_one (rst_ret (re_and (k := true) (k' := decide ((m : Int) = n) && decide (ls = os)) (re_callB E.z_isinstance (ra_cons (re_var 1 rfl) (ra_cons (re_ref E.c_Kinds.mgC) ra_nil)) (cd_isiC E.c_Kinds.ic)) fun _ => re_and (re_cmp (re_fld cl nm (re_var 0 rfl) rfl) (re_fld cl nm (re_var 1 rfl) rfl) od_eqI) fun _ => re_one ((re_cmp (re_fld cl nl (re_var 0 rfl) rfl) (re_fld cl nl (re_var 1 rfl) rfl) (od_eq hr.units pl_encTT pl_encTT)).to (by rw [eqD_intss]))) rfl)
def rIsRowOf (C : Addr) : List D → D → Prop := fun ds d => ∃ (m : Nat) (lots : List (List Int)) (row : List Int), row.length ≤ 200 ∧ (∀ k ∈ row, 0 ≤ k ∧ k < m) ∧ ds = [kindsD C m lots, encT row] ∧ d = .bl true
theorem h_is_row_of (E : Fx K mg C) : HasF P w K mg base "is_row_of" 3 (spP K 2 (rIsRowOf C)) := by
  refine has_of (ps := ["kinds", "thing"]) E.f_is_row_of (fun f fd F => fun_P F sc_is_row_of rfl fun cdv A outer s H Ex M ds d hr hR hn => ?_) (fun _ _ _ _ _ _ us hl => match us, hl with | [_, _], _ => rfl)
  obtain ⟨m, lots, row, hl, hk, rfl, rfl⟩ := hR
  obtain ⟨t2, k2⟩ := E.k_MOST_ROW
  refine rss_cons (rst_if (k := false) (RW.rt (rw_or (k := false) (k' := false) (rt_not (k := true) (rt_val (re_isi "tuple" true E.z_isinstance E.z_tuple (re_var 1 rfl)))) fun _ => rw_or1 ((rt_cmp (re_callB E.z_len (ra_cons (re_var 1 rfl) ra_nil) cd_lenT) (re_gint k2) od_gt).to (by simp; omega)))) nofun fun _ => rss_nil ?_)
  refine rss_one (rst_ret (re_all (xs := row) (g := fun k => within k 0 ((m : Int) - 1)) E.z_all rfl sc_is_row_of.nd (lc_map [("kind", 2)] (gName 2) row .int _ (ri_tup (re_var 1 rfl)) (by omega) (fun s H C cl fp => pg_name sc_is_row_of.nd rfl (Or.inl rfl)) fun x hxm => ⟨_, gr_name 2, fun M' s H0 C' cl fp => ?_⟩)) ?_)
  · exact re_call (h_is_within E) hr (ra_cons (re_var 2 rfl) (ra_cons re_int (ra_cons (re_bin (re_fld E.c_Kinds.cl E.c_Kinds.n_many (re_var 0 rfl) rfl) re_int od_sub) ra_nil))) ⟨x, 0, _, rfl, rfl⟩
  · show D.bl _ = D.bl true
    congr 1
    rw [List.all_eq_true]
    intro k hk'
    have := hk k hk'
    simp [within]; omega
def rCheckRow (C : Addr) : List D → D → Prop := fun ds d => ∃ (m : Nat) (lots : List (List Int)) (row : List Int), row.length ≤ 200 ∧ (∀ k ∈ row, 0 ≤ k ∧ k < m) ∧ ds = [kindsD C m lots, encT row] ∧ d = .non
theorem h_check_row (E : Fx K mg C) : HasF P w K mg base "check_row" 4 (spP K 2 (rCheckRow C)) := by
  refine has_of (ps := ["kinds", "thing"]) E.f_check_row (fun f fd F => fun_P F sc_check_row rfl fun cdv A outer s H Ex M ds d hr hR hn => ?_) (fun _ _ _ _ _ _ us hl => match us, hl with | [_, _], _ => rfl)
  obtain ⟨m, lots, row, hl, hk, rfl, rfl⟩ := hR
  exact rss_one (rst_if (k := false) (rt_not (k := true) (rt_val (re_call (h_is_row_of E) hr (ra_cons (re_var 0 rfl) (ra_cons (re_var 1 rfl) ra_nil)) ⟨m, lots, row, hl, hk, rfl, rfl⟩))) nofun fun _ => rss_nil rfl)
def zeros (m : Nat) : List Int := List.replicate m 0
def rBegin (C : Addr) : List D → D → Prop := fun ds d => ∃ (m : Nat) (lots : List (List Int)), 1 ≤ m ∧ m ≤ 3 ∧ ds = [kindsD C m lots] ∧ d = encT (zeros m)
theorem flat_zeros (m : Nat) : (List.replicate m [D.int 0]).flatten = (zeros m).map .int := by
  induction m with
  | zero => rfl
  | succ m ih => rw [List.replicate_succ, List.flatten_cons, ih]; rfl
theorem h_begin (E : Fx K mg C) : HasF P w K mg base "begin" 1 (spP K 1 (rBegin C)) := by
  refine has_of (ps := ["kinds"]) E.f_begin (fun f fd F => fun_P F sc_begin rfl fun cdv A outer s H Ex M ds d hr hR hn => ?_) (fun _ _ _ _ _ _ us hl => match us, hl with | [_], _ => rfl)
  obtain ⟨m, lots, h1, h3, rfl, rfl⟩ := hR
  refine rss_one (rst_ret (re_bin (re_tup (ra_cons re_int ra_nil)) (re_fld E.c_Kinds.cl E.c_Kinds.n_many (re_var 0 rfl) rfl) (od_repT (by simp) (by omega) (by omega) (by simp))) ?_)
  show D.tup _ = _
  rw [Int.toNat_natCast, flat_zeros]
end
end K80
namespace K80
open PySem PySem.Spec PyProof.Rows L2 DV
def capsP (m : Nat) (lots : List (List Int)) : List Int := (List.range m).map fun k => maxI (lots.map (fun l => l.getD k 0) ++ [0])
def bump (c : List Int) (k : Nat) : List Int := c.take k ++ [c.getD k 0 + 1] ++ c.drop (k + 1)
def minZ (a b : Int) : Int := if b < a then b else a
def cap2 (c cs : List Int) : List Int := (c.zip cs).map fun p => minZ p.1 p.2
def hits (lots : List (List Int)) (c : List Int) : Bool := lots.any fun lot => leZ lot c
def stepP (m : Nat) (lots : List (List Int)) (c : List Int) (k : Nat) : Bool × List Int := if hits lots (bump c k) then (false, c) else (true, cap2 (bump c k) (capsP m lots))
theorem getD_some {xs : List Int} {k : Nat} (h : k < xs.length) : xs[k]? = some (xs.getD k 0) := by
  rw [List.getD_eq_getElem?_getD, List.getElem?_eq_getElem h]; rfl
theorem atI_int {xs : List Int} {k : Nat} (h : k < xs.length) : atI (xs.map D.int) (k : Int) = some (.int (xs.getD k 0)) := atI_nat (by rw [List.getElem?_map, getD_some h]; rfl)
theorem bump_len {c : List Int} {k : Nat} (h : k < c.length) : (bump c k).length = c.length := by
  unfold bump; simp; omega
section
variable {P : Program} {w : World} {K : PySem.W.Frag} {mg : Str → Option Value} {base : Heap} {C : Addr}
def rCaps (C : Addr) : List D → D → Prop := fun ds d => ∃ (m : Nat) (lots : List (List Int)), m ≤ 3 ∧ Good m lots ∧ ds = [kindsD C m lots] ∧ d = encT (capsP m lots)
theorem h_caps (E : Fx K mg C) : HasF P w K mg base "caps" 1 (spP K 1 (rCaps C)) := by
  refine has_of (ps := ["kinds"]) E.f_caps (fun f fd F => fun_P F sc_caps rfl fun cdv A outer s H Ex M ds d hr hR hn => ?_) (fun _ _ _ _ _ _ us hl => match us, hl with | [_], _ => rfl)
  obtain ⟨m, lots, h3, hG, rfl, rfl⟩ := hR
  have cl := E.c_Kinds.cl
  have nm := E.c_Kinds.n_many
  have nl := E.c_Kinds.n_lots
  have hf := hG.few
  refine rss_one (rst_ret (re_tupLc E.z_tuple rfl sc_caps.nd (lc_map [("kind", 2)] (gName 2) (List.range m) (fun i => .int (i : Int)) (fun k => .int (maxI (lots.map (fun l => l.getD k 0) ++ [0])))
    (ri_to (ri_range1 E.z_range (re_fld cl nm (re_var 0 rfl) rfl) (by omega) (by omega)) ?_) (by rw [List.length_range]; omega) (fun s H C cl fp => pg_name sc_caps.nd rfl (by first | exact Or.inl rfl | exact Or.inr rfl)) fun k hk => ⟨_, gr_name 2, fun M' s H0 C' cl' fp => ?_⟩)) ?_)
  · rw [Int.toNat_natCast, rangeD_map]
  · refine re_callB E.z_max (ra_cons (RN.re ((rn_bin (RN.re (rn_lc rfl sc_caps.nd (lc_map [("lot", 1)] (gName 1) lots encT (fun l : List Int => .int (l.getD k 0)) (ri_tup (re_fld cl nl (re_var 0 rfl) rfl)) (by omega) (fun s H C cl fp => pg_name sc_caps.nd rfl (Or.inl rfl)) fun l hl => ⟨_, gr_name 1, fun M2 s2 H2 C2 cl2 fp2 => ?_⟩))) (RN.re (rn_lst (ra_cons re_int ra_nil))) (on_cat ?_)).to (es := (lots.map (fun l : List Int => l.getD k 0) ++ [0]).map .int) ?_)) ra_nil) (cd_maxL (by simp))
    · exact re_ix (re_var 1 rfl) (re_var 2 rfl) (ix_T (atI_int (by rw [hG.len l hl]; exact List.mem_range.mp hk)))
    · simp; omega
    · simp
  · show D.tup _ = _
    unfold capsP
    simp [encT]
def rWithOne : List D → D → Prop := fun ds d => ∃ (c : List Int) (k : Nat), c.length ≤ 100 ∧ k < c.length ∧ ds = [encT c, .int k] ∧ d = encT (bump c k)
theorem h_with_one (E : Fx K mg C) : HasF P w K mg base "with_one" 1 (spP K 2 rWithOne) := by
  refine has_of (ps := ["counts", "kind"]) E.f_with_one (fun f fd F => fun_P F sc_with_one rfl fun cdv A outer s H Ex M ds d hr hR hn => ?_) (fun _ _ _ _ _ _ us hl => match us, hl with | [_, _], _ => rfl)
  obtain ⟨c, k, hc, hk, rfl, rfl⟩ := hR
  have e1 : cutL (c.map D.int) none (some (k : Int)) = (c.take k).map .int := by rw [cutL_map, cut_take (by omega)]
  have e2 : cutL (c.map D.int) (some ((k : Int) + 1)) none = (c.drop (k + 1)).map .int := by rw [cutL_map, cut_drop' (i := k + 1) (by omega) (by omega)]
  refine rss_one (rst_ret (re_bin (re_bin (re_slT (re_var 0 rfl) ro_none (ro_some (re_var 1 rfl))) (re_tup (ra_cons (re_bin (re_ix (re_var 0 rfl) (re_var 1 rfl) (ix_T (atI_int hk))) re_int od_add) ra_nil)) (od_catT ?_)) (re_slT (re_var 0 rfl) (ro_some (re_bin (re_var 1 rfl) re_int od_add)) ro_none) (od_catT ?_)) ?_)
  · rw [e1]; simp; omega
  · rw [e1, e2]; simp; omega
  · show D.tup _ = _
    rw [e1, e2]
    unfold bump
    simp [encT]
def rCapped (C : Addr) : List D → D → Prop := fun ds d => ∃ (m : Nat) (lots : List (List Int)) (c : List Int), m ≤ 3 ∧ Good m lots ∧ c.length = m ∧ ds = [kindsD C m lots, encT c] ∧ d = encT (cap2 c (capsP m lots))
theorem h_capped (E : Fx K mg C) : HasF P w K mg base "capped" 2 (spP K 2 (rCapped C)) := by
  refine has_of (ps := ["kinds", "counts"]) E.f_capped (fun f fd F => fun_P F sc_capped rfl fun cdv A outer s H Ex M ds d hr hR hn => ?_) (fun _ _ _ _ _ _ us hl => match us, hl with | [_, _], _ => rfl)
  obtain ⟨m, lots, c, h3, hG, hc, rfl, rfl⟩ := hR
  refine rss_one (rst_ret (re_tupLc E.z_tuple rfl sc_capped.nd (lc_map [("count", 2), ("most", 3)] (gTup _ 2 (gCons (gName 2) (gCons (gName 3) gNil))) (c.zip (capsP m lots)) (fun p => .tup [.int p.1, .int p.2]) (fun p => .int (minZ p.1 p.2)) (ri_to (ri_zipT E.z_zip (re_var 1 rfl) (re_call (h_caps E) hr (ra_cons (re_var 0 rfl) ra_nil) ⟨m, lots, h3, hG, rfl, rfl⟩)) (zipD_maps _ _ _ _)) (by rw [List.length_zip]; omega) (fun s H C cl fp => pg_tup rfl (pgs_cons (pg_name sc_capped.nd rfl (Or.inl rfl)) (pgs_cons (pg_name sc_capped.nd rfl (Or.inl rfl)) pgs_nil))) fun x hxm => ⟨_, gr_tup2 (gr_name 2) (gr_name 3), fun M' s H0 C' cl fp => ?_⟩)) ?_)
  · exact re_callB E.z_min (ra_cons (re_var 2 rfl) (ra_cons (re_var 3 rfl) ra_nil)) cd_min2
  · show D.tup _ = _
    unfold cap2
    simp [encT]
def encS (s : Bool × List Int) : D := .tup [.bl s.1, encT s.2]
def rStep (C : Addr) : List D → D → Prop := fun ds d => ∃ (m : Nat) (lots : List (List Int)) (c : List Int) (k : Nat), m ≤ 3 ∧ Good m lots ∧ c.length = m ∧ k < m ∧ ds = [kindsD C m lots, encT c, .int k] ∧ d = encS (stepP m lots c k)
theorem h_step (E : Fx K mg C) : HasF P w K mg base "step" 3 (spP K 3 (rStep C)) := by
  refine has_of (ps := ["kinds", "counts", "kind"]) E.f_step (fun f fd F => fun_P F sc_step rfl fun cdv A outer s H Ex M ds d hr hR hn => ?_) (fun _ _ _ _ _ _ us hl => match us, hl with | [_, _, _], _ => rfl)
  obtain ⟨m, lots, c, k, h3, hG, hc, hk, rfl, rfl⟩ := hR
  have hf := hG.few
  have hb : (bump c k).length = m := by rw [bump_len (by omega), hc]
  refine rss_cons (rst_set 3 sc_step.nd (re_call (h_with_one E) (hr.mono (by decide)) (ra_cons (re_var 1 rfl) (ra_cons (re_var 2 rfl) ra_nil)) ⟨c, k, by omega, by omega, rfl, rfl⟩) ?_)
  refine rss_cons (rst_if (k := hits lots (bump c k)) (rt_val (re_any (xs := lots) (g := fun lot => leZ lot (bump c k)) E.z_any rfl sc_step.nd (lc_map [("lot", 4)] (gName 4) lots encT _ (ri_tup (re_fld E.c_Kinds.cl E.c_Kinds.n_lots (re_var 0 rfl) rfl)) (by omega) (fun s H C cl fp => pg_name sc_step.nd rfl (Or.inl rfl)) fun l hl => ⟨_, gr_name 4, fun M' s H0 C' cl fp => ?_⟩))) (fun h => ?_) fun h => rss_nil ?_)
  · exact re_call (h_is_at_most E) (hr.mono (by decide)) (ra_cons (re_var 4 rfl) (ra_cons (re_var 3 rfl) ra_nil)) ⟨l, _, by rw [hG.len l hl]; omega, rfl, rfl⟩
  · refine rss_one (rst_ret (re_tup (ra_cons re_bl (ra_cons (re_var 1 rfl) ra_nil))) ?_)
    show _ = encS _
    unfold stepP; rw [if_pos h]; rfl
  · refine rss_one (rst_ret (re_tup (ra_cons re_bl (ra_cons (re_call (h_capped E) hr (ra_cons (re_var 0 rfl) (ra_cons (re_var 3 rfl) ra_nil)) ⟨m, lots, _, h3, hG, hb, rfl, rfl⟩) ra_nil))) ?_)
    show _ = encS _
    unfold stepP; rw [if_neg (by rw [h]; exact Bool.false_ne_true)]; rfl
end
end K80
namespace K80
open PySem PySem.Spec PyProof.Rows L2 DV
def runP (m : Nat) (lots : List (List Int)) (c : List Int) (row : List Nat) : List Bool × List Int :=
  row.foldl (fun p k => (p.1 ++ [(stepP m lots p.2 k).1], (stepP m lots p.2 k).2)) ([], c)
theorem runP_snoc (m : Nat) (lots : List (List Int)) (c : List Int) (row : List Nat) (k : Nat) :
    runP m lots c (row ++ [k]) = ((runP m lots c row).1 ++ [(stepP m lots (runP m lots c row).2 k).1], (stepP m lots (runP m lots c row).2 k).2) := by
  unfold runP; rw [List.foldl_append]; rfl
theorem capsP_len (m : Nat) (lots : List (List Int)) : (capsP m lots).length = m := by unfold capsP; rw [List.length_map, List.length_range]
theorem cap2_len {c cs : List Int} (h : c.length = cs.length) : (cap2 c cs).length = c.length := by unfold cap2; simp; omega
theorem stepP_len {m : Nat} {lots : List (List Int)} {c : List Int} {k : Nat} (h : c.length = m) (hk : k < m) : (stepP m lots c k).2.length = m := by
  unfold stepP
  split
  · exact h
  · show (cap2 _ _).length = m
    have := bump_len (c := c) (k := k) (by omega)
    rw [cap2_len (by rw [capsP_len]; omega)]; omega
theorem runP_len {m : Nat} {lots : List (List Int)} {c : List Int} (h : c.length = m) : ∀ {row : List Nat}, (∀ k ∈ row, k < m) → (runP m lots c row).2.length = m := by
  have key : ∀ (row : List Nat) (p : List Bool × List Int), p.2.length = m → (∀ k ∈ row, k < m) → (row.foldl (fun p k => (p.1 ++ [(stepP m lots p.2 k).1], (stepP m lots p.2 k).2)) p).2.length = m := by
    intro row
    induction row with
    | nil => intro p h _; exact h
    | cons k row ih => intro p h hk; exact ih _ (stepP_len h (hk k List.mem_cons_self)) fun x hx => hk x (List.mem_cons_of_mem _ hx)
  intro row hk
  exact key row _ h hk
theorem runP_flen {m : Nat} {lots : List (List Int)} {c : List Int} : ∀ {row : List Nat}, (runP m lots c row).1.length = row.length := by
  have key : ∀ (row : List Nat) (p : List Bool × List Int), (row.foldl (fun p k => (p.1 ++ [(stepP m lots p.2 k).1], (stepP m lots p.2 k).2)) p).1.length = p.1.length + row.length := by
    intro row
    induction row with
    | nil => intro p; rfl
    | cons k row ih => intro p; rw [List.foldl_cons, ih, List.length_append, List.length_cons, List.length_cons, List.length_nil]; omega
  intro row
  exact (key row _).trans (by simp)
theorem take_snoc {α : Type} {xs : List α} {i : Nat} {x : α} (h : xs[i]? = some x) : xs.take (i + 1) = xs.take i ++ [x] := by
  rw [List.take_add_one, h]; rfl
abbrev ofN (row : List Nat) : List Int := row.map fun k : Nat => (k : Int)
abbrev encR (row : List Nat) : D := encT (ofN row)
section
variable {P : Program} {w : World} {K : PySem.W.Frag} {mg : Str → Option Value} {base : Heap} {C : Addr}
def rRun (C : Addr) : List D → D → Prop := fun ds d => ∃ (m : Nat) (lots : List (List Int)) (c : List Int) (row : List Nat), m ≤ 3 ∧ Good m lots ∧ c.length = m ∧ row.length ≤ 200 ∧ (∀ k ∈ row, k < m) ∧ ds = [kindsD C m lots, encT c, encR row] ∧
  d = .tup [.lst ((runP m lots c row).1.map .bl), encT (runP m lots c row).2]
theorem h_run (E : Fx K mg C) : HasF P w K mg base "run" 4 (spP K 3 (rRun C)) := by
  refine has_of (ps := ["kinds", "state", "row"]) E.f_run (fun f fd F => fun_P F sc_run rfl fun cdv A outer s H Ex M ds d hr hR hn => ?_) (fun _ _ _ _ _ _ us hl => match us, hl with | [_, _, _], _ => rfl)
  obtain ⟨m, lots, c, row, h3, hG, hc, hl, hk, rfl, rfl⟩ := hR
  refine rss_cons (rst_setN 3 sc_run.nd (rn_lst ra_nil) fun p => ?_)
  refine rss_cons (rst_for rfl PassesOwn.never (fun i δ ω => ∃ a b, δ = [some (kindsD C m lots), some (encT (runP m lots c (row.take i)).2), some (encR row), some (.ptr p), a, b] ∧ ω = [(p, .lst ((runP m lots c (row.take i)).1.map .bl))])
    (ri_tup (re_var 2 rfl)) ⟨none, none, rfl, rfl⟩ (fun i d δ' ω' hd hI => ?_) fun δ' ω' hI => ?_)
  · obtain ⟨a, b, rfl, rfl⟩ := hI
    rw [List.getElem?_map, List.getElem?_map] at hd
    obtain ⟨k0, hk0, rfl⟩ := Option.map_eq_some_iff.mp hd
    obtain ⟨k, hki, rfl⟩ := Option.map_eq_some_iff.mp hk0
    have hkm := hk k (List.mem_of_getElem? hki)
    have hst : (runP m lots c (row.take i)).2.length = m := runP_len hc fun x hx => hk x (List.mem_of_mem_take hx)
    refine ⟨_, rg_name 4 sc_run.nd, ?_⟩
    refine rss_cons (rst_asg (re_call (h_step E) hr (ra_cons (re_var 0 rfl) (ra_cons (re_var 1 rfl) (ra_cons (re_var 4 rfl) ra_nil))) ⟨m, lots, _, k, h3, hG, hst, hkm, rfl, rfl⟩) (rg_tup2 rfl (rg_name 5 sc_run.nd) (rg_name 1 sc_run.nd)) ?_)
    refine rss_one (rst_expr (re_append (m := 0) 0 (re_var 3 rfl) rfl (re_var 5 rfl) rfl ?_) ?_)
    · rw [List.length_map, runP_flen, List.length_take]; omega
    · refine ⟨some (.int (k : Int)), some (.bl (stepP m lots (runP m lots c (row.take i)).2 k).1), ?_, ?_⟩
      · rw [take_snoc hki, runP_snoc]; rfl
      · rw [take_snoc hki, runP_snoc]
        simp
  · obtain ⟨a, b, rfl, rfl⟩ := hI
    have e : row.take (List.map D.int (ofN row)).length = row := List.take_of_length_le (by simp)
    rw [e]
    exact rss_one (rst_ret (re_tup (ra_cons (re_frz 0 (re_var 3 rfl) rfl) (ra_cons (re_var 1 rfl) ra_nil))) rfl)
def entP (m : Nat) (lots : List (List Int)) (row : List Nat) : List Bool := (runP m lots (zeros m) row).1
def rEnt (C : Addr) : List D → D → Prop := fun ds d => ∃ (m : Nat) (lots : List (List Int)) (row : List Nat), 1 ≤ m ∧ m ≤ 3 ∧ Good m lots ∧ row.length ≤ 200 ∧ (∀ k ∈ row, k < m) ∧ ds = [kindsD C m lots, encR row] ∧
  d = .lst ((entP m lots row).map .bl)
theorem h_entered_in (E : Fx K mg C) : HasF P w K mg base "entered_in" 5 (spP K 2 (rEnt C)) := by
  refine has_of (ps := ["kinds", "row"]) E.f_entered_in (fun f fd F => fun_P F sc_entered_in rfl fun cdv A outer s H Ex M ds d hr hR hn => ?_) (fun _ _ _ _ _ _ us hl => match us, hl with | [_, _], _ => rfl)
  obtain ⟨m, lots, row, h1, h3, hG, hl, hk, rfl, rfl⟩ := hR
  exact rss_one (rst_ret (re_ix (re_call (h_run E) hr (ra_cons (re_var 0 rfl) (ra_cons (re_call (h_begin E) (hr.mono (by decide)) (ra_cons (re_var 0 rfl) ra_nil) ⟨m, lots, h1, h3, rfl, rfl⟩) (ra_cons (re_var 1 rfl) ra_nil))) ⟨m, lots, zeros m, row, h3, hG, by simp [zeros], hl, hk, rfl, rfl⟩) re_int (ix_T rfl)) rfl)
theorem h_entered (E : Fx K mg C) : HasF P w K mg base "entered" 6 (spP K 2 (rEnt C)) := by
  refine has_of (ps := ["kinds", "row"]) E.f_entered (fun f fd F => fun_P F sc_entered rfl fun cdv A outer s H Ex M ds d hr hR hn => ?_) (fun _ _ _ _ _ _ us hl => match us, hl with | [_, _], _ => rfl)
  obtain ⟨m, lots, row, h1, h3, hG, hl, hk, rfl, rfl⟩ := hR
  refine rss_cons (rst_expr (re_call (h_check_row E) (hr.mono (by decide)) (ra_cons (re_var 0 rfl) (ra_cons (re_var 1 rfl) ra_nil)) ⟨m, lots, ofN row, by simpa using hl, fun k hk' => ?_, rfl, rfl⟩) ?_)
  · obtain ⟨x, hx, rfl⟩ := List.mem_map.mp hk'
    have := hk x hx
    omega
  · exact rss_one (rst_ret (re_call (h_entered_in E) hr (ra_cons (re_var 0 rfl) (ra_cons (re_var 1 rfl) ra_nil)) ⟨m, lots, row, h1, h3, hG, hl, hk, rfl, rfl⟩) rfl)
end
end K80
namespace K80
/-! the search by breadth, in plain Lean -/
theorem rev_ind {α : Type} {P : List α → Prop} (nil : P []) (append_singleton : ∀ a x, P a → P (a ++ [x])) (l : List α) : P l := by
  have h : ∀ r : List α, P r.reverse := by
    intro r
    induction r with
    | nil => exact nil
    | cons x r ih => rw [List.reverse_cons]; exact append_singleton _ _ ih
  have := h l.reverse
  rwa [List.reverse_reverse] at this
section
variable {S : Type} (f : S → Nat → Option S) (m : Nat)
def cd (w : List Nat) : Nat := w.foldl (fun a k => 4 * a + k + 1) 0
theorem cd_snoc (w : List Nat) (k : Nat) : cd (w ++ [k]) = 4 * cd w + k + 1 := by unfold cd; rw [List.foldl_append]; rfl
def go (s : S) (w : List Nat) : Option S := w.foldl (fun o k => o.bind fun s => f s k) (some s)
theorem go_snoc (s : S) (w : List Nat) (k : Nat) : go f s (w ++ [k]) = (go f s w).bind fun s => f s k := by unfold go; rw [List.foldl_append]; rfl
/-- the row parts: alike before its last place, unlike at it -/
def Hit (s : S) (w : List Nat) : Prop := ∃ v k s', w = v ++ [k] ∧ go f s v = some s' ∧ f s' k = none
def Ok (w : List Nat) : Prop := ∀ k ∈ w, k < m
def Best (s : S) : Option (List Nat) → Prop
  | none => ∀ w, Ok m w → ¬ Hit f s w
  | some w => Ok m w ∧ Hit f s w ∧ ∀ w', Ok m w' → Hit f s w' → cd w ≤ cd w'
variable {m}
theorem cd_inj (hm : m ≤ 3) : ∀ {a b : List Nat}, Ok m a → Ok m b → cd a = cd b → a = b := by
  intro a
  induction a using rev_ind with
  | nil =>
    intro b _ hb e
    rcases List.eq_nil_or_concat b with rfl | ⟨b', k, rfl⟩
    · rfl
    · rw [List.concat_eq_append] at *
      rw [cd_snoc] at e; exact absurd e (by show 0 ≠ _; omega)
  | append_singleton a x ih =>
    intro b ha hb e
    rcases List.eq_nil_or_concat b with rfl | ⟨b', k, rfl⟩
    · rw [cd_snoc] at e; exact absurd e (by show _ ≠ 0; omega)
    · rw [List.concat_eq_append] at *
      rw [cd_snoc, cd_snoc] at e
      have h1 := ha x (by simp)
      have h2 := hb k (by simp)
      have e1 : x = k := by omega
      subst e1
      have e2 : cd a = cd b' := by omega
      rw [ih (fun y hy => ha y (by simp [hy])) (fun y hy => hb y (by simp [hy])) e2]
variable {f}
theorem best_unique (hm : m ≤ 3) {s : S} : ∀ {r r' : Option (List Nat)}, Best f m s r → Best f m s r' → r = r'
  | none, none, _, _ => rfl
  | none, some w, h, h' => absurd h'.2.1 (h w h'.1)
  | some w, none, h, h' => absurd h.2.1 (h' w h.1)
  | some w, some w', h, h' => by rw [cd_inj hm h.1 h'.1 (Nat.le_antisymm (h.2.2 w' h'.1 h'.2.1) (h'.2.2 w h.1 h.2.1))]
theorem best_ex (s : S) : ∃ r, Best f m s r := by
  by_cases h : ∃ w, Ok m w ∧ Hit f s w
  · have key : ∀ n, (∃ w, Ok m w ∧ Hit f s w ∧ cd w = n) → ∃ w, Ok m w ∧ Hit f s w ∧ ∀ w', Ok m w' → Hit f s w' → cd w ≤ cd w' := by
      intro n
      induction n using Nat.strongRecOn with
      | ind n ih =>
        rintro ⟨w, h1, h2, h3⟩
        by_cases q : ∃ w', Ok m w' ∧ Hit f s w' ∧ cd w' < n
        · obtain ⟨w', a, b, c⟩ := q
          exact ih _ c ⟨w', a, b, rfl⟩
        · exact ⟨w, h1, h2, fun w' a b => Nat.le_of_not_lt fun c => q ⟨w', a, b, h3 ▸ c⟩⟩
    obtain ⟨w, h1, h2⟩ := h
    obtain ⟨w, h⟩ := key _ ⟨w, h1, h2, rfl⟩
    exact ⟨some w, h⟩
  · exact ⟨none, fun w h1 h2 => h ⟨w, h1, h2⟩⟩
/-- where the search stands: at the i-th that waits, before its letter k -/
structure At (f : S → Nat → Option S) (m : Nat) (s0 : S) (i k : Nat) (W : List (S × List Nat)) : Prop where
  rows : ∀ e ∈ W, go f s0 e.2 = some e.1 ∧ Ok m e.2
  mono : ∀ (a b : Nat) x y, a < b → W[a]? = some x → W[b]? = some y → cd x.2 < cd y.2 ∧ x.1 ≠ y.1
  zero : W[0]? = some (s0, [])
  upto : ∃ e, W[i]? = some e ∧ ∀ x ∈ W, cd x.2 < 4 * cd e.2 + k + 1
  done : ∀ (j : Nat) e, W[j]? = some e → ∀ l, l < m → (j < i ∨ (j = i ∧ l < k)) → ∃ g ∈ W, f e.1 l = some g.1 ∧ cd g.2 ≤ 4 * cd e.2 + l + 1
  long : ∀ (j : Nat) e, W[j]? = some e → e.2.length ≤ j
theorem at_start (s0 : S) : At f m s0 0 0 [(s0, [])] where
  rows := fun e he => by rw [List.mem_singleton] at he; subst he; exact ⟨rfl, fun k h => absurd h (by simp)⟩
  mono := fun a b x y h ha hb => by
    have := (List.getElem?_eq_some_iff.mp hb).1
    simp at this; omega
  zero := rfl
  upto := ⟨_, rfl, fun x hx => by rw [List.mem_singleton] at hx; subst hx; show cd [] < 4 * cd [] + 0 + 1; omega⟩
  done := fun j e he l hl h => by omega
  long := fun j e he => by
    have := List.mem_of_getElem? he
    rw [List.mem_singleton] at this; subst this; exact Nat.zero_le _
section
variable {s0 : S} {i k : Nat} {W : List (S × List Nat)} {e : S × List Nat}
theorem At.new (h : At f m s0 i k W) (he : W[i]? = some e) (hk : k < m) {g : S} (hf : f e.1 k = some g) (hg : ∀ x ∈ W, x.1 ≠ g) : At f m s0 i (k + 1) (W ++ [(g, e.2 ++ [k])]) := by
  obtain ⟨e', he', hu⟩ := h.upto
  rw [he] at he'; cases he'
  have hi : i < W.length := (List.getElem?_eq_some_iff.mp he).1
  have hem := List.mem_of_getElem? he
  obtain ⟨he1, he2⟩ := h.rows e hem
  have old : ∀ {j : Nat} {x : S × List Nat}, (W ++ [(g, e.2 ++ [k])])[j]? = some x → (j < W.length ∧ W[j]? = some x) ∨ (j = W.length ∧ x = (g, e.2 ++ [k])) := by
    intro j x hj
    by_cases q : j < W.length
    · rw [List.getElem?_append_left q] at hj; exact .inl ⟨q, hj⟩
    · rw [List.getElem?_append_right (by omega)] at hj
      have q2 : j = W.length := by
        have := (List.getElem?_eq_some_iff.mp hj).1
        simp at this; omega
      subst q2
      simp at hj
      exact .inr ⟨rfl, hj.symm⟩
  refine ⟨?_, ?_, ?_, ?_, ?_, ?_⟩
  · intro x hx
    rcases List.mem_append.mp hx with hx | hx
    · exact h.rows x hx
    · rw [List.mem_singleton] at hx; subst hx
      refine ⟨?_, fun y hy => ?_⟩
      · show go f s0 (e.2 ++ [k]) = some g
        rw [go_snoc, he1]; exact hf
      · rcases List.mem_append.mp hy with hy | hy
        · exact he2 y hy
        · rw [List.mem_singleton] at hy; omega
  · intro a b x y hab ha hb
    rcases old ha with ⟨q1, ha⟩ | ⟨q1, rfl⟩
    · rcases old hb with ⟨q2, hb⟩ | ⟨q2, rfl⟩
      · exact h.mono a b x y hab ha hb
      · refine ⟨?_, hg x (List.mem_of_getElem? ha)⟩
        show cd x.2 < cd (e.2 ++ [k])
        rw [cd_snoc]; exact hu x (List.mem_of_getElem? ha)
    · rcases old hb with ⟨q2, hb⟩ | ⟨q2, rfl⟩ <;> omega
  · have := h.zero
    rw [List.getElem?_append_left (by omega)]; exact this
  · refine ⟨e, by rw [List.getElem?_append_left hi]; exact he, fun x hx => ?_⟩
    rcases List.mem_append.mp hx with hx | hx
    · have := hu x hx; omega
    · rw [List.mem_singleton] at hx; subst hx
      show cd (e.2 ++ [k]) < _
      rw [cd_snoc]; omega
  · intro j x hj l hl hjl
    rcases old hj with ⟨q1, hj'⟩ | ⟨q1, rfl⟩
    · by_cases q : j = i ∧ l = k
      · obtain ⟨rfl, rfl⟩ := q
        rw [he] at hj'; cases hj'
        refine ⟨(g, e.2 ++ [l]), by simp, hf, ?_⟩
        show cd (e.2 ++ [l]) ≤ _
        rw [cd_snoc]; omega
      · obtain ⟨y, hy, a, b⟩ := h.done j x hj' l hl (by omega)
        exact ⟨y, List.mem_append_left _ hy, a, b⟩
    · omega
  · intro j x hj
    rcases old hj with ⟨q1, hj⟩ | ⟨q1, rfl⟩
    · exact h.long j x hj
    · have := h.long i e he
      show (e.2 ++ [k]).length ≤ j
      rw [List.length_append, List.length_singleton]; omega
theorem At.old (h : At f m s0 i k W) (he : W[i]? = some e) (hk : k < m) {x : S × List Nat} (hf : f e.1 k = some x.1) (hg : x ∈ W) : At f m s0 i (k + 1) W := by
  obtain ⟨e', he', hu⟩ := h.upto
  rw [he] at he'; cases he'
  refine ⟨h.rows, h.mono, h.zero, ⟨e, he, fun x hx => by have := hu x hx; omega⟩, fun j y hj l hl hjl => ?_, h.long⟩
  by_cases q : j = i ∧ l = k
  · obtain ⟨rfl, rfl⟩ := q
    rw [he] at hj; cases hj
    exact ⟨x, hg, hf, by have := hu x hg; omega⟩
  · exact h.done j y hj l hl (by omega)
theorem At.next (hm : m ≤ 3) (h : At f m s0 i m W) {e' : S × List Nat} (he : W[i + 1]? = some e') : At f m s0 (i + 1) 0 W := by
  obtain ⟨e, hei, hu⟩ := h.upto
  have hlt := (h.mono i (i + 1) e e' (by omega) hei he).1
  refine ⟨h.rows, h.mono, h.zero, ⟨e', he, fun x hx => by have := hu x hx; omega⟩, fun j y hj l hl hjl => h.done j y hj l hl (by omega), h.long⟩
/-- every word that runs below the i-th row ends in a state already seen -/
theorem At.seen (hm : m ≤ 3) (h : At f m s0 i k W) (he : W[i]? = some e) : ∀ (v : List Nat) (s : S), Ok m v → go f s0 v = some s → cd v < cd e.2 → ∃ (j : Nat) (x : S × List Nat), j < i ∧ W[j]? = some x ∧ x.1 = s ∧ cd x.2 ≤ cd v := by
  intro v
  induction v using rev_ind with
  | nil =>
    intro s _ hs hlt
    cases hs
    have hi : i ≠ 0 := by
      rintro rfl
      rw [h.zero] at he; cases he
      exact absurd hlt (Nat.lt_irrefl _)
    exact ⟨0, _, by omega, h.zero, rfl, Nat.le_refl _⟩
  | append_singleton v l ih =>
    intro s hok hs hlt
    rw [go_snoc] at hs
    obtain ⟨s1, hs1, hf⟩ := Option.bind_eq_some_iff.mp hs
    rw [cd_snoc] at hlt ⊢
    have hl : l < m := hok l (by simp)
    obtain ⟨j, x, hj, hx, rfl, hle⟩ := ih s1 (fun y hy => hok y (by simp [hy])) hs1 (by omega)
    obtain ⟨g, hg, e1, e2⟩ := h.done j x hx l hl (.inl hj)
    rw [hf] at e1
    obtain ⟨j2, hj2⟩ := List.mem_iff_getElem?.mp hg
    refine ⟨j2, g, ?_, hj2, (Option.some.inj e1).symm, by omega⟩
    rcases Nat.lt_trichotomy j2 i with q | q | q
    · exact q
    · subst q; rw [he] at hj2; cases hj2; omega
    · have := (h.mono i j2 e g q he hj2).1; omega
theorem At.found (hm : m ≤ 3) (h : At f m s0 i k W) (he : W[i]? = some e) (hk : k < m) (hf : f e.1 k = none) : Best f m s0 (some (e.2 ++ [k])) := by
  obtain ⟨he1, he2⟩ := h.rows e (List.mem_of_getElem? he)
  refine ⟨fun y hy => ?_, ⟨e.2, k, e.1, rfl, he1, hf⟩, fun w' hw' ⟨v, l, s', ew, hv, hfl⟩ => ?_⟩
  · rcases List.mem_append.mp hy with hy | hy
    · exact he2 y hy
    · rw [List.mem_singleton] at hy; omega
  · subst ew
    rw [cd_snoc, cd_snoc]
    have hl : l < m := hw' l (by simp)
    have hv' : Ok m v := fun y hy => hw' y (by simp [hy])
    by_cases q : cd v < cd e.2
    · obtain ⟨j, x, hj, hx, rfl, _⟩ := h.seen hm he v s' hv' hv q
      obtain ⟨g, _, e1, _⟩ := h.done j x hx l hl (.inl hj)
      rw [hfl] at e1; cases e1
    · by_cases q2 : cd v = cd e.2
      · have ev := cd_inj hm hv' he2 q2
        subst ev
        rw [he1] at hv; cases hv
        by_cases q3 : l < k
        · obtain ⟨g, _, e1, _⟩ := h.done i e he l hl (.inr ⟨rfl, q3⟩)
          rw [hfl] at e1; cases e1
        · omega
      · omega
theorem At.over (hm : m ≤ 3) (h : At f m s0 i m W) (hi : W.length ≤ i + 1) : Best f m s0 none := by
  have all : ∀ (v : List Nat) (s : S), Ok m v → go f s0 v = some s → ∃ (j : Nat) (x : S × List Nat), W[j]? = some x ∧ x.1 = s := by
    intro v
    induction v using rev_ind with
    | nil => intro s _ hs; cases hs; exact ⟨0, _, h.zero, rfl⟩
    | append_singleton v l ih =>
      intro s hok hs
      rw [go_snoc] at hs
      obtain ⟨s1, hs1, hf⟩ := Option.bind_eq_some_iff.mp hs
      obtain ⟨j, x, hx, rfl⟩ := ih s1 (fun y hy => hok y (by simp [hy])) hs1
      have hj := (List.getElem?_eq_some_iff.mp hx).1
      obtain ⟨g, hg, e1, _⟩ := h.done j x hx l (hok l (by simp)) (by have := hok l (by simp); omega)
      rw [hf] at e1
      obtain ⟨j2, hj2⟩ := List.mem_iff_getElem?.mp hg
      exact ⟨j2, g, hj2, (Option.some.inj e1).symm⟩
  rintro w hw ⟨v, l, s', rfl, hv, hf⟩
  obtain ⟨j, x, hx, rfl⟩ := all v s' (fun y hy => hw y (by simp [hy])) hv
  have hj := (List.getElem?_eq_some_iff.mp hx).1
  obtain ⟨g, _, e1, _⟩ := h.done j x hx l (hw l (by simp)) (by have := hw l (by simp); omega)
  rw [hf] at e1; cases e1
theorem At.nodup (h : At f m s0 i k W) : (W.map (·.1)).Nodup := by
  rw [List.nodup_iff_pairwise_ne, List.pairwise_iff_getElem]
  intro a b ha hb hab
  rw [List.getElem_map, List.getElem_map]
  rw [List.length_map] at ha hb
  exact (h.mono a b _ _ hab (List.getElem?_eq_getElem ha) (List.getElem?_eq_getElem hb)).2
end
/-- the same words part when states are told otherwise -/
theorem go_map {S' : Type} {f' : S' → Nat → Option S'} (π : S → S') (Q : S → Prop) (hQ : ∀ s k g, Q s → k < m → f s k = some g → Q g) (h : ∀ s k, Q s → k < m → f' (π s) k = (f s k).map π) {s : S} (hs : Q s) :
    ∀ {w : List Nat}, Ok m w → go f' (π s) w = (go f s w).map π ∧ ∀ g, go f s w = some g → Q g := by
  intro w
  induction w using rev_ind with
  | nil => intro _; exact ⟨rfl, fun g e => by cases e; exact hs⟩
  | append_singleton w k ih =>
    intro hw
    obtain ⟨a, b⟩ := ih fun y hy => hw y (by simp [hy])
    rw [go_snoc, go_snoc, a]
    cases q : go f s w with
    | none => exact ⟨rfl, fun g e => by cases e⟩
    | some t =>
      have hk := hw k (by simp)
      refine ⟨h t k (b t q) hk, fun g e => hQ t k g (b t q) hk e⟩
theorem hit_map {S' : Type} {f' : S' → Nat → Option S'} (π : S → S') (Q : S → Prop) (hQ : ∀ s k g, Q s → k < m → f s k = some g → Q g) (h : ∀ s k, Q s → k < m → f' (π s) k = (f s k).map π) {s : S} (hs : Q s) {w : List Nat} (hw : Ok m w) : Hit f' (π s) w ↔ Hit f s w := by
  constructor
  · rintro ⟨v, k, s', rfl, a, b⟩
    obtain ⟨c, d⟩ := go_map π Q hQ h hs (w := v) fun y hy => hw y (by simp [hy])
    rw [c] at a
    obtain ⟨t, ht, rfl⟩ := Option.map_eq_some_iff.mp a
    rw [h t k (d t ht) (hw k (by simp))] at b
    exact ⟨v, k, t, rfl, ht, Option.map_eq_none_iff.mp b⟩
  · rintro ⟨v, k, t, rfl, a, b⟩
    obtain ⟨c, d⟩ := go_map π Q hQ h hs (w := v) fun y hy => hw y (by simp [hy])
    rw [a] at c
    exact ⟨v, k, π t, rfl, c, by rw [h t k (d t a) (hw k (by simp)), b]; rfl⟩
theorem best_iff {S' : Type} {f' : S' → Nat → Option S'} {s : S} {s' : S'} (h : ∀ w, Ok m w → (Hit f' s' w ↔ Hit f s w)) : ∀ {r : Option (List Nat)}, Best f' m s' r ↔ Best f m s r
  | none => ⟨fun a w hw hh => a w hw ((h w hw).mpr hh), fun a w hw hh => a w hw ((h w hw).mp hh)⟩
  | some w => ⟨fun a => ⟨a.1, (h w a.1).mp a.2.1, fun w' hw hh => a.2.2 w' hw ((h w' hw).mpr hh)⟩, fun a => ⟨a.1, (h w a.1).mpr a.2.1, fun w' hw hh => a.2.2 w' hw ((h w' hw).mp hh)⟩⟩
end
theorem nodup_le {α : Type} [DecidableEq α] : ∀ {l m : List α}, l.Nodup → (∀ x ∈ l, x ∈ m) → l.length ≤ m.length
  | [], _, _, _ => Nat.zero_le _
  | x :: l, m, h, hs => by
    have hx := hs x List.mem_cons_self
    have ⟨h1, h2⟩ := List.nodup_cons.mp h
    have := nodup_le (l := l) (m := m.erase x) h2 fun y hy => (List.mem_erase_of_ne (fun e => h1 (by rw [← e]; exact hy))).mpr (hs y (List.mem_cons_of_mem _ hy))
    rw [List.length_erase_of_mem hx] at this
    have : 0 < m.length := List.length_pos_of_mem hx
    rw [List.length_cons]; omega
end K80
namespace K80
open PySem PySem.Spec PyProof.Rows L2 DV
/-! ### pairs of states -/
abbrev Pr := List Int × List Int
abbrev encP (s : Pr) : D := .tup [encT s.1, encT s.2]
def keyP (s : Pr) : NestedKey := .tup [.tup (s.1.map .num), .tup (s.2.map .num)]
theorem keyDs_num (xs : List Int) : keyDs (xs.map .num) = xs.map .int := by
  induction xs with
  | nil => unfold List.map keyDs; rfl
  | cons x xs ih => rw [List.map_cons, List.map_cons]; unfold keyDs keyD; rw [ih]
theorem keyD_pair (s : Pr) : keyD (keyP s) = encP s := by
  unfold keyP
  simp only [keyD, keyDs, keyDs_num]
theorem keyP_inj {s t : Pr} (h : keyP s = keyP t) : s = t := by
  unfold keyP at h
  injection h with h
  injection h with h1 h2
  injection h2 with h2 _
  injection h1 with h1
  injection h2 with h2
  have inj : ∀ {xs ys : List Int}, xs.map NestedKey.num = ys.map NestedKey.num → xs = ys := by
    intro xs
    induction xs with
    | nil => intro ys h; cases ys with | nil => rfl | cons y ys => cases h
    | cons x xs ih => intro ys h; cases ys with
      | nil => cases h
      | cons y ys => injection h with a b; injection a with a; rw [a, ih b]
  exact Prod.ext (inj h1) (inj h2)
theorem depth_nums (xs : List Int) : NestedKey.depthAll (xs.map .num) = 0 := by
  induction xs with
  | nil => simp only [List.map_nil, NestedKey.depthAll]
  | cons x xs ih => simp only [List.map_cons, NestedKey.depthAll, NestedKey.depth, ih]; rfl
theorem keyP_depth (s : Pr) : (keyP s).depth ≤ 8 := by
  unfold keyP
  simp only [NestedKey.depth, NestedKey.depthAll, depth_nums]; decide
theorem hasK_kvs (W : List (Pr × List Nat)) (s : Pr) : hasK (W.map fun e => (keyP e.1, D.bl true)) (keyP s) = W.any fun e => decide (e.1 = s) := by
  unfold hasK
  rw [List.any_map]
  congr 1
  funext e
  simp only [Function.comp]
  by_cases h : e.1 = s
  · rw [decide_eq_true h, decide_eq_true (congrArg keyP h)]
  · rw [decide_eq_false h, decide_eq_false fun z => h (keyP_inj z)]
/-! ### few states -/
def vecs : Nat → List (List Int)
  | 0 => [[]]
  | m + 1 => (vecs m).flatMap fun v => [0 :: v, 1 :: v, 2 :: v, 3 :: v, 4 :: v]
theorem vecs_len : ∀ m, (vecs m).length = 5 ^ m
  | 0 => rfl
  | m + 1 => by
    have key : ∀ l : List (List Int), (l.flatMap fun v => [0 :: v, 1 :: v, 2 :: v, 3 :: v, 4 :: v]).length = 5 * l.length := by
      intro l
      induction l with
      | nil => rfl
      | cons v l ih => rw [List.flatMap_cons, List.length_append, ih, List.length_cons]; simp; omega
    unfold vecs
    rw [key, vecs_len m, Nat.pow_succ, Nat.mul_comm]
def StOk (m : Nat) (c : List Int) : Prop := c.length = m ∧ ∀ x ∈ c, 0 ≤ x ∧ x ≤ 4
theorem vecs_mem : ∀ {m : Nat} {c : List Int}, StOk m c → c ∈ vecs m
  | 0, [], _ => by simp [vecs]
  | 0, x :: c, h => by have := h.1; simp at this
  | m + 1, [], h => by have := h.1; simp at this
  | m + 1, x :: c, h => by
    have h1 := h.2 x List.mem_cons_self
    have h2 : c ∈ vecs m := vecs_mem ⟨by have := h.1; simpa using this, fun y hy => h.2 y (List.mem_cons_of_mem _ hy)⟩
    unfold vecs
    rw [List.mem_flatMap]
    refine ⟨c, h2, ?_⟩
    have : x = 0 ∨ x = 1 ∨ x = 2 ∨ x = 3 ∨ x = 4 := by omega
    rcases this with rfl | rfl | rfl | rfl | rfl <;> simp
def pairs (m : Nat) : List Pr := (vecs m).flatMap fun a => (vecs m).map fun b => (a, b)
theorem pairs_len (m : Nat) : (pairs m).length = 5 ^ m * 5 ^ m := by
  have key : ∀ l r : List (List Int), (l.flatMap fun a => r.map fun b => (a, b)).length = l.length * r.length := by
    intro l r
    induction l with
    | nil => simp
    | cons v l ih => rw [List.flatMap_cons, List.length_append, ih, List.length_cons, List.length_map, Nat.succ_mul]; omega
  unfold pairs
  rw [key, vecs_len]
def PrOk (m : Nat) (s : Pr) : Prop := StOk m s.1 ∧ StOk m s.2
theorem pairs_mem {m : Nat} {s : Pr} (h : PrOk m s) : s ∈ pairs m := by
  unfold pairs
  rw [List.mem_flatMap]
  exact ⟨s.1, vecs_mem h.1, List.mem_map.mpr ⟨s.2, vecs_mem h.2, rfl⟩⟩
theorem few {f : Pr → Nat → Option Pr} {m : Nat} (hm : m ≤ 3) {s0 : Pr} {i k : Nat} {W : List (Pr × List Nat)} (h : At f m s0 i k W) (h0 : PrOk m s0) (hf : ∀ s k g, PrOk m s → k < m → f s k = some g → PrOk m g) :
    (∀ e ∈ W, PrOk m e.1) ∧ W.length ≤ 15625 := by
  have hok : ∀ e ∈ W, PrOk m e.1 := fun e he => by
    obtain ⟨a, b⟩ := h.rows e he
    exact (go_map (f' := f) id (PrOk m) hf (fun s k _ _ => by simp) h0 b).2 _ a
  refine ⟨hok, ?_⟩
  have := nodup_le (m := pairs m) h.nodup fun x hx => by
    obtain ⟨e, he, rfl⟩ := List.mem_map.mp hx
    exact pairs_mem (hok e he)
  rw [List.length_map, pairs_len] at this
  have h5 : 5 ^ m * 5 ^ m ≤ 15625 := by
    have : m = 0 ∨ m = 1 ∨ m = 2 ∨ m = 3 := by omega
    rcases this with rfl | rfl | rfl | rfl <;> decide
  omega
/-! ### the steps keep the states small -/
theorem foldmax_mem (P : Int → Prop) : ∀ (ns : List Int) (a : Int), P a → (∀ x ∈ ns, P x) → P (ns.foldl (fun a b => if b > a then b else a) a)
  | [], a, h, _ => h
  | n :: ns, a, h, hs => foldmax_mem P ns _ (by dsimp only; split <;> first | exact hs n List.mem_cons_self | exact h) fun x hx => hs x (List.mem_cons_of_mem _ hx)
theorem maxI_mem (P : Int → Prop) {ns : List Int} (hne : ns ≠ []) (h : ∀ x ∈ ns, P x) : P (maxI ns) := by
  unfold maxI
  cases ns with
  | nil => exact absurd rfl hne
  | cons n ns => exact foldmax_mem P _ _ (h n List.mem_cons_self) h
theorem isCounts_bd {l : List Int} (h : isCounts l = true) : ∀ x ∈ l, 0 ≤ x ∧ x ≤ 4 := by
  unfold isCounts at h
  have h1 := (Bool.and_eq_true_iff.mp h).1
  rw [List.all_eq_true] at h1
  intro x hx
  have := h1 x hx
  simpa [within] using this
theorem getD_bd {l : List Int} (h : ∀ x ∈ l, 0 ≤ x ∧ x ≤ 4) (k : Nat) : 0 ≤ l.getD k 0 ∧ l.getD k 0 ≤ 4 := by
  rw [List.getD_eq_getElem?_getD]
  cases q : l[k]? with
  | none => simp
  | some x => exact h x (List.mem_of_getElem? q)
theorem capsP_bd {m : Nat} {lots : List (List Int)} (hG : ∀ l ∈ lots, isCounts l = true) : ∀ x ∈ capsP m lots, 0 ≤ x ∧ x ≤ 4 := by
  intro x hx
  unfold capsP at hx
  obtain ⟨k, _, rfl⟩ := List.mem_map.mp hx
  refine maxI_mem (fun x => 0 ≤ x ∧ x ≤ 4) (by simp) fun y hy => ?_
  rcases List.mem_append.mp hy with hy | hy
  · obtain ⟨l, hl, rfl⟩ := List.mem_map.mp hy
    exact getD_bd (isCounts_bd (hG l hl)) k
  · rw [List.mem_singleton] at hy; subst hy; decide
theorem cap2_ok {m : Nat} {c cs : List Int} (hc : c.length = m) (h : ∀ x ∈ c, 0 ≤ x) (hl : cs.length = m) (hs : ∀ x ∈ cs, 0 ≤ x ∧ x ≤ 4) : StOk m (cap2 c cs) := by
  refine ⟨by rw [cap2_len (by omega)]; exact hc, fun x hx => ?_⟩
  unfold cap2 at hx
  obtain ⟨p, hp, rfl⟩ := List.mem_map.mp hx
  have h1 := h p.1 (List.of_mem_zip hp).1
  have h2 := hs p.2 (List.of_mem_zip hp).2
  unfold minZ
  split <;> omega
theorem bump_nn {c : List Int} {k : Nat} (h : ∀ x ∈ c, 0 ≤ x) : ∀ x ∈ bump c k, 0 ≤ x := by
  intro x hx
  unfold bump at hx
  simp only [List.mem_append, List.mem_singleton] at hx
  rcases hx with (hx | rfl) | hx
  · exact h x (List.mem_of_mem_take hx)
  · rw [List.getD_eq_getElem?_getD]
    cases q : c[k]? with
    | none => simp
    | some y => have := h y (List.mem_of_getElem? q); simp; omega
  · exact h x (List.mem_of_mem_drop hx)
theorem stepP_ok {m : Nat} {lots : List (List Int)} (hG : ∀ l ∈ lots, isCounts l = true) {c : List Int} {k : Nat} (hc : StOk m c) (hk : k < m) : StOk m (stepP m lots c k).2 := by
  unfold stepP
  split
  · exact hc
  · exact cap2_ok (by rw [bump_len (by rw [hc.1]; exact hk)]; exact hc.1) (bump_nn fun x hx => (hc.2 x hx).1) (capsP_len _ _) (capsP_bd hG)
def fP (m : Nat) (ls os : List (List Int)) (s : Pr) (k : Nat) : Option Pr := if (stepP m ls s.1 k).1 = (stepP m os s.2 k).1 then some ((stepP m ls s.1 k).2, (stepP m os s.2 k).2) else none
theorem fP_ok {m : Nat} {ls os : List (List Int)} (h1 : Good m ls) (h2 : Good m os) (s : Pr) (k : Nat) (g : Pr) (hs : PrOk m s) (hk : k < m) (h : fP m ls os s k = some g) : PrOk m g := by
  unfold fP at h
  split at h
  · cases h; exact ⟨stepP_ok h1.cnt hs.1 hk, stepP_ok h2.cnt hs.2 hk⟩
  · cases h
theorem zeros_ok (m : Nat) : StOk m (zeros m) := ⟨by simp [zeros], fun x hx => by
  have := List.eq_of_mem_replicate hx
  omega⟩
end K80
namespace K80
open PySem PySem.Spec PyProof.Rows L2 DV
abbrev encE (e : Pr × List Nat) : D := .tup [encP e.1, encR e.2]
abbrev kvW (W : List (Pr × List Nat)) : List (NestedKey × D) := W.map fun e => (keyP e.1, .bl true)
abbrev omW (P : Program) (w : World) (p q : Addr) (W : List (Pr × List Nat)) : Om := [(p, .lst (W.map encE)), (q, .dkn P w (kvW W))]
def encRes : Option (List Nat) → D
  | none => .non
  | some w => encR w
theorem key_tup (s : Pr) : ∃ ks, keyP s = .tup ks := ⟨_, rfl⟩
section
variable {P : Program} {w : World} {K : PySem.W.Frag} {mg : Str → Option Value} {base : Heap} {C : Addr}
def rUnlike (C : Addr) : List D → D → Prop := fun ds d => ∃ (m : Nat) (ls os : List (List Int)) (r : Option (List Nat)), 1 ≤ m ∧ m ≤ 3 ∧ Good m ls ∧ Good m os ∧ Best (fP m ls os) m (zeros m, zeros m) r ∧ ds = [kindsD C m ls, kindsD C m os] ∧ d = encRes r
theorem h_unlike_row (E : Fx K mg C) : HasF P w K mg base "unlike_row" 4 (spP K 2 (rUnlike C)) := by
  refine has_of (ps := ["one", "other"]) E.f_unlike_row (fun f fd F => fun_P F sc_unlike_row rfl fun cdv A outer s H Ex M ds d hr hR hn => ?_) (fun _ _ _ _ _ _ us hl => match us, hl with | [_, _], _ => rfl)
  obtain ⟨m, ls, os, r, h1, h3, hG1, hG2, hB, rfl, rfl⟩ := hR
  have cl := E.c_Kinds.cl
  have nm := E.c_Kinds.n_many
  have nd := sc_unlike_row.nd
  have hok0 : PrOk m (zeros m, zeros m) := ⟨zeros_ok m, zeros_ok m⟩
  have hu := hr.units
  refine rss_cons (rst_if (k := false) ((rt_cmp (re_fld cl nm (re_var 0 rfl) rfl) (re_fld cl nm (re_var 1 rfl) rfl) od_neI).to (by simp)) nofun fun _ => rss_nil ?_)
  refine rss_cons (rst_set 2 nd (re_tup (ra_cons (re_call (h_begin E) (hr.mono (by decide)) (ra_cons (re_var 0 rfl) ra_nil) ⟨m, ls, h1, h3, rfl, rfl⟩) (ra_cons (re_call (h_begin E) (hr.mono (by decide)) (ra_cons (re_var 1 rfl) ra_nil) ⟨m, os, h1, h3, rfl, rfl⟩) ra_nil))) ?_)
  refine rss_cons (rst_disp1 (k := keyP (zeros m, zeros m)) 3 nd hu (fun M' => (re_var 2 rfl).to (keyD_pair _).symm) (fun M' => re_bl) (key_tup _) (keyP_depth _) fun q => ?_)
  refine rss_cons (rst_setN 4 nd (rn_lst (ra_cons (re_tup (ra_cons (re_var 2 rfl) (ra_cons (re_tup ra_nil) ra_nil))) ra_nil)) fun p => ?_)
  refine rss_cons (rst_set 5 nd re_int ?_)
  refine rss_cons (rst_while PassesOwn.never (fun mm δ ω => ∃ (i : Nat) (W : List (Pr × List Nat)) (a6 a7 a8 a9 a10 a11 : Option D), mm = 20000 - i ∧
      ((At (fP m ls os) m (zeros m, zeros m) i 0 W ∧ i < W.length) ∨ (Best (fP m ls os) m (zeros m, zeros m) none ∧ W.length ≤ i)) ∧
      δ = [some (kindsD C m ls), some (kindsD C m os), some (encP (zeros m, zeros m)), some (.ptr q), some (.ptr p), some (.int (i : Int)), a6, a7, a8, a9, a10, a11] ∧ ω = omW P w p q W) 20000 ?_ ?_)
  · exact ⟨0, [((zeros m, zeros m), [])], none, none, none, none, none, none, rfl, .inl ⟨at_start _, by simp⟩, rfl, rfl⟩
  · rintro mm δ' ω' ⟨i, W, a6, a7, a8, a9, a10, a11, rfl, hW, rfl, rfl⟩
    refine ⟨decide ((i : Int) < ((W.map encE).length : Nat)), _, rt_cmp (re_var 5 rfl) (re_callB E.z_len (ra_cons (re_var 4 rfl) ra_nil) (cd_lenO 0 rfl)) od_lt, fun hb => ?_, fun hb => ?_⟩
    · have hi : i < W.length := by simpa using hb
      rcases hW with ⟨hW, _⟩ | ⟨_, hW⟩
      case inr => omega
      obtain ⟨e, he⟩ : ∃ e, W[i]? = some e := ⟨_, List.getElem?_eq_getElem hi⟩
      have hem := List.mem_of_getElem? he
      obtain ⟨hall, hfew⟩ := few h3 hW hok0 (fP_ok hG1 hG2)
      have hrow := hW.long i e he
      have heok := hall e hem
      have hrowm := (hW.rows e hem).2
      refine rss_cons (rst_asg (re_ix (re_var 4 rfl) (re_var 5 rfl) (ix_O 0 rfl (atI_nat (by rw [List.getElem?_map, he]; rfl)))) (rg_tup2 rfl (rg_name 6 nd) (rg_name 7 nd)) ?_)
      refine rss_cons (rst_aug 5 nd rfl re_int iod_add ?_)
      refine rss_one (rst_for rfl PassesOwn.never (fun k δ ω => ∃ (W : List (Pr × List Nat)) (a8 a9 a10 a11 : Option D), At (fP m ls os) m (zeros m, zeros m) i k W ∧ W[i]? = some e ∧
        δ = [some (kindsD C m ls), some (kindsD C m os), some (encP (zeros m, zeros m)), some (.ptr q), some (.ptr p), some (.int ((i : Int) + 1)), some (encP e.1), some (encR e.2), a8, a9, a10, a11] ∧ ω = omW P w p q W)
        (ri_to (ri_range1 E.z_range (re_fld cl nm (re_var 0 rfl) rfl) (by omega) (by omega)) (by rw [Int.toNat_natCast, rangeD_map])) ⟨W, a8, a9, a10, a11, hW, he, rfl, rfl⟩ (fun k d δ' ω' hd hI => ?_) fun δ' ω' hI => ?_)
      · obtain ⟨W, a8, a9, a10, a11, hW, he, rfl, rfl⟩ := hI
        obtain ⟨hall, hfew⟩ := few h3 hW hok0 (fP_ok hG1 hG2)
        rw [List.getElem?_map] at hd
        obtain ⟨k', hk', rfl⟩ := Option.map_eq_some_iff.mp hd
        have hkm : k < m := by have := (List.getElem?_eq_some_iff.mp hk').1; simpa using this
        rw [List.getElem?_range hkm] at hk'
        cases hk'
        refine ⟨_, rg_name 8 nd, ?_⟩
        refine rss_cons (rst_par 9 10 rfl nd (ra_cons (re_call (h_step E) hr (ra_cons (re_var 0 rfl) (ra_cons (re_ix (re_var 6 rfl) re_int (ix_T rfl)) (ra_cons (re_var 8 rfl) ra_nil))) ⟨m, ls, e.1.1, k, h3, hG1, heok.1.1, hkm, rfl, rfl⟩)
          (ra_cons (re_call (h_step E) hr (ra_cons (re_var 1 rfl) (ra_cons (re_ix (re_var 6 rfl) re_int (ix_T rfl)) (ra_cons (re_var 8 rfl) ra_nil))) ⟨m, os, e.1.2, k, h3, hG2, heok.2.1, hkm, rfl, rfl⟩) ra_nil)) ?_)
        refine rss_cons (rst_if (k := !decide ((stepP m ls e.1.1 k).1 = (stepP m os e.1.2 k).1)) ((rt_cmp (re_ix (re_var 9 rfl) re_int (ix_T rfl)) (re_ix (re_var 10 rfl) re_int (ix_T rfl)) (od_ne hr.units pl_bl pl_bl)).to (by rw [eqD_bl])) (fun hb => ?_) fun hb => rss_nil ?_)
        · have hne : fP m ls os e.1 k = none := by unfold fP; rw [if_neg (by simpa using hb)]
          have hr' := best_unique h3 hB (hW.found h3 he hkm hne)
          subst hr'
          refine rss_one (rst_ret (re_bin (re_var 7 rfl) (re_tup (ra_cons (re_var 8 rfl) ra_nil)) (od_catT ?_)) ?_)
          · simp; omega
          · show D.tup _ = D.tup _
            simp
        · have heq : fP m ls os e.1 k = some ((stepP m ls e.1.1 k).2, (stepP m os e.1.2 k).2) := by unfold fP; rw [if_pos (by simpa using hb)]
          refine rss_cons (rst_set 11 nd (re_tup (ra_cons (re_ix (re_var 9 rfl) re_int (ix_T rfl)) (ra_cons (re_ix (re_var 10 rfl) re_int (ix_T rfl)) ra_nil))) ?_)
          refine rss_one (rst_if (k := !hasK (kvW W) (keyP ((stepP m ls e.1.1 k).2, (stepP m os e.1.2 k).2))) (rt_cmp ((re_var 11 rfl).to (keyD_pair _).symm) (re_var 3 rfl) (od_notInDk 1 hr.units (key_tup _) (keyP_depth _) rfl)) (fun hb => ?_) fun hb => rss_nil ?_)
          · have hno : hasK (kvW W) (keyP ((stepP m ls e.1.1 k).2, (stepP m os e.1.2 k).2)) = false := by simpa using hb
            have hno' := hno
            rw [hasK_kvs, List.any_eq_false] at hno'
            refine rss_cons (rst_setDk 1 hr.units re_bl (re_var 3 rfl) ((re_var 11 rfl).to (keyD_pair _).symm) (key_tup _) (keyP_depth _) rfl hno (by rw [List.length_map]; omega) ?_)
            refine rss_one (rst_expr (re_append (m := 0) 0 (re_var 4 rfl) rfl (re_tup (ra_cons (re_var 11 rfl) (ra_cons (re_bin (re_var 7 rfl) (re_tup (ra_cons (re_var 8 rfl) ra_nil)) (od_catT (by simp; omega))) ra_nil))) rfl (by rw [List.length_map]; omega)) ?_)
            refine ⟨W ++ [(((stepP m ls e.1.1 k).2, (stepP m os e.1.2 k).2), e.2 ++ [k])], _, _, _, _, hW.new he hkm heq (fun x hx => by simpa using hno' x hx), ?_, rfl, ?_⟩
            · rw [List.getElem?_append_left (List.getElem?_eq_some_iff.mp he).1]; exact he
            · simp [omW, encE]
              exact ⟨rfl, rfl⟩
          · have hyes : hasK (kvW W) (keyP ((stepP m ls e.1.1 k).2, (stepP m os e.1.2 k).2)) = true := by simpa using hb
            rw [hasK_kvs, List.any_eq_true] at hyes
            obtain ⟨x, hx, hxe⟩ := hyes
            have hxe : x.1 = ((stepP m ls e.1.1 k).2, (stepP m os e.1.2 k).2) := of_decide_eq_true hxe
            exact ⟨W, _, _, _, _, hW.old he hkm (heq.trans (by rw [hxe])) hx, he, rfl, rfl⟩
      · obtain ⟨W, a8, a9, a10, a11, hW, he, rfl, rfl⟩ := hI
        obtain ⟨hall, hfew⟩ := few h3 hW hok0 (fP_ok hG1 hG2)
        have hi := (List.getElem?_eq_some_iff.mp he).1
        rw [List.length_map, List.length_range] at hW
        refine ⟨20000 - (i + 1), by omega, i + 1, W, _, _, _, _, _, _, rfl, ?_, rfl, rfl⟩
        by_cases hl : i + 1 < W.length
        · exact .inl ⟨hW.next h3 (List.getElem?_eq_getElem hl), hl⟩
        · exact .inr ⟨hW.over h3 (by omega), by omega⟩
    · have hi : W.length ≤ i := by simpa using hb
      rcases hW with ⟨_, hW⟩ | ⟨hW, _⟩
      case inl => omega
      have hr' := best_unique h3 hB hW
      subst hr'
      exact rss_one (rst_ret re_non rfl)
end
end K80
namespace K80
open PySem PySem.Spec PyProof.Rows L2 DV
structure Hand where
  cells : List Int
  pos : Nat
  left : Int
  mix : Int
  n : Int
@[reducible] def encH (h : Hand) : List D := [.lst (h.cells.map .int), .int (h.pos : Int), .int h.left, .int h.mix, .int h.n]
def hand0 (ns : List Int) : Hand := ⟨ns.map fun i => if i < 0 then -i else i, 0, 0, 1 + (ns.length : Int), 0⟩
def fetch (h : Hand) : Hand := if h.left = 0 ∧ h.pos < h.cells.length then ⟨h.cells, h.pos + 1, if 10 ^ 18 ≤ h.cells.getD h.pos 0 then h.cells.getD h.pos 0 else h.left, (h.mix * 69621 + h.cells.getD h.pos 0 + 11) % 2147483629, h.n⟩ else h
def mixN (x : Int) : Int :=
  let a := x * 48271 % 2147483647
  let b := a * (a / 1009 + 69621) % 2147483647
  b * (b / 2003 + 40692) % 2147483399
def draw (h : Hand) (m : Int) : Int × Hand :=
  let g := fetch h
  if 0 < g.left then (g.left % m, { g with left := g.left / m }) else (mixN (g.mix + 7919 * (g.n + 1)) / 16 % m, { g with n := g.n + 1 })
theorem draw_bd (h : Hand) {m : Int} (hm : 0 < m) : 0 ≤ (draw h m).1 ∧ (draw h m).1 < m := by
  unfold draw
  dsimp only
  split
  · exact ⟨Int.emod_nonneg _ (by omega), Int.emod_lt_of_pos _ hm⟩
  · exact ⟨Int.emod_nonneg _ (by omega), Int.emod_lt_of_pos _ hm⟩
section
variable {P : Program} {w : World} {K : PySem.W.Frag} {mg : Str → Option Value} {base : Heap} {C : Addr}
def rHand : List D → List D → Prop := fun ds es => ∃ ns : List Int, ns.length ≤ 63 ∧ ds = [.fls (ns.map .int)] ∧ es = encH (hand0 ns)
theorem h_law_hand (E : Fx K mg C) : HasF P w K mg base "_law_hand" 1 (spN K 1 rHand) := by
  refine has_of (ps := ["script"]) E.f_law_hand (fun f fd F => fun_N F sc_law_hand rfl fun cdv A outer s H Ex M ds es hr hR hn => ?_) (fun _ _ _ _ _ _ us hl => match us, hl with | [_], _ => rfl)
  obtain ⟨ns, hl, rfl, rfl⟩ := hR
  refine rss_cons (rst_setLc 1 rfl sc_law_hand.nd (lc_map [("cell", 2)] (gName 2) ns .int (fun i : Int => .int (if i < 0 then -i else i)) (ri_to (ri_list (RN.re (rn_slF (re_var 0 rfl) ro_none (ro_some re_int)))) ?_) (by omega) (fun s H C cl fp => pg_name sc_law_hand.nd rfl (Or.inl rfl)) fun x hxm => ⟨_, gr_name 2, fun M' s H0 C' cl fp => ?_⟩) ?_)
  · rw [cutL_map]
    congr 1
    unfold cutL
    rw [HT.sIx_none, show (63 : Int) = ((63 : Nat) : Int) by rfl, HT.sIx_nat, Nat.min_eq_right hl, List.drop_zero, Nat.sub_zero, List.take_length]
  · exact re_callB E.z_abs (ra_cons (re_callTy E.z_int (ra_cons (re_var 2 rfl) ra_nil) cd_int) ra_nil) cd_abs
  · refine rss_one (rst_retL (rn_lst (ra_cons (re_var 1 rfl) (ra_cons re_int (ra_cons re_int (ra_cons (re_bin re_int (re_callB E.z_len (ra_cons (re_var 1 rfl) ra_nil) cd_lenL) od_add) (ra_cons re_int ra_nil)))))) fun p => ⟨p, rfl, ?_⟩)
    simp [encH, hand0]
def rDraw : O → List D → D → O → Prop := fun ob ds d ob' => ∃ (h : Hand) (m : Int), 0 < m ∧ m < 1000000 ∧ ob = .lst (encH h) ∧ ds = [.int m] ∧ d = .int (draw h m).1 ∧ ob' = .lst (encH (draw h m).2)
theorem h_law_draw (E : Fx K mg C) : HasF P w K mg base "_law_draw" 1 (spO K 2 rDraw) := by
  refine has_of (ps := ["hand", "many"]) E.f_law_draw (fun f fd F => fun_O F sc_law_draw rfl fun cdv A outer s H Ex M a ob ds d ob' hr hR hn => ?_) (fun _ _ _ _ _ _ us hl => match us, hl with | [_, _], _ => rfl)
  obtain ⟨h, m, hm, hm2, rfl, rfl, rfl, rfl⟩ := hR
  have nd := sc_law_draw.nd
  refine rss_mid (fun δ ω => ∃ c2, δ = [some (.ptr a), some (.int m), c2, none, none] ∧ ω = [(a, .lst (encH (fetch h)))]) (rst_if (k := decide (h.left = 0) && decide ((h.pos : Int) < (h.cells.length : Int))) (RW.rt (rw_and (rt_cmp (re_ix (re_var 0 rfl) re_int (ix_O 0 rfl rfl)) re_int od_eqI) fun _ => rw_and1 ((rt_cmp (re_ix (re_var 0 rfl) re_int (ix_O 0 rfl rfl)) (re_callB E.z_len (ra_cons (re_ix (re_var 0 rfl) re_int (ix_O 0 rfl rfl)) ra_nil) cd_lenL) od_lt).to (by rw [List.length_map])))) (fun hb => ?_) fun hb => rss_nil ?_) ?_
  · have hb' := Bool.and_eq_true_iff.mp hb
    have h0 : h.left = 0 := by simpa using hb'.1
    have hp : h.pos < h.cells.length := by simpa using hb'.2
    refine rss_cons (rst_set 2 nd (re_ix (re_ix (re_var 0 rfl) re_int (ix_O 0 rfl rfl)) (re_ix (re_var 0 rfl) re_int (ix_O 0 rfl rfl)) (ix_L (atI_int hp))) ?_)
    refine rss_cons (rst_setitem (n := 0) (j := 1) (re_bin (re_ix (re_var 0 rfl) re_int (ix_O 0 rfl rfl)) re_int od_add) (re_var 0 rfl) re_int rfl rfl ?_)
    refine rss_cons (rst_setitem (n := 0) (j := 3) (re_bin (re_callTy E.z_int (ra_cons (re_bin (re_bin (re_bin (re_ix (re_var 0 rfl) re_int (ix_O 0 rfl rfl)) re_int (od_mul (Or.inr (by decide)))) (re_var 2 rfl) od_add) re_int od_add) ra_nil) cd_int) re_int (od_mod (by decide))) (re_var 0 rfl) re_int rfl rfl ?_)
    refine rss_one (rst_if (k := decide ((10 : Int) ^ 18 ≤ h.cells.getD h.pos 0)) (rt_cmp (re_var 2 rfl) (re_bin re_int re_int (od_pow ⟨by decide, by decide, by decide⟩)) od_ge) (fun hc => ?_) fun hc => rss_nil ?_)
    · refine rss_one (rst_setitem (n := 0) (j := 2) (re_var 2 rfl) (re_var 0 rfl) re_int rfl rfl ⟨_, rfl, ?_⟩)
      have hc' : (10 : Int) ^ 18 ≤ h.cells.getD h.pos 0 := by simpa using hc
      unfold fetch
      rw [if_pos ⟨h0, hp⟩, if_pos hc']
      rfl
    · refine ⟨_, rfl, ?_⟩
      have hc' : ¬ (10 : Int) ^ 18 ≤ h.cells.getD h.pos 0 := by simpa using hc
      unfold fetch
      rw [if_pos ⟨h0, hp⟩, if_neg hc']
      rfl
  · refine ⟨none, rfl, ?_⟩
    have hb' : ¬ (h.left = 0 ∧ h.pos < h.cells.length) := fun z => by
      have : (decide (h.left = 0) && decide ((h.pos : Int) < (h.cells.length : Int))) = true := by simp; exact z
      rw [this] at hb; cases hb
    unfold fetch
    rw [if_neg hb']
  · rintro δ' ω' ⟨c2, rfl, rfl⟩
    refine rss_cons (rst_if (k := decide (0 < (fetch h).left)) (rt_cmp (re_ix (re_var 0 rfl) re_int (ix_O 0 rfl rfl)) re_int od_gt) (fun hb => ?_) fun hb => rss_nil ?_)
    · have hb' : 0 < (fetch h).left := by simpa using hb
      refine rss_cons (rst_set 3 nd (re_bin (re_callTy E.z_int (ra_cons (re_ix (re_var 0 rfl) re_int (ix_O 0 rfl rfl)) ra_nil) cd_int) (re_var 1 rfl) (od_mod hm)) ?_)
      refine rss_cons (rst_setitem (n := 0) (j := 2) (re_bin (re_ix (re_var 0 rfl) re_int (ix_O 0 rfl rfl)) (re_var 1 rfl) (od_fdiv ⟨hm, by omega⟩)) (re_var 0 rfl) re_int rfl rfl ?_)
      refine rss_one (rst_ret (re_var 3 rfl) ⟨?_, ?_⟩)
      · unfold draw; dsimp only; rw [if_pos hb']
      · unfold draw; dsimp only; rw [if_pos hb']; exact List.mem_singleton.mpr rfl
    · have hb' : ¬ 0 < (fetch h).left := by simpa using hb
      refine rss_cons (rst_setitem (n := 0) (j := 4) (re_bin (re_ix (re_var 0 rfl) re_int (ix_O 0 rfl rfl)) re_int od_add) (re_var 0 rfl) re_int rfl rfl ?_)
      refine rss_cons (rst_set 4 nd (re_bin (re_callTy E.z_int (ra_cons (re_bin (re_callTy E.z_int (ra_cons (re_bin (re_ix (re_var 0 rfl) re_int (ix_O 0 rfl rfl)) (re_bin re_int (re_ix (re_var 0 rfl) re_int (ix_O 0 rfl rfl)) (od_mul (Or.inl (by decide)))) od_add) ra_nil) cd_int) re_int (od_mul (Or.inr (by decide)))) ra_nil) cd_int) re_int (od_mod (by decide))) ?_)
      generalize hx : ((fetch h).mix + 7919 * ((fetch h).n + 1)) * 48271 % 2147483647 = x1
      have b1 : 0 ≤ x1 ∧ x1 < 2147483647 := by rw [← hx]; exact ⟨Int.emod_nonneg _ (by decide), Int.emod_lt_of_pos _ (by decide)⟩
      refine rss_cons (rst_set 4 nd (re_bin (re_callTy E.z_int (ra_cons (re_bin (re_var 4 rfl) (re_bin (re_bin (re_var 4 rfl) re_int (od_fdiv ⟨by decide, by decide⟩)) re_int od_add) (od_mul (Or.inl ⟨by omega, by omega⟩))) ra_nil) cd_int) re_int (od_mod (by decide))) ?_)
      generalize hy : x1 * (x1 / 1009 + 69621) % 2147483647 = x2
      have b2 : 0 ≤ x2 ∧ x2 < 2147483647 := by rw [← hy]; exact ⟨Int.emod_nonneg _ (by decide), Int.emod_lt_of_pos _ (by decide)⟩
      refine rss_cons (rst_set 4 nd (re_bin (re_callTy E.z_int (ra_cons (re_bin (re_var 4 rfl) (re_bin (re_bin (re_var 4 rfl) re_int (od_fdiv ⟨by decide, by decide⟩)) re_int od_add) (od_mul (Or.inl ⟨by omega, by omega⟩))) ra_nil) cd_int) re_int (od_mod (by decide))) ?_)
      refine rss_one (rst_ret (re_bin (re_callTy E.z_int (ra_cons (re_bin (re_var 4 rfl) re_int (od_fdiv ⟨by decide, by decide⟩)) ra_nil) cd_int) (re_var 1 rfl) (od_mod hm)) ⟨?_, ?_⟩)
      · unfold draw mixN; dsimp only; rw [if_neg hb', hx, hy]
      · unfold draw; dsimp only; rw [if_neg hb']; exact List.mem_singleton.mpr rfl
end
end K80
namespace K80
open PySem PySem.Spec PyProof.Rows L2 DV
theorem range_le : ∀ {xs ys : List Int}, xs.length = ys.length → ((List.range xs.length).all fun k => decide (xs.getD k 0 ≤ ys.getD k 0)) = leZ xs ys
  | [], [], _ => rfl
  | [], _ :: _, h => by simp at h
  | _ :: _, [], h => by simp at h
  | x :: xs, y :: ys, h => by
    have ih := range_le (xs := xs) (ys := ys) (by simpa using h)
    rw [List.length_cons, List.range_succ_eq_map, List.all_cons, List.all_map]
    unfold leZ at ih ⊢
    rw [List.zip_cons_cons, List.all_cons, ← ih]
    rfl
theorem range_min : ∀ {xs ys : List Int}, xs.length = ys.length → ((List.range ys.length).map fun k => minZ (xs.getD k 0) (ys.getD k 0)) = cap2 xs ys
  | [], [], _ => rfl
  | [], _ :: _, h => by simp at h
  | _ :: _, [], h => by simp at h
  | x :: xs, y :: ys, h => by
    have ih := range_min (xs := xs) (ys := ys) (by simpa using h)
    rw [List.length_cons, List.range_succ_eq_map, List.map_cons, List.map_map]
    unfold cap2 at ih ⊢
    rw [List.zip_cons_cons, List.map_cons, ← ih]
    rfl
theorem maxI_perm {ns ms : List Int} (hn : ns ≠ []) (h : ∀ x, x ∈ ns ↔ x ∈ ms) : maxI ns = maxI ms := by
  have hm : ms ≠ [] := fun e => hn (by
    cases ns with
    | nil => rfl
    | cons x ns => have := (h x).mp List.mem_cons_self; rw [e] at this; cases this)
  have mem : ∀ (ks : List Int), ks ≠ [] → maxI ks ∈ ks := fun ks hk => maxI_mem (· ∈ ks) hk fun x hx => hx
  have ge : ∀ (ks : List Int) (a y : Int), (y = a ∨ y ∈ ks) → y ≤ ks.foldl (fun a b => if b > a then b else a) a := by
    intro ks
    induction ks with
    | nil => intro a y hy; rcases hy with rfl | hy
             · exact Int.le_refl _
             · cases hy
    | cons k ks ih =>
      intro a y hy
      rw [List.foldl_cons]
      rcases hy with rfl | hy
      · refine Int.le_trans ?_ (ih (if k > y then k else y) _ (.inl rfl))
        split <;> omega
      · rcases List.mem_cons.mp hy with rfl | hy
        · refine Int.le_trans ?_ (ih (if y > a then y else a) _ (.inl rfl))
          split <;> omega
        · exact ih _ y (.inr hy)
  have le : ∀ (ks : List Int) (y : Int), y ∈ ks → y ≤ maxI ks := fun ks y hy => ge ks _ y (.inr hy)
  exact Int.le_antisymm (le ms _ ((h _).mp (mem ns hn))) (le ns _ ((h _).mpr (mem ms hm)))
def stepL (lots : List (List Int)) (c : List Int) (k : Nat) : Bool × List Int := if hits lots (bump c k) then (false, c) else (true, bump c k)
section
variable {P : Program} {w : World} {K : PySem.W.Frag} {mg : Str → Option Value} {base : Heap} {C : Addr}
def rIs1 : List D → D → Prop := fun ds d => ∃ i : Int, ds = [.int i, .int i] ∧ d = .bl true
theorem h_law_is1 (E : Fx K mg C) : HasF P w K mg base "_law_is" 1 (spP K 2 rIs1) := by
  refine has_of (ps := ["told", "due"]) E.f_law_is (fun f fd F => fun_P F sc_law_is rfl fun cdv A outer s H Ex M ds d hr hR hn => ?_) (fun _ _ _ _ _ _ us hl => match us, hl with | [_, _], _ => rfl)
  obtain ⟨i, rfl, rfl⟩ := hR
  refine rss_cons (rst_if (k := false) (rt_val ((re_isiT2 (k1 := false) (k2 := false) (T1 := "tuple") (T2 := "list") E.z_isinstance (re_var 1 rfl) E.z_tuple E.z_list (by simp [tyN]) rfl rfl).to rfl)) nofun fun _ => rss_nil ?_)
  refine rss_one (rst_ret (re_and (k := true) (k' := true) ((re_cmp (re_isi "bool" false E.z_isinstance E.z_bool (re_var 0 rfl)) (re_isi "bool" false E.z_isinstance E.z_bool (re_var 1 rfl)) (od_eq hr.units pl_bl pl_bl)).to (by rw [eqD_bl]; rfl)) fun _ => re_one ((re_cmp (re_var 0 rfl) (re_var 1 rfl) od_eqI).to (by simp))) rfl)
def rIs : List D → D → Prop := fun ds d => ∃ r : Option (List Nat), (∀ x, r = some x → x.length ≤ 50000) ∧ ds = [encRes r, encRes r] ∧ d = .bl true
theorem h_law_is (E : Fx K mg C) : HasF P w K mg base "_law_is" 2 (spP K 2 rIs) := by
  refine has_of (ps := ["told", "due"]) E.f_law_is (fun f fd F => fun_P F sc_law_is rfl fun cdv A outer s H Ex M ds d hr hR hn => ?_) (fun _ _ _ _ _ _ us hl => match us, hl with | [_, _], _ => rfl)
  obtain ⟨r, hl, rfl, rfl⟩ := hR
  cases r with
  | none =>
    refine rss_cons (rst_if (k := false) (rt_val ((re_isiT2 (d := .non) (k1 := false) (k2 := false) (T1 := "tuple") (T2 := "list") E.z_isinstance (re_var 1 rfl) E.z_tuple E.z_list (by simp [tyN]) rfl rfl).to rfl)) nofun fun _ => rss_nil ?_)
    refine rss_one (rst_ret (re_and (k := true) (k' := true) ((re_cmp (re_isi (d := .non) "bool" false E.z_isinstance E.z_bool (re_var 0 rfl)) (re_isi (d := .non) "bool" false E.z_isinstance E.z_bool (re_var 1 rfl)) (od_eq hr.units pl_bl pl_bl)).to (by rw [eqD_bl]; rfl)) fun _ => re_one ((re_cmp (a := .non) (b := .non) (re_var 0 rfl) (re_var 1 rfl) (od_eq hr.units pl_non pl_non)).to ?_)) rfl)
    unfold eqD toPy PyData.eqv; rfl
  | some x =>
    have hx := hl x rfl
    have nd := sc_law_is.nd
    have ty : ∀ (b : List Nat), tyN (encR b) = "tuple" := fun b => rfl
    refine rss_cons (rst_if (k := true) (rt_val ((re_isiT2 (d := encR x) (k1 := true) (k2 := false) (T1 := "tuple") (T2 := "list") E.z_isinstance (re_var 1 rfl) E.z_tuple E.z_list (by simp [tyN]) rfl rfl).to rfl)) (fun _ => ?_) nofun)
    refine rss_cons (rst_if (k := false) (RW.rt (rw_or (k := false) (k' := false) ((rt_cmp (re_isi (d := encR x) "tuple" true E.z_isinstance E.z_tuple (re_var 0 rfl)) (re_isi (d := encR x) "tuple" true E.z_isinstance E.z_tuple (re_var 1 rfl)) (od_ne hr.units pl_bl pl_bl)).to (by rw [eqD_bl]; rfl)) fun _ => rw_or1 (rt_not (k := true) (rt_val ((re_isiT2 (d := encR x) (k1 := true) (k2 := false) (T1 := "tuple") (T2 := "list") E.z_isinstance (re_var 0 rfl) E.z_tuple E.z_list (by simp [tyN]) rfl rfl).to rfl))))) nofun fun _ => rss_nil ?_)
    refine rss_one (rst_ret (re_and (k := true) (k' := true) ((re_cmp (re_callB E.z_len (ra_cons (re_var 0 rfl) ra_nil) cd_lenT) (re_callB E.z_len (ra_cons (re_var 1 rfl) ra_nil) cd_lenT) od_eqI).to (by simp)) fun _ => re_one ((re_all (xs := x) (g := fun _ => true) E.z_all rfl nd (lc_map [("one", 2), ("two", 3)] (gTup _ 2 (gCons (gName 2) (gCons (gName 3) gNil))) x (fun i : Nat => .tup [.int (i : Int), .int (i : Int)]) _ (ri_to (ri_zipT E.z_zip (re_var 0 rfl) (re_var 1 rfl)) ?_) (by omega) (fun s H C cl fp => pg_tup rfl (pgs_cons (pg_name nd rfl (Or.inl rfl)) (pgs_cons (pg_name nd rfl (Or.inl rfl)) pgs_nil))) fun i hi => ⟨_, gr_tup2 (gr_name 2) (gr_name 3), fun M' s H0 C' cl fp => ?_⟩)).to (by simp))) rfl)
    · rw [ofN, List.map_map, zipD_map]; rfl
    · exact re_call (h_law_is1 E) hr (ra_cons (re_var 2 rfl) (ra_cons (re_var 3 rfl) ra_nil)) ⟨_, rfl, rfl⟩
def rFlag : List D → D → Prop := fun ds d => ∃ a b : Bool, ds = [.bl a, .bl b] ∧ d = .bl (decide (a = b))
theorem h_law_flag (E : Fx K mg C) : HasF P w K mg base "_law_flag" 1 (spP K 2 rFlag) := by
  refine has_of (ps := ["told", "due"]) E.f_law_flag (fun f fd F => fun_P F sc_law_flag rfl fun cdv A outer s H Ex M ds d hr hR hn => ?_) (fun _ _ _ _ _ _ us hl => match us, hl with | [_, _], _ => rfl)
  obtain ⟨a, b, rfl, rfl⟩ := hR
  exact rss_one (rst_ret (re_and (k := true) (k' := decide (a = b)) (re_isi "bool" true E.z_isinstance E.z_bool (re_var 0 rfl)) fun _ => re_one ((re_cmp (re_var 0 rfl) (re_var 1 rfl) (od_eq hr.units pl_bl pl_bl)).to (by rw [eqD_bl]))) rfl)
def rBelow : List D → D → Prop := fun ds d => ∃ xs ys : List Int, xs.length = ys.length ∧ xs.length ≤ 100 ∧ ds = [encT xs, encT ys] ∧ d = .bl (leZ xs ys)
theorem h_law_are_below (E : Fx K mg C) : HasF P w K mg base "_law_are_below" 1 (spP K 2 rBelow) := by
  refine has_of (ps := ["one", "other"]) E.f_law_are_below (fun f fd F => fun_P F sc_law_are_below rfl fun cdv A outer s H Ex M ds d hr hR hn => ?_) (fun _ _ _ _ _ _ us hl => match us, hl with | [_, _], _ => rfl)
  obtain ⟨xs, ys, he, hl, rfl, rfl⟩ := hR
  refine rss_one (rst_ret ((re_all (xs := List.range xs.length) (g := fun k => decide (xs.getD k 0 ≤ ys.getD k 0)) E.z_all rfl sc_law_are_below.nd (lc_map [("k", 2)] (gName 2) (List.range xs.length) (fun i => .int (i : Int)) _ (ri_to (ri_range1 E.z_range (re_callB E.z_len (ra_cons (re_var 0 rfl) ra_nil) cd_lenT) (by omega) (by rw [List.length_map]; omega)) (by rw [Int.toNat_natCast, rangeD_map, List.length_map])) (by rw [List.length_range]; omega) (fun s H C cl fp => pg_name sc_law_are_below.nd rfl (Or.inl rfl)) fun k hk => ⟨_, gr_name 2, fun M' s H0 C' cl fp => ?_⟩)).to (by rw [range_le he])) rfl)
  have hk' := List.mem_range.mp hk
  exact re_cmp (re_ix (re_var 0 rfl) (re_var 2 rfl) (ix_T (atI_int hk'))) (re_ix (re_var 1 rfl) (re_var 2 rfl) (ix_T (atI_int (by omega)))) od_le
def rStepL : List D → D → Prop := fun ds d => ∃ (m : Nat) (lots : List (List Int)) (c : List Int) (k : Nat), m ≤ 3 ∧ Good m lots ∧ c.length = m ∧ k < m ∧ ds = [encTT lots, encT c, .int k] ∧ d = encS (stepL lots c k)
theorem h_law_step (E : Fx K mg C) : HasF P w K mg base "_law_step" 2 (spP K 3 rStepL) := by
  refine has_of (ps := ["lots", "counts", "kind"]) E.f_law_step (fun f fd F => fun_P F sc_law_step rfl fun cdv A outer s H Ex M ds d hr hR hn => ?_) (fun _ _ _ _ _ _ us hl => match us, hl with | [_, _, _], _ => rfl)
  obtain ⟨m, lots, c, k, h3, hG, hc, hk, rfl, rfl⟩ := hR
  have hf := hG.few
  have hb : (bump c k).length = m := by rw [bump_len (by omega), hc]
  have e1 : cutL (c.map D.int) none (some (k : Int)) = (c.take k).map .int := by rw [cutL_map, cut_take (by omega)]
  have e2 : cutL (c.map D.int) (some ((k : Int) + 1)) none = (c.drop (k + 1)).map .int := by rw [cutL_map, cut_drop' (i := k + 1) (by omega) (by omega)]
  refine rss_cons (rst_set (d := encT (bump c k)) 3 sc_law_step.nd ((re_bin (re_bin (re_slT (re_var 1 rfl) ro_none (ro_some (re_var 2 rfl))) (re_tup (ra_cons (re_bin (re_ix (re_var 1 rfl) (re_var 2 rfl) (ix_T (atI_int (by omega)))) re_int od_add) ra_nil)) (od_catT ?_)) (re_slT (re_var 1 rfl) (ro_some (re_bin (re_var 2 rfl) re_int od_add)) ro_none) (od_catT ?_)).to ?_) ?_)
  · rw [e1]; simp; omega
  · rw [e1, e2]; simp; omega
  · rw [e1, e2]; unfold bump; simp [encT]
  refine rss_cons (rst_if (k := hits lots (bump c k)) (rt_val (re_any (xs := lots) (g := fun lot => leZ lot (bump c k)) E.z_any rfl sc_law_step.nd (lc_map [("lot", 4)] (gName 4) lots encT _ (ri_tup (re_var 0 rfl)) (by omega) (fun s H C cl fp => pg_name sc_law_step.nd rfl (Or.inl rfl)) fun l hl => ⟨_, gr_name 4, fun M' s H0 C' cl fp => ?_⟩))) (fun h => ?_) fun h => rss_nil ?_)
  · exact re_call (h_law_are_below E) hr (ra_cons (re_var 4 rfl) (ra_cons (re_var 3 rfl) ra_nil)) ⟨l, _, by rw [hG.len l hl, hb], by rw [hG.len l hl]; omega, rfl, rfl⟩
  · refine rss_one (rst_ret (re_tup (ra_cons re_bl (ra_cons (re_var 1 rfl) ra_nil))) ?_)
    show _ = encS _
    unfold stepL; rw [if_pos h]; rfl
  · refine rss_one (rst_ret (re_tup (ra_cons re_bl (ra_cons (re_var 3 rfl) ra_nil))) ?_)
    show _ = encS _
    unfold stepL; rw [if_neg (by rw [h]; exact Bool.false_ne_true)]; rfl
def rLawCaps : List D → D → Prop := fun ds d => ∃ (m : Nat) (lots : List (List Int)), m ≤ 3 ∧ lots.length ≤ 100 ∧ (∀ l ∈ lots, l.length = m) ∧ ds = [.int m, encTT lots] ∧ d = encT (capsP m lots)
theorem h_law_caps (E : Fx K mg C) : HasF P w K mg base "_law_caps" 1 (spP K 2 rLawCaps) := by
  refine has_of (ps := ["many", "lots"]) E.f_law_caps (fun f fd F => fun_P F sc_law_caps rfl fun cdv A outer s H Ex M ds d hr hR hn => ?_) (fun _ _ _ _ _ _ us hl => match us, hl with | [_, _], _ => rfl)
  obtain ⟨m, lots, h3, hf, hG, rfl, rfl⟩ := hR
  refine rss_one (rst_ret (re_tupLc E.z_tuple rfl sc_law_caps.nd (lc_map [("k", 3)] (gName 3) (List.range m) (fun i => .int (i : Int)) (fun k => .int (maxI (lots.map (fun l => l.getD k 0) ++ [0])))
    (ri_to (ri_range1 E.z_range (re_var 0 rfl) (by omega) (by omega)) ?_) (by rw [List.length_range]; omega) (fun s H C cl fp => pg_name sc_law_caps.nd rfl (by first | exact Or.inl rfl | exact Or.inr rfl)) fun k hk => ⟨_, gr_name 3, fun M' s H0 C' cl' fp => ?_⟩)) ?_)
  · rw [Int.toNat_natCast, rangeD_map]
  · refine RE.to (re_callB E.z_max (ra_cons (RN.re ((rn_bin (RN.re (rn_lst (ra_cons re_int ra_nil))) (RN.re (rn_lc rfl sc_law_caps.nd (lc_map [("lot", 2)] (gName 2) lots encT (fun l : List Int => .int (l.getD k 0)) (ri_tup (re_var 1 rfl)) (by omega) (fun s H C cl fp => pg_name sc_law_caps.nd rfl (Or.inl rfl)) fun l hl => ⟨_, gr_name 2, fun M2 s2 H2 C2 cl2 fp2 => ?_⟩))) (on_cat ?_)).to (es := ([0] ++ lots.map (fun l : List Int => l.getD k 0)).map .int) ?_)) ra_nil) (cd_maxL (by simp))) ?_
    · exact re_ix (re_var 2 rfl) (re_var 3 rfl) (ix_T (atI_int (by rw [hG l hl]; exact List.mem_range.mp hk)))
    · simp; omega
    · simp
    · congr 1
      exact maxI_perm (by simp) fun x => by simp [or_comm]
  · show D.tup _ = _
    unfold capsP
    simp [encT]
def rLawCapped : List D → D → Prop := fun ds d => ∃ (c cs : List Int), c.length = cs.length ∧ cs.length ≤ 100 ∧ ds = [encT c, encT cs] ∧ d = encT (cap2 c cs)
theorem h_law_capped (E : Fx K mg C) : HasF P w K mg base "_law_capped" 1 (spP K 2 rLawCapped) := by
  refine has_of (ps := ["counts", "caps_v"]) E.f_law_capped (fun f fd F => fun_P F sc_law_capped rfl fun cdv A outer s H Ex M ds d hr hR hn => ?_) (fun _ _ _ _ _ _ us hl => match us, hl with | [_, _], _ => rfl)
  obtain ⟨c, cs, he, hl, rfl, rfl⟩ := hR
  refine rss_one (rst_ret (re_tupLc E.z_tuple rfl sc_law_capped.nd (lc_map [("k", 2)] (gName 2) (List.range cs.length) (fun i => .int (i : Int)) (fun k => .int (minZ (c.getD k 0) (cs.getD k 0))) (ri_to (ri_range1 E.z_range (re_callB E.z_len (ra_cons (re_var 1 rfl) ra_nil) cd_lenT) (by omega) (by rw [List.length_map]; omega)) (by rw [Int.toNat_natCast, rangeD_map, List.length_map])) (by rw [List.length_range]; omega) (fun s H C cl fp => pg_name sc_law_capped.nd rfl (Or.inl rfl)) fun k hk => ⟨_, gr_name 2, fun M' s H0 C' cl fp => ?_⟩)) ?_)
  · have hk' := List.mem_range.mp hk
    exact re_callB E.z_min (ra_cons (re_ix (re_var 0 rfl) (re_var 2 rfl) (ix_T (atI_int (by omega)))) (ra_cons (re_ix (re_var 1 rfl) (re_var 2 rfl) (ix_T (atI_int hk'))) ra_nil)) cd_min2
  · show D.tup _ = _
    rw [← range_min he]
    simp [encT]
end
end K80
namespace K80
open PySem PySem.Spec PyProof.Rows L2 DV
/-! ### drawn counts -/
def tab (i : Int) : Int := ([0, 0, 1, 1, 2, 3, 4, 2] : List Int).getD i.toNat 0
def seqH (h : Hand) : Nat → Hand
  | 0 => h
  | i + 1 => (draw (seqH h i) 8).2
def valH (h : Hand) (i : Nat) : Int := tab (draw (seqH h i) 8).1
def valsH (h : Hand) (m : Nat) : List Int := (List.range m).map (valH h)
def countsL (h : Hand) (m : Nat) : List Int × Hand :=
  if (valsH h m).sum < 2 then ((valsH h m).set (draw (seqH h m) m).1.toNat 2, (draw (seqH h m) m).2) else (valsH h m, seqH h m)
theorem tab_bd {i : Int} (h : 0 ≤ i ∧ i < 8) : 0 ≤ tab i ∧ tab i ≤ 4 := by
  have : i = 0 ∨ i = 1 ∨ i = 2 ∨ i = 3 ∨ i = 4 ∨ i = 5 ∨ i = 6 ∨ i = 7 := by omega
  rcases this with rfl | rfl | rfl | rfl | rfl | rfl | rfl | rfl <;> decide
theorem tab_at {i : Int} (h : 0 ≤ i ∧ i < 8) : atI (([0, 0, 1, 1, 2, 3, 4, 2] : List Int).map D.int) i = some (.int (tab i)) := by
  have : i = 0 ∨ i = 1 ∨ i = 2 ∨ i = 3 ∨ i = 4 ∨ i = 5 ∨ i = 6 ∨ i = 7 := by omega
  rcases this with rfl | rfl | rfl | rfl | rfl | rfl | rfl | rfl <;> rfl
theorem valsH_len (h : Hand) (m : Nat) : (valsH h m).length = m := by unfold valsH; simp
theorem valsH_bd (h : Hand) (m : Nat) : ∀ x ∈ valsH h m, 0 ≤ x ∧ x ≤ 4 := fun x hx => by
  unfold valsH at hx
  obtain ⟨i, _, rfl⟩ := List.mem_map.mp hx
  exact tab_bd (draw_bd _ (by decide))
theorem sum_nn : ∀ {xs : List Int}, (∀ x ∈ xs, 0 ≤ x) → 0 ≤ xs.sum
  | [], _ => by simp
  | x :: xs, h => by
    have h1 := h x List.mem_cons_self
    have h2 := sum_nn (xs := xs) fun y hy => h y (List.mem_cons_of_mem _ hy)
    rw [List.sum_cons]; omega
theorem sum_ge : ∀ {xs : List Int} {x : Int}, (∀ x ∈ xs, 0 ≤ x) → x ∈ xs → x ≤ xs.sum
  | [], x, _, h => by cases h
  | y :: xs, x, hn, h => by
    have h2 := sum_nn (xs := xs) fun z hz => hn z (List.mem_cons_of_mem _ hz)
    rw [List.sum_cons]
    rcases List.mem_cons.mp h with rfl | h
    · omega
    · have := sum_ge (xs := xs) (fun z hz => hn z (List.mem_cons_of_mem _ hz)) h
      have := hn y List.mem_cons_self
      omega
theorem isCounts_of {xs : List Int} (h : ∀ x ∈ xs, 0 ≤ x ∧ x ≤ 4) (hs : 1 < xs.sum) : isCounts xs = true := by
  unfold isCounts
  rw [Bool.and_eq_true_iff, List.all_eq_true]
  refine ⟨fun x hx => ?_, decide_eq_true hs⟩
  have := h x hx
  simp [within]; exact this
/-- what a lot is drawn as -/
def LotOk (m : Nat) (l : List Int) : Prop := l.length = m ∧ isCounts l = true
theorem countsL_ok (h : Hand) {m : Nat} (hm : 1 ≤ m) : LotOk m (countsL h m).1 := by
  unfold countsL
  split
  · refine ⟨by rw [List.length_set, valsH_len], isCounts_of (fun x hx => ?_) ?_⟩
    · rcases List.mem_or_eq_of_mem_set hx with hx | rfl
      · exact valsH_bd h m x hx
      · decide
    · have hd := draw_bd (seqH h m) (m := (m : Int)) (by omega)
      have hm2 : (2 : Int) ∈ (valsH h m).set (draw (seqH h m) m).1.toNat 2 := by
        have hj : (draw (seqH h m) m).1.toNat < ((valsH h m).set (draw (seqH h m) m).1.toNat 2).length := by rw [List.length_set, valsH_len]; omega
        have := List.getElem_mem hj
        rwa [List.getElem_set_self] at this
      have := sum_ge (fun x hx => by
        rcases List.mem_or_eq_of_mem_set hx with hx | rfl
        · exact (valsH_bd h m x hx).1
        · decide) hm2
      dsimp only; omega
  · rename_i hs
    exact ⟨valsH_len h m, isCounts_of (valsH_bd h m) (by dsimp only; omega)⟩
section
variable {P : Program} {w : World} {K : PySem.W.Frag} {mg : Str → Option Value} {base : Heap} {C : Addr}
def rCountsL : O → List D → D → O → Prop := fun ob ds d ob' => ∃ (h : Hand) (m : Nat), 1 ≤ m ∧ m ≤ 3 ∧ ob = .lst (encH h) ∧ ds = [.int m] ∧ d = encT (countsL h m).1 ∧ ob' = .lst (encH (countsL h m).2)
theorem h_law_counts (E : Fx K mg C) : HasF P w K mg base "_law_counts" 2 (spO K 2 rCountsL) := by
  refine has_of (ps := ["hand", "many"]) E.f_law_counts (fun f fd F => fun_O F sc_law_counts rfl fun cdv A outer s H Ex M a ob ds d ob' hr hR hn => ?_) (fun _ _ _ _ _ _ us hl => match us, hl with | [_, _], _ => rfl)
  obtain ⟨h, m, h1, h3, rfl, rfl, rfl, rfl⟩ := hR
  have nd := sc_law_counts.nd
  refine rss_cons (rst_setLcN 2 rfl nd (lc_thread [("k", 3)] (gName 3) (fun i => (List.range i).map fun j => .int (valH h j)) (fun i => [(a, .lst (encH (seqH h i)))]) rfl rfl (by rw [rangeD_len]; omega) (fun i hi => by simp) (ri_range1 E.z_range (re_var 1 rfl) (by omega) (by omega)) (fun s H C cl fp => pg_name nd rfl (Or.inl rfl)) fun i d hd => ⟨_, gr_name 3, .int (valH h i), by simp [List.range_succ], fun M' s H0 C' cl fp => ?_⟩) fun p => ?_)
  · exact re_ix (RN.re (rn_lst (ra_cons re_int (ra_cons re_int (ra_cons re_int (ra_cons re_int (ra_cons re_int (ra_cons re_int (ra_cons re_int (ra_cons re_int ra_nil)))))))))) (re_callO 0 (h_law_draw E) hr (ra_cons (re_var 0 rfl) (ra_cons re_int ra_nil)) rfl ⟨seqH h i, 8, by decide, by decide, rfl, rfl, rfl, rfl⟩) (ix_L (tab_at (draw_bd _ (by decide))))
  · have eL : (rangeD 0 (Int.toNat (m : Int))).length = m := by rw [rangeD_len, Int.toNat_natCast]
    rw [eL]
    have eV : ((List.range m).map fun j => D.int (valH h j)) = (valsH h m).map .int := by unfold valsH; rw [List.map_map]; rfl
    rw [eV]
    refine rss_mid (fun δ ω => ∃ vs h', countsL h m = (vs, h') ∧ δ = [some (.ptr a), some (.int m), some (.ptr p), none] ∧ ω = [(p, .lst (vs.map .int)), (a, .lst (encH h'))]) (rst_if (k := decide ((valsH h m).sum < 2)) (rt_cmp (re_callB E.z_sum (ra_cons (re_var 2 rfl) ra_nil) (cd_sumO 0 rfl)) re_int od_lt) (fun hb => ?_) fun hb => rss_nil ?_) ?_
    · have hb' : (valsH h m).sum < 2 := by simpa using hb
      have hd := draw_bd (seqH h m) (m := (m : Int)) (by omega)
      refine rss_one (rst_setitem (n := 0) (j := (draw (seqH h m) m).1.toNat) re_int (re_var 2 rfl) (re_callO 1 (h_law_draw E) hr (ra_cons (re_var 0 rfl) (ra_cons (re_var 1 rfl) ra_nil)) rfl ⟨seqH h m, (m : Int), by omega, by omega, rfl, rfl, rfl, rfl⟩) rfl ?_ ⟨_, _, by unfold countsL; rw [if_pos hb'], rfl, ?_⟩)
      · unfold ixN
        rw [if_pos hd.1, if_pos (by rw [List.length_map, valsH_len]; exact hd.2)]
      · simp [List.map_set]
    · have hb' : ¬ (valsH h m).sum < 2 := by simpa using hb
      exact ⟨_, _, by unfold countsL; rw [if_neg hb'], rfl, rfl⟩
    · rintro δ' ω' ⟨vs, h', e, rfl, rfl⟩
      rw [e]
      exact rss_one (rst_ret (re_callTy E.z_tuple (ra_cons (re_var 2 rfl) ra_nil) (cd_tupleO 0 rfl)) ⟨rfl, by simp⟩)
end
end K80
namespace K80
open PySem PySem.Spec PyProof.Rows L2 DV
def isMin (drawn : List (List Int)) (one : List Int) : Bool := !(drawn.any fun o => !decide (o = one) && leZ o one)
def minimal (drawn : List (List Int)) : List (List Int) := (srtU (TS.code 5) drawn).filter (isMin drawn)
theorem insU_le (f : List Int → Int) (x : List Int) : ∀ l : List (List Int), (insU f x l).length ≤ l.length + 1
  | [] => by simp [insU]
  | y :: l => by
    have := insU_le f x l
    unfold insU
    split
    · simp
    · split <;> simp <;> omega
theorem srtU_le (f : List Int → Int) : ∀ l : List (List Int), (srtU f l).length ≤ l.length
  | [] => Nat.le_refl _
  | x :: l => by
    have h1 := insU_le f x (srtU f l)
    have h2 := srtU_le f l
    show (insU f x (srtU f l)).length ≤ l.length + 1
    omega
theorem lotOk_bd {m : Nat} {l : List Int} (h : LotOk m l) : TS.Bd 5 l := fun x hx => by
  have := isCounts_bd h.2 x hx; omega
theorem code_lex : ∀ {xs ys : List Int}, xs.length = ys.length → TS.Bd 5 xs → TS.Bd 5 ys → TS.code 5 xs < TS.code 5 ys → HT.lexLt xs ys = true
  | [], [], _, _, _, h => absurd h (Int.lt_irrefl _)
  | [], _ :: _, h, _, _, _ => by simp at h
  | _ :: _, [], h, _, _, _ => by simp at h
  | x :: xs, y :: ys, hl, h1, h2, h => by
    have hl' : xs.length = ys.length := by simpa using hl
    have b1 : TS.Bd 5 xs := fun z hz => h1 z (List.mem_cons_of_mem _ hz)
    have b2 : TS.Bd 5 ys := fun z hz => h2 z (List.mem_cons_of_mem _ hz)
    rw [HT.lexLt_cons]
    by_cases e : x = y
    · subst e
      rw [if_pos rfl]
      exact code_lex hl' b1 b2 ((TS.code_same hl').mp h)
    · rw [if_neg e]
      refine decide_eq_true ?_
      by_cases q : x < y
      · exact q
      · have := TS.code_lt (B := 5) (d := y) (e := x) hl'.symm b2 b1 (by omega)
        omega
theorem minimal_good {m : Nat} {drawn : List (List Int)} (h : ∀ l ∈ drawn, LotOk m l) (hf : drawn.length ≤ 12) : Good m (minimal drawn) := by
  have mem : ∀ l ∈ minimal drawn, l ∈ drawn ∧ isMin drawn l = true := fun l hl => by
    obtain ⟨a, b⟩ := List.mem_filter.mp hl
    exact ⟨srtU_sub a, b⟩
  have srt : (minimal drawn).Pairwise (fun a b => TS.code 5 a < TS.code 5 b) := (srtU_sorted (f := TS.code 5) drawn).sublist List.filter_sublist
  have lt : ∀ (i j : Nat) (a b : List Int), i < j → (minimal drawn)[i]? = some a → (minimal drawn)[j]? = some b → TS.code 5 a < TS.code 5 b := fun i j a b hij ha hb => by
    obtain ⟨h1, e1⟩ := List.getElem?_eq_some_iff.mp ha
    obtain ⟨h2, e2⟩ := List.getElem?_eq_some_iff.mp hb
    rw [← e1, ← e2]
    exact List.pairwise_iff_getElem.mp srt i j h1 h2 hij
  have apart : ∀ a b, a ∈ minimal drawn → b ∈ minimal drawn → a ≠ b → leZ a b = false := fun a b ha hb hne => by
    have h2 := (mem b hb).2
    unfold isMin at h2
    have h3 : (drawn.any fun o => !decide (o = b) && leZ o b) = false := by simpa using h2
    rw [List.any_eq_false] at h3
    have h4 := h3 a (mem a ha).1
    rw [decide_eq_false hne] at h4
    simpa using h4
  refine ⟨?_, fun l hl => (h l (mem l hl).1).1, fun l hl => (h l (mem l hl).1).2, fun i a b ha hb => ?_, srt, fun i j a b hij ha hb => ?_⟩
  · have h1 := List.length_filter_le (isMin drawn) (srtU (TS.code 5) drawn)
    have h2 := srtU_le (TS.code 5) drawn
    unfold minimal; omega
  · have ha' := h a (mem a (List.mem_of_getElem? ha)).1
    have hb' := h b (mem b (List.mem_of_getElem? hb)).1
    exact code_lex (by rw [ha'.1, hb'.1]) (lotOk_bd ha') (lotOk_bd hb') (lt i (i + 1) a b (by omega) ha hb)
  · have hne : a ≠ b := fun e => by
      have := lt i j a b hij ha hb
      rw [e] at this; omega
    exact ⟨apart a b (List.mem_of_getElem? ha) (List.mem_of_getElem? hb) hne, apart b a (List.mem_of_getElem? hb) (List.mem_of_getElem? ha) fun e => hne e.symm⟩
def seqC (h : Hand) (m : Nat) : Nat → Hand
  | 0 => h
  | i + 1 => (countsL (seqC h m i) m).2
def drawnL (h : Hand) (m n : Nat) : List (List Int) := (List.range n).map fun i => (countsL (seqC h m i) m).1
def kindLots (h : Hand) (m : Nat) (most : Int) : List (List Int) × Hand :=
  (minimal (drawnL (draw h (most + 1)).2 m (draw h (most + 1)).1.toNat), seqC (draw h (most + 1)).2 m (draw h (most + 1)).1.toNat)
theorem drawnL_ok (h : Hand) {m : Nat} (hm : 1 ≤ m) (n : Nat) : ∀ l ∈ drawnL h m n, LotOk m l := fun l hl => by
  obtain ⟨i, _, rfl⟩ := List.mem_map.mp hl
  exact countsL_ok _ hm
theorem drawnL_len (h : Hand) (m n : Nat) : (drawnL h m n).length = n := by unfold drawnL; simp
section
variable {P : Program} {w : World} {K : PySem.W.Frag} {mg : Str → Option Value} {base : Heap} {C : Addr}
def rKindLots : O → List D → D → O → Prop := fun ob ds d ob' => ∃ (h : Hand) (m : Nat), 1 ≤ m ∧ m ≤ 3 ∧ ob = .lst (encH h) ∧ ds = [.int m, .int 6] ∧ d = encTT (kindLots h m 6).1 ∧ ob' = .lst (encH (kindLots h m 6).2)
theorem h_law_kind_lots (E : Fx K mg C) : HasF P w K mg base "_law_kind_lots" 3 (spO K 3 rKindLots) := by
  refine has_of (ps := ["hand", "many", "most"]) E.f_law_kind_lots (fun f fd F => fun_O F sc_law_kind_lots rfl fun cdv A outer s H Ex M a ob ds d ob' hr hR hn => ?_) (fun _ _ _ _ _ _ us hl => match us, hl with | [_, _, _], _ => rfl)
  obtain ⟨h, m, h1, h3, rfl, rfl, rfl, rfl⟩ := hR
  have nd := sc_law_kind_lots.nd
  have hd := draw_bd h (m := 6 + 1) (by decide)
  refine rss_cons (rst_setLc 3 rfl nd (lc_thread [("turn", 4)] (gName 4) (fun i => (List.range i).map fun j => encT (countsL (seqC (draw h (6 + 1)).2 m j) m).1) (fun i => [(a, .lst (encH (seqC (draw h (6 + 1)).2 m i)))]) rfl rfl (by rw [rangeD_len]; omega) (fun i hi => by simp) (ri_range1 E.z_range (re_callO 0 (h_law_draw E) (hr.mono (by decide)) (ra_cons (re_var 0 rfl) (ra_cons (re_bin (re_var 2 rfl) re_int od_add) ra_nil)) rfl ⟨h, 6 + 1, by decide, by decide, rfl, rfl, rfl, rfl⟩) (by omega) (by omega)) (fun s H C cl fp => pg_name nd rfl (Or.inl rfl)) fun i d hd => ⟨_, gr_name 4, encT (countsL (seqC (draw h (6 + 1)).2 m i) m).1, by simp [List.range_succ], fun M' s H0 C' cl fp => ?_⟩) ?_)
  · exact re_callO 0 (h_law_counts E) hr (ra_cons (re_var 0 rfl) (ra_cons (re_var 1 rfl) ra_nil)) rfl ⟨_, m, h1, h3, rfl, rfl, rfl, rfl⟩
  · have eL : (rangeD 0 (draw h (6 + 1)).1.toNat).length = (draw h (6 + 1)).1.toNat := rangeD_len
    rw [eL]
    have eV : ((List.range (draw h (6 + 1)).1.toNat).map fun j => encT (countsL (seqC (draw h (6 + 1)).2 m j) m).1) = (drawnL (draw h (6 + 1)).2 m (draw h (6 + 1)).1.toNat).map encT := by unfold drawnL; rw [List.map_map]; rfl
    rw [eV]
    have hok := drawnL_ok (draw h (6 + 1)).2 h1 (draw h (6 + 1)).1.toNat
    have hlen := drawnL_len (draw h (6 + 1)).2 m (draw h (6 + 1)).1.toNat
    have eK : (kindLots h m 6).1 = minimal (drawnL (draw h (6 + 1)).2 m (draw h (6 + 1)).1.toNat) := rfl
    rw [eK]
    have eK2 : (kindLots h m 6).2 = seqC (draw h (6 + 1)).2 m (draw h (6 + 1)).1.toNat := rfl
    rw [eK2]
    generalize drawnL (draw h (6 + 1)).2 m (draw h (6 + 1)).1.toNat = X at hok hlen ⊢
    generalize seqC (draw h (6 + 1)).2 m (draw h (6 + 1)).1.toNat = hf
    have hX : X.length ≤ 12 := by omega
    have hS := srtU_le (TS.code 5) X
    refine rss_cons (rst_setN 5 nd (rn_lst ra_nil) fun p => ?_)
    refine rss_cons (rst_for rfl PassesOwn.never (fun i δ ω => ∃ a6 a7 a4, δ = [some (.ptr a), some (.int m), some (.int 6), some (.lst (X.map encT)), a4, some (.ptr p), a6, a7] ∧ ω = [(p, .lst ((((srtU (TS.code 5) X).take i).filter (isMin X)).map encT)), (a, .lst (encH hf))])
      (ri_list (RN.re (rn_sortedSet (B := 5) (n := m) rfl hr.units E.z_sorted E.z_set (re_var 3 rfl) (Or.inl rfl) (by omega) h1 fun k hk => ⟨(hok k hk).1, lotOk_bd (hok k hk)⟩))) ⟨none, none, _, rfl, rfl⟩ (fun i d δ' ω' hd hI => ?_) fun δ' ω' hI => ?_)
    · obtain ⟨a6, a7, a4, rfl, rfl⟩ := hI
      rw [List.getElem?_map] at hd
      obtain ⟨one, hone, rfl⟩ := Option.map_eq_some_iff.mp hd
      have hone' := hok one (srtU_sub (List.mem_of_getElem? hone))
      refine ⟨_, rg_name 6 nd, ?_⟩
      refine rss_one (rst_if (k := isMin X one) (rt_not (k := X.any fun o => !decide (o = one) && leZ o one) (rt_val (re_any (xs := X) (g := fun o => !decide (o = one) && leZ o one) E.z_any rfl nd (lc_map [("other", 7)] (gName 7) X encT _ (ri_list (re_var 3 rfl)) (by omega) (fun s H C cl fp => pg_name nd rfl (Or.inl rfl)) fun o ho => ⟨_, gr_name 7, fun M' s H0 C' cl fp => ?_⟩)))) (fun hb => ?_) fun hb => rss_nil ?_)
      · exact re_and ((re_cmp (re_var 7 rfl) (re_var 6 rfl) (od_ne hr.units pl_ints pl_ints)).to (by rw [eqD_ints])) fun _ => re_one (re_call (h_law_are_below E) (hr.mono (by decide)) (ra_cons (re_var 7 rfl) (ra_cons (re_var 6 rfl) ra_nil)) ⟨o, one, by rw [(hok o ho).1, hone'.1], by rw [(hok o ho).1]; omega, rfl, rfl⟩)
      · refine rss_one (rst_expr (re_append (m := 0) 0 (re_var 5 rfl) rfl (re_var 6 rfl) rfl ?_) ⟨_, _, _, rfl, ?_⟩)
        · rw [List.length_map]
          have := List.length_filter_le (isMin X) ((srtU (TS.code 5) X).take i)
          rw [List.length_take] at this; omega
        · rw [take_snoc hone, List.filter_append]
          simp [hb]
      · refine ⟨_, _, _, rfl, ?_⟩
        rw [take_snoc hone, List.filter_append]
        simp [hb]
    · obtain ⟨a6, a7, a4, rfl, rfl⟩ := hI
      rw [List.take_of_length_le (by rw [List.length_map]; exact Nat.le_refl _)]
      exact rss_one (rst_ret (re_callTy E.z_tuple (ra_cons (re_var 5 rfl) ra_nil) (cd_tupleO 0 rfl)) ⟨rfl, by simp⟩)
end
end K80
namespace K80
open PySem PySem.Spec PyProof.Rows L2 DV
def clampZ (x : Int) : Int := if (if x > 0 then x else 0) < 4 then (if x > 0 then x else 0) else 4
theorem clampZ_bd (x : Int) : 0 ≤ clampZ x ∧ clampZ x ≤ 4 := by unfold clampZ; split <;> split <;> omega
def otherLots (h : Hand) (m : Nat) (lots : List (List Int)) : List (List Int) × Hand :=
  let d1 := draw h 4
  if d1.1 = 0 ∨ lots.length = 0 then kindLots d1.2 m 6 else
    let d2 := draw d1.2 lots.length
    let b := lots.getD d2.1.toNat []
    let found := lots.filter fun l => !decide (l = b)
    if 1 < d1.1 then
      let d3 := draw d2.2 m
      let d4 := draw d3.2 2
      let more := b.set d3.1.toNat (clampZ (b.getD d3.1.toNat 0 + 2 * d4.1 - 1))
      (minimal (if 1 < more.sum then found ++ [more] else found), d4.2)
    else (minimal found, d2.2)
theorem kindLots_ok (h : Hand) {m : Nat} (hm : 1 ≤ m) : Good m (kindLots h m 6).1 ∧ (kindLots h m 6).1.length ≤ 6 := by
  have hd := draw_bd h (m := 6 + 1) (by decide)
  have hl := drawnL_len (draw h (6 + 1)).2 m (draw h (6 + 1)).1.toNat
  refine ⟨minimal_good (drawnL_ok _ hm _) (by omega), ?_⟩
  have h1 := List.length_filter_le (isMin (drawnL (draw h (6 + 1)).2 m (draw h (6 + 1)).1.toNat)) (srtU (TS.code 5) (drawnL (draw h (6 + 1)).2 m (draw h (6 + 1)).1.toNat))
  have h2 := srtU_le (TS.code 5) (drawnL (draw h (6 + 1)).2 m (draw h (6 + 1)).1.toNat)
  show (minimal _).length ≤ 6
  unfold minimal; omega
section
variable {P : Program} {w : World} {K : PySem.W.Frag} {mg : Str → Option Value} {base : Heap} {C : Addr}
def rOther : O → List D → D → O → Prop := fun ob ds d ob' => ∃ (h : Hand) (m : Nat) (lots : List (List Int)), 1 ≤ m ∧ m ≤ 3 ∧ Good m lots ∧ lots.length ≤ 6 ∧ ob = .lst (encH h) ∧ ds = [.int m, encTT lots] ∧ d = encTT (otherLots h m lots).1 ∧ ob' = .lst (encH (otherLots h m lots).2)
theorem h_law_other_lots (E : Fx K mg C) : HasF P w K mg base "_law_other_lots" 4 (spO K 3 rOther) := by
  refine has_of (ps := ["hand", "many", "lots"]) E.f_law_other_lots (fun f fd F => fun_O F sc_law_other_lots rfl fun cdv A outer s H Ex M a ob ds d ob' hr hR hn => ?_) (fun _ _ _ _ _ _ us hl => match us, hl with | [_, _, _], _ => rfl)
  obtain ⟨h, m, lots, h1, h3, hG, h6, rfl, rfl, rfl, rfl⟩ := hR
  have nd := sc_law_other_lots.nd
  have hd1 := draw_bd h (m := 4) (by decide)
  refine rss_cons (rst_set 3 nd (re_callO 0 (h_law_draw E) (hr.mono (by decide)) (ra_cons (re_var 0 rfl) (ra_cons re_int ra_nil)) rfl ⟨h, 4, by decide, by decide, rfl, rfl, rfl, rfl⟩) ?_)
  refine rss_cons (rst_if (k := decide ((draw h 4).1 = 0) || decide ((lots.length : Int) = 0)) (RW.rt (rw_or (rt_cmp (re_var 3 rfl) re_int od_eqI) fun _ => rw_or1 ((rt_cmp (re_callB E.z_len (ra_cons (re_var 2 rfl) ra_nil) cd_lenT) re_int od_eqI).to (by rw [List.length_map])))) (fun hb => ?_) fun hb => rss_nil ?_)
  · have hb' : (draw h 4).1 = 0 ∨ lots.length = 0 := by simpa using hb
    have e : otherLots h m lots = kindLots (draw h 4).2 m 6 := by unfold otherLots; dsimp only; rw [if_pos hb']
    rw [e]
    exact rss_one (rst_ret (re_callO 0 (h_law_kind_lots E) hr (ra_cons (re_var 0 rfl) (ra_cons (re_var 1 rfl) (ra_cons re_int ra_nil))) rfl ⟨(draw h 4).2, m, h1, h3, rfl, rfl, rfl, rfl⟩) ⟨rfl, by simp⟩)
  · have hb' : ¬ ((draw h 4).1 = 0 ∨ lots.length = 0) := by
      intro z
      have : (decide ((draw h 4).1 = 0) || decide ((lots.length : Int) = 0)) = true := by simpa using z
      rw [this] at hb; cases hb
    have hd2 := draw_bd (draw h 4).2 (m := (lots.length : Int)) (by omega)
    have hj : (draw (draw h 4).2 lots.length).1.toNat < lots.length := by omega
    obtain ⟨b, hbm⟩ : ∃ b, lots[(draw (draw h 4).2 lots.length).1.toNat]? = some b := ⟨_, List.getElem?_eq_getElem hj⟩
    have hb2 : lots.getD (draw (draw h 4).2 lots.length).1.toNat [] = b := by rw [List.getD_eq_getElem?_getD, hbm]; rfl
    have hbl := hG.len b (List.mem_of_getElem? hbm)
    have hbc := hG.cnt b (List.mem_of_getElem? hbm)
    have hat : atI (lots.map encT) (draw (draw h 4).2 lots.length).1 = some (encT b) := atI_nat' (i := (draw (draw h 4).2 lots.length).1.toNat) (by rw [List.getElem?_map, hbm]; rfl) (by omega)
    have hfl : (lots.filter fun l => !decide (l = b)).length ≤ 6 := Nat.le_trans (List.length_filter_le _ _) h6
    have hfo : ∀ l ∈ lots.filter fun l => !decide (l = b), LotOk m l := fun l hl => ⟨hG.len l (List.mem_filter.mp hl).1, hG.cnt l (List.mem_filter.mp hl).1⟩
    refine rss_cons (rst_set 4 nd (re_callO 0 (h_law_draw E) (hr.mono (by decide)) (ra_cons (re_var 0 rfl) (ra_cons (re_callB E.z_len (ra_cons (re_var 2 rfl) ra_nil) cd_lenT) ra_nil)) rfl ⟨(draw h 4).2, lots.length, by omega, by omega, rfl, by rw [List.length_map], rfl, rfl⟩) ?_)
    refine rss_cons (rst_setLcN 5 rfl nd (lc_filter [("lot", 6)] (gName 6) lots encT encT (fun l => !decide (l = b)) (ri_tup (re_var 2 rfl)) (by omega) (fun s H C cl fp => pg_name nd rfl (Or.inl rfl)) fun l hl => ⟨_, gr_name 6, fun M' s H0 C' cl fp => ?_, fun _ M' s H0 C' cl fp => re_var 6 rfl⟩) fun p => ?_)
    · exact (rt_cmp (re_var 6 rfl) (re_ix (re_var 2 rfl) (re_var 4 rfl) (ix_T hat)) (od_ne hr.units pl_ints pl_ints)).to (by rw [eqD_ints])
    refine rss_mid (fun δ ω => ∃ X hf a6 a7 a8, otherLots h m lots = (minimal X, hf) ∧ (∀ l ∈ X, LotOk m l) ∧ X.length ≤ 12 ∧ δ = [some (.ptr a), some (.int m), some (encTT lots), some (.int (draw h 4).1), some (.int (draw (draw h 4).2 lots.length).1), some (.ptr p), a6, a7, a8, none, none, none] ∧ ω = [(p, .lst (X.map encT)), (a, .lst (encH hf))])
      (rst_if (k := decide (1 < (draw h 4).1)) (rt_cmp (re_var 3 rfl) re_int od_gt) (fun hc => ?_) fun hc => rss_nil ?_) ?_
    · have hc' : 1 < (draw h 4).1 := by simpa using hc
      have hd3 := draw_bd (draw (draw h 4).2 lots.length).2 (m := (m : Int)) (by omega)
      have hk : (draw (draw (draw h 4).2 lots.length).2 m).1.toNat < b.length := by omega
      refine rss_cons (rst_setN 7 nd (rn_callTy E.z_list (ra_cons (re_ix (re_var 2 rfl) (re_var 4 rfl) (ix_T hat)) ra_nil) cn_listT) fun q => ?_)
      refine rss_cons (rst_set 8 nd (re_callO 2 (h_law_draw E) (hr.mono (by decide)) (ra_cons (re_var 0 rfl) (ra_cons (re_var 1 rfl) ra_nil)) rfl ⟨(draw (draw h 4).2 lots.length).2, m, by omega, by omega, rfl, rfl, rfl, rfl⟩) ?_)
      have hixn : ixN (b.map D.int).length (draw (draw (draw h 4).2 lots.length).2 m).1 = some (draw (draw (draw h 4).2 lots.length).2 m).1.toNat := by
        unfold ixN; rw [if_pos hd3.1, if_pos (by rw [List.length_map, hbl]; exact hd3.2)]
      have hbk : atI (b.map D.int) (draw (draw (draw h 4).2 lots.length).2 m).1 = some (.int (b.getD (draw (draw (draw h 4).2 lots.length).2 m).1.toNat 0)) := atI_nat' (i := (draw (draw (draw h 4).2 lots.length).2 m).1.toNat) (by rw [List.getElem?_map, getD_some hk]; rfl) (by omega)
      refine rss_cons (rst_setitem (n := 0) (j := (draw (draw (draw h 4).2 lots.length).2 m).1.toNat) (re_callB E.z_min (ra_cons re_int (ra_cons (re_callB E.z_max (ra_cons re_int (ra_cons (re_bin (re_bin (re_ix (re_var 7 rfl) (re_var 8 rfl) (ix_O 0 rfl hbk)) (re_bin re_int (re_callO 2 (h_law_draw E) (hr.mono (by decide)) (ra_cons (re_var 0 rfl) (ra_cons re_int ra_nil)) rfl ⟨(draw (draw (draw h 4).2 lots.length).2 m).2, 2, by decide, by decide, rfl, rfl, rfl, rfl⟩) (od_mul (Or.inl (by decide)))) od_add) re_int od_sub) ra_nil)) cd_max2) ra_nil)) cd_min2) (re_var 7 rfl) (re_var 8 rfl) rfl hixn ?_)
      have eM : (b.map D.int).set (draw (draw (draw h 4).2 lots.length).2 m).1.toNat (D.int (clampZ (b.getD (draw (draw (draw h 4).2 lots.length).2 m).1.toNat 0 + 2 * (draw (draw (draw (draw h 4).2 lots.length).2 m).2 2).1 - 1))) = (b.set (draw (draw (draw h 4).2 lots.length).2 m).1.toNat (clampZ (b.getD (draw (draw (draw h 4).2 lots.length).2 m).1.toNat 0 + 2 * (draw (draw (draw (draw h 4).2 lots.length).2 m).2 2).1 - 1))).map D.int := by rw [List.map_set]
      have hmbd : ∀ x ∈ b.set (draw (draw (draw h 4).2 lots.length).2 m).1.toNat (clampZ (b.getD (draw (draw (draw h 4).2 lots.length).2 m).1.toNat 0 + 2 * (draw (draw (draw (draw h 4).2 lots.length).2 m).2 2).1 - 1)), 0 ≤ x ∧ x ≤ 4 := fun x hx => by
        rcases List.mem_or_eq_of_mem_set hx with hx | rfl
        · exact isCounts_bd hbc x hx
        · exact clampZ_bd _
      have hmlen : (b.set (draw (draw (draw h 4).2 lots.length).2 m).1.toNat (clampZ (b.getD (draw (draw (draw h 4).2 lots.length).2 m).1.toNat 0 + 2 * (draw (draw (draw (draw h 4).2 lots.length).2 m).2 2).1 - 1))).length = m := by rw [List.length_set]; exact hbl
      have eO : otherLots h m lots = (minimal (if 1 < (b.set (draw (draw (draw h 4).2 lots.length).2 m).1.toNat (clampZ (b.getD (draw (draw (draw h 4).2 lots.length).2 m).1.toNat 0 + 2 * (draw (draw (draw (draw h 4).2 lots.length).2 m).2 2).1 - 1))).sum then (lots.filter fun l => !decide (l = b)) ++ [b.set (draw (draw (draw h 4).2 lots.length).2 m).1.toNat (clampZ (b.getD (draw (draw (draw h 4).2 lots.length).2 m).1.toNat 0 + 2 * (draw (draw (draw (draw h 4).2 lots.length).2 m).2 2).1 - 1))] else lots.filter fun l => !decide (l = b)), (draw (draw (draw (draw h 4).2 lots.length).2 m).2 2).2) := by
        unfold otherLots; dsimp only; rw [if_neg hb', if_pos hc', hb2]
      refine rss_frz (ds := (b.set (draw (draw (draw h 4).2 lots.length).2 m).1.toNat (clampZ (b.getD (draw (draw (draw h 4).2 lots.length).2 m).1.toNat 0 + 2 * (draw (draw (draw (draw h 4).2 lots.length).2 m).2 2).1 - 1))).map D.int) 7 0 rfl (by rw [← eM]; rfl) ?_
      generalize (b.set (draw (draw (draw h 4).2 lots.length).2 m).1.toNat (clampZ (b.getD (draw (draw (draw h 4).2 lots.length).2 m).1.toNat 0 + 2 * (draw (draw (draw (draw h 4).2 lots.length).2 m).2 2).1 - 1))) = mo at hmbd hmlen eO ⊢
      refine rss_one (rst_if (k := decide (1 < mo.sum)) (rt_cmp (re_callB E.z_sum (ra_cons (re_var 7 rfl) ra_nil) cd_sumL) re_int od_gt) (fun he => ?_) fun he => rss_nil ?_)
      · have he' : 1 < mo.sum := by simpa using he
        rw [if_pos he'] at eO
        refine rss_one (rst_expr (re_append (m := 0) 0 (re_var 5 rfl) rfl (re_callTy E.z_tuple (ra_cons (re_var 7 rfl) ra_nil) cd_tupleL) rfl (by rw [List.length_map]; omega)) ⟨_, _, _, _, _, eO, fun l hl => ?_, by rw [List.length_append]; simp only [List.length_singleton]; omega, rfl, ?_⟩)
        · rcases List.mem_append.mp hl with hl | hl
          · exact hfo l hl
          · rw [List.mem_singleton] at hl; subst hl
            exact ⟨hmlen, isCounts_of hmbd he'⟩
        · rw [List.map_append]; rfl
      · have he' : ¬ 1 < mo.sum := by simpa using he
        rw [if_neg he'] at eO
        exact ⟨_, _, _, _, _, eO, hfo, by omega, rfl, rfl⟩
    · have hc' : ¬ 1 < (draw h 4).1 := by simpa using hc
      exact ⟨_, _, _, _, _, by unfold otherLots; dsimp only; rw [if_neg hb', if_neg hc', hb2], hfo, by omega, rfl, rfl⟩
    · rintro δ' ω' ⟨X, hf, a6, a7, a8, eO, hok, hX, rfl, rfl⟩
      rw [eO]
      have hS := srtU_le (TS.code 5) X
      refine rss_frz (ds := X.map encT) 5 0 rfl rfl ?_
      refine rss_cons (rst_setN 9 nd (rn_lst ra_nil) fun p9 => ?_)
      refine rss_cons (rst_for rfl PassesOwn.never (fun i δ ω => ∃ a10 a11, δ = [some (.ptr a), some (.int m), some (encTT lots), some (.int (draw h 4).1), some (.int (draw (draw h 4).2 lots.length).1), some (.lst (X.map encT)), a6, a7, a8, some (.ptr p9), a10, a11] ∧ ω = [(p9, .lst ((((srtU (TS.code 5) X).take i).filter (isMin X)).map encT)), (a, .lst (encH hf))])
        (ri_list (RN.re (rn_sortedSet (B := 5) (n := m) rfl hr.units E.z_sorted E.z_set (re_var 5 rfl) (Or.inl rfl) (by omega) h1 fun k hk => ⟨(hok k hk).1, lotOk_bd (hok k hk)⟩))) ⟨none, none, rfl, rfl⟩ (fun i d δ' ω' hd hI => ?_) fun δ' ω' hI => ?_)
      · obtain ⟨a10, a11, rfl, rfl⟩ := hI
        rw [List.getElem?_map] at hd
        obtain ⟨one, hone, rfl⟩ := Option.map_eq_some_iff.mp hd
        have hone' := hok one (srtU_sub (List.mem_of_getElem? hone))
        refine ⟨_, rg_name 10 nd, ?_⟩
        refine rss_one (rst_if (k := isMin X one) (rt_not (k := X.any fun o => !decide (o = one) && leZ o one) (rt_val (re_any (xs := X) (g := fun o => !decide (o = one) && leZ o one) E.z_any rfl nd (lc_map [("other", 11)] (gName 11) X encT _ (ri_list (re_var 5 rfl)) (by omega) (fun s H C cl fp => pg_name nd rfl (Or.inl rfl)) fun o ho => ⟨_, gr_name 11, fun M' s H0 C' cl fp => ?_⟩)))) (fun hb => ?_) fun hb => rss_nil ?_)
        · exact re_and ((re_cmp (re_var 11 rfl) (re_var 10 rfl) (od_ne hr.units pl_ints pl_ints)).to (by rw [eqD_ints])) fun _ => re_one (re_call (h_law_are_below E) (hr.mono (by decide)) (ra_cons (re_var 11 rfl) (ra_cons (re_var 10 rfl) ra_nil)) ⟨o, one, by rw [(hok o ho).1, hone'.1], by rw [(hok o ho).1]; omega, rfl, rfl⟩)
        · refine rss_one (rst_expr (re_append (m := 0) 0 (re_var 9 rfl) rfl (re_var 10 rfl) rfl ?_) ⟨_, _, rfl, ?_⟩)
          · rw [List.length_map]
            have := List.length_filter_le (isMin X) ((srtU (TS.code 5) X).take i)
            rw [List.length_take] at this; omega
          · rw [take_snoc hone, List.filter_append]
            simp [hb]
        · refine ⟨_, _, rfl, ?_⟩
          rw [take_snoc hone, List.filter_append]
          simp [hb]
      · obtain ⟨a10, a11, rfl, rfl⟩ := hI
        rw [List.take_of_length_le (by rw [List.length_map]; exact Nat.le_refl _)]
        exact rss_one (rst_ret (re_callTy E.z_tuple (ra_cons (re_var 9 rfl) ra_nil) (cd_tupleO 0 rfl)) ⟨rfl, by simp⟩)
end
end K80
namespace K80
open PySem PySem.Spec PyProof.Rows L2 DV
def fL (cs : List Int) (ls os : List (List Int)) (s : Pr) (k : Nat) : Option Pr := if (stepL ls s.1 k).1 = (stepL os s.2 k).1 then some (cap2 (stepL ls s.1 k).2 cs, cap2 (stepL os s.2 k).2 cs) else none
theorem stepL_nn {lots : List (List Int)} {c : List Int} {k m : Nat} (h : StOk m c) (hk : k < m) : (stepL lots c k).2.length = m ∧ ∀ x ∈ (stepL lots c k).2, 0 ≤ x := by
  unfold stepL
  split
  · exact ⟨h.1, fun x hx => (h.2 x hx).1⟩
  · exact ⟨by dsimp only; rw [bump_len (by rw [h.1]; exact hk)]; exact h.1, bump_nn fun x hx => (h.2 x hx).1⟩
theorem fL_ok {m : Nat} {cs : List Int} {ls os : List (List Int)} (hl : cs.length = m) (hc : ∀ x ∈ cs, 0 ≤ x ∧ x ≤ 4) (s : Pr) (k : Nat) (g : Pr) (hs : PrOk m s) (hk : k < m) (h : fL cs ls os s k = some g) : PrOk m g := by
  unfold fL at h
  split at h
  · cases h
    obtain ⟨a, b⟩ := stepL_nn (lots := ls) hs.1 hk
    obtain ⟨c, d⟩ := stepL_nn (lots := os) hs.2 hk
    exact ⟨cap2_ok a b hl hc, cap2_ok c d hl hc⟩
  · cases h
section
variable {P : Program} {w : World} {K : PySem.W.Frag} {mg : Str → Option Value} {base : Heap} {C : Addr}
def rPart : List D → D → Prop := fun ds d => ∃ (m : Nat) (ls os : List (List Int)) (r : Option (List Nat)), 1 ≤ m ∧ m ≤ 3 ∧ Good m ls ∧ Good m os ∧ Best (fL (capsP m (ls ++ os)) ls os) m (zeros m, zeros m) r ∧ ds = [.int m, encTT ls, encTT os] ∧ d = encRes r
theorem h_law_parting (E : Fx K mg C) : HasF P w K mg base "_law_parting" 3 (spP K 3 rPart) := by
  refine has_of (ps := ["many", "lots", "others"]) E.f_law_parting (fun f fd F => fun_P F sc_law_parting rfl fun cdv A outer s H Ex M ds d hr hR hn => ?_) (fun _ _ _ _ _ _ us hl => match us, hl with | [_, _, _], _ => rfl)
  obtain ⟨m, ls, os, r, h1, h3, hG1, hG2, hB, rfl, rfl⟩ := hR
  have nd := sc_law_parting.nd
  have hok0 : PrOk m (zeros m, zeros m) := ⟨zeros_ok m, zeros_ok m⟩
  have hu := hr.units
  have hf1 := hG1.few
  have hf2 := hG2.few
  have hcl : (capsP m (ls ++ os)).length = m := capsP_len _ _
  have hcb : ∀ x ∈ capsP m (ls ++ os), 0 ≤ x ∧ x ≤ 4 := capsP_bd fun l hl => by
    rcases List.mem_append.mp hl with hl | hl
    · exact hG1.cnt l hl
    · exact hG2.cnt l hl
  have eZ : (List.replicate m [D.int 0]).flatten = (zeros m).map .int := flat_zeros m
  refine rss_cons (rst_set 3 nd (re_call (h_law_caps E) (hr.mono (by decide)) (ra_cons (re_var 0 rfl) (ra_cons ((re_bin (re_var 1 rfl) (re_var 2 rfl) (od_catT (by simp; omega))).to (b := encTT (ls ++ os)) (by rw [← List.map_append])) ra_nil)) ⟨m, ls ++ os, h3, by rw [List.length_append]; omega, fun l hl => by
    rcases List.mem_append.mp hl with hl | hl
    · exact hG1.len l hl
    · exact hG2.len l hl, rfl, rfl⟩) ?_)
  generalize capsP m (ls ++ os) = cs at hB hcl hcb ⊢
  refine rss_cons (rst_set (d := encP (zeros m, zeros m)) 4 nd ((re_tup (ra_cons (re_bin (re_tup (ra_cons re_int ra_nil)) (re_var 0 rfl) (od_repT (by simp) (by omega) (by omega) (by simp))) (ra_cons (re_bin (re_tup (ra_cons re_int ra_nil)) (re_var 0 rfl) (od_repT (by simp) (by omega) (by omega) (by simp))) ra_nil))).to (by rw [Int.toNat_natCast, eZ])) ?_)
  refine rss_cons (rst_disp1 (k := keyP (zeros m, zeros m)) 5 nd hu (fun M' => (re_var 4 rfl).to (keyD_pair _).symm) (fun M' => re_bl) (key_tup _) (keyP_depth _) fun q => ?_)
  refine rss_cons (rst_setN 6 nd (rn_lst (ra_cons (re_tup (ra_cons (re_var 4 rfl) (ra_cons (re_tup ra_nil) ra_nil))) ra_nil)) fun p => ?_)
  refine rss_cons (rst_for rfl PassesOwn.never (fun i δ ω => ∃ (W : List (Pr × List Nat)) (a7 a8 a9 a10 a11 a12 a13 a14 a15 : Option D),
      ((At (fL cs ls os) m (zeros m, zeros m) i 0 W ∧ i < W.length) ∨ (Best (fL cs ls os) m (zeros m, zeros m) none ∧ W.length ≤ i)) ∧
      δ = [some (.int m), some (encTT ls), some (encTT os), some (encT cs), some (encP (zeros m, zeros m)), some (.ptr q), some (.ptr p), a7, a8, a9, a10, a11, a12, a13, a14, a15] ∧ ω = omW P w p q W)
      (ri_range1 E.z_range re_int (by decide) (by decide)) ?_ (fun i d δ' ω' hd hI => ?_) fun δ' ω' hI => ?_)
  · exact ⟨[((zeros m, zeros m), [])], none, none, none, none, none, none, none, none, none, .inl ⟨at_start _, by simp⟩, rfl, rfl⟩
  · obtain ⟨W, a7, a8, a9, a10, a11, a12, a13, a14, a15, hW, rfl, rfl⟩ := hI
    obtain ⟨hi2, rfl⟩ := rangeD_get hd
    rw [Int.zero_add]
    refine ⟨_, rg_name 7 nd, ?_⟩
    refine rss_cons (rst_if (k := decide (((W.map encE).length : Int) ≤ (i : Int))) (rt_cmp (re_var 7 rfl) (re_callB E.z_len (ra_cons (re_var 6 rfl) ra_nil) (cd_lenO 0 rfl)) od_ge) (fun hb => ?_) fun hb => rss_nil ?_)
    · have hi : W.length ≤ i := by simpa using hb
      rcases hW with ⟨_, hW⟩ | ⟨hW, _⟩
      case inl => omega
      have hr' := best_unique h3 hB hW
      subst hr'
      exact rss_one (rst_ret re_non rfl)
    · have hi : i < W.length := by simpa using hb
      rcases hW with ⟨hW, _⟩ | ⟨_, hW⟩
      case inr => omega
      obtain ⟨e, he⟩ : ∃ e, W[i]? = some e := ⟨_, List.getElem?_eq_getElem hi⟩
      have hem := List.mem_of_getElem? he
      obtain ⟨hall, hfew⟩ := few h3 hW hok0 (fL_ok hcl hcb)
      have hrow := hW.long i e he
      have heok := hall e hem
      refine rss_cons (rst_asg (re_ix (re_var 6 rfl) (re_var 7 rfl) (ix_O 0 rfl (atI_nat (by rw [List.getElem?_map, he]; rfl)))) (rg_tup2 rfl (rg_name 8 nd) (rg_name 9 nd)) ?_)
      refine rss_one (rst_for rfl PassesOwn.never (fun k δ ω => ∃ (W : List (Pr × List Nat)) (a10 a11 a12 a13 a14 a15 : Option D), At (fL cs ls os) m (zeros m, zeros m) i k W ∧ W[i]? = some e ∧
        δ = [some (.int m), some (encTT ls), some (encTT os), some (encT cs), some (encP (zeros m, zeros m)), some (.ptr q), some (.ptr p), some (.int (i : Int)), some (encP e.1), some (encR e.2), a10, a11, a12, a13, a14, a15] ∧ ω = omW P w p q W)
        (ri_to (ri_range1 E.z_range (re_var 0 rfl) (by omega) (by omega)) (by rw [Int.toNat_natCast, rangeD_map])) ⟨W, a10, a11, a12, a13, a14, a15, hW, he, rfl, rfl⟩ (fun k d δ' ω' hd hI => ?_) fun δ' ω' hI => ?_)
      · obtain ⟨W, a10, a11, a12, a13, a14, a15, hW, he, rfl, rfl⟩ := hI
        obtain ⟨hall, hfew⟩ := few h3 hW hok0 (fL_ok hcl hcb)
        rw [List.getElem?_map] at hd
        obtain ⟨k', hk', rfl⟩ := Option.map_eq_some_iff.mp hd
        have hkm : k < m := by have := (List.getElem?_eq_some_iff.mp hk').1; simpa using this
        rw [List.getElem?_range hkm] at hk'
        cases hk'
        have hl1 := (stepL_nn (lots := ls) heok.1 hkm).1
        have hl2 := (stepL_nn (lots := os) heok.2 hkm).1
        refine ⟨_, rg_name 10 nd, ?_⟩
        refine rss_cons (rst_asg (re_call (h_law_step E) hr (ra_cons (re_var 1 rfl) (ra_cons (re_ix (re_var 8 rfl) re_int (ix_T rfl)) (ra_cons (re_var 10 rfl) ra_nil))) ⟨m, ls, e.1.1, k, h3, hG1, heok.1.1, hkm, rfl, rfl⟩) (rg_tup2 rfl (rg_name 11 nd) (rg_name 12 nd)) ?_)
        refine rss_cons (rst_asg (re_call (h_law_step E) hr (ra_cons (re_var 2 rfl) (ra_cons (re_ix (re_var 8 rfl) re_int (ix_T rfl)) (ra_cons (re_var 10 rfl) ra_nil))) ⟨m, os, e.1.2, k, h3, hG2, heok.2.1, hkm, rfl, rfl⟩) (rg_tup2 rfl (rg_name 13 nd) (rg_name 14 nd)) ?_)
        refine rss_cons (rst_if (k := !decide ((stepL ls e.1.1 k).1 = (stepL os e.1.2 k).1)) ((rt_cmp (re_var 11 rfl) (re_var 13 rfl) (od_ne hr.units pl_bl pl_bl)).to (by rw [eqD_bl])) (fun hb => ?_) fun hb => rss_nil ?_)
        · have hne : fL cs ls os e.1 k = none := by unfold fL; rw [if_neg (by simpa using hb)]
          have hr' := best_unique h3 hB (hW.found h3 he hkm hne)
          subst hr'
          refine rss_one (rst_ret (re_bin (re_var 9 rfl) (re_tup (ra_cons (re_var 10 rfl) ra_nil)) (od_catT ?_)) ?_)
          · simp; omega
          · show D.tup _ = D.tup _
            simp
        · have heq : fL cs ls os e.1 k = some (cap2 (stepL ls e.1.1 k).2 cs, cap2 (stepL os e.1.2 k).2 cs) := by unfold fL; rw [if_pos (by simpa using hb)]
          refine rss_cons (rst_set 15 nd (re_tup (ra_cons (re_call (h_law_capped E) (hr.mono (by decide)) (ra_cons (re_var 12 rfl) (ra_cons (re_var 3 rfl) ra_nil)) ⟨_, cs, by rw [hl1, hcl], by omega, rfl, rfl⟩) (ra_cons (re_call (h_law_capped E) (hr.mono (by decide)) (ra_cons (re_var 14 rfl) (ra_cons (re_var 3 rfl) ra_nil)) ⟨_, cs, by rw [hl2, hcl], by omega, rfl, rfl⟩) ra_nil))) ?_)
          refine rss_one (rst_if (k := !hasK (kvW W) (keyP (cap2 (stepL ls e.1.1 k).2 cs, cap2 (stepL os e.1.2 k).2 cs))) (rt_cmp ((re_var 15 rfl).to (keyD_pair _).symm) (re_var 5 rfl) (od_notInDk 1 hr.units (key_tup _) (keyP_depth _) rfl)) (fun hb => ?_) fun hb => rss_nil ?_)
          · have hno : hasK (kvW W) (keyP (cap2 (stepL ls e.1.1 k).2 cs, cap2 (stepL os e.1.2 k).2 cs)) = false := by simpa using hb
            have hno' := hno
            rw [hasK_kvs, List.any_eq_false] at hno'
            refine rss_cons (rst_setDk 1 hr.units re_bl (re_var 5 rfl) ((re_var 15 rfl).to (keyD_pair _).symm) (key_tup _) (keyP_depth _) rfl hno (by rw [List.length_map]; omega) ?_)
            refine rss_one (rst_expr (re_append (m := 0) 0 (re_var 6 rfl) rfl (re_tup (ra_cons (re_var 15 rfl) (ra_cons (re_bin (re_var 9 rfl) (re_tup (ra_cons (re_var 10 rfl) ra_nil)) (od_catT (by simp; omega))) ra_nil))) rfl (by rw [List.length_map]; omega)) ?_)
            refine ⟨W ++ [((cap2 (stepL ls e.1.1 k).2 cs, cap2 (stepL os e.1.2 k).2 cs), e.2 ++ [k])], _, _, _, _, _, _, hW.new he hkm heq (fun x hx => by simpa using hno' x hx), ?_, rfl, ?_⟩
            · rw [List.getElem?_append_left (List.getElem?_eq_some_iff.mp he).1]; exact he
            · simp [omW, encE]
              exact ⟨rfl, rfl⟩
          · have hyes : hasK (kvW W) (keyP (cap2 (stepL ls e.1.1 k).2 cs, cap2 (stepL os e.1.2 k).2 cs)) = true := by simpa using hb
            rw [hasK_kvs, List.any_eq_true] at hyes
            obtain ⟨x, hx, hxe⟩ := hyes
            have hxe : x.1 = (cap2 (stepL ls e.1.1 k).2 cs, cap2 (stepL os e.1.2 k).2 cs) := of_decide_eq_true hxe
            exact ⟨W, _, _, _, _, _, _, hW.old he hkm (heq.trans (by rw [hxe])) hx, he, rfl, rfl⟩
      · obtain ⟨W, a10, a11, a12, a13, a14, a15, hW, he, rfl, rfl⟩ := hI
        have hi := (List.getElem?_eq_some_iff.mp he).1
        rw [List.length_map, List.length_range] at hW
        refine ⟨W, _, _, _, _, _, _, _, _, _, ?_, rfl, rfl⟩
        by_cases hl : i + 1 < W.length
        · exact .inl ⟨hW.next h3 (List.getElem?_eq_getElem hl), hl⟩
        · exact .inr ⟨hW.over h3 (by omega), by omega⟩
  · obtain ⟨W, a7, a8, a9, a10, a11, a12, a13, a14, a15, hW, rfl, rfl⟩ := hI
    rw [rangeD_len] at hW
    rcases hW with ⟨hW, hl⟩ | ⟨hW, _⟩
    · have := (few h3 hW hok0 (fL_ok hcl hcb)).2
      have : (20000 : Int).toNat = 20000 := rfl
      omega
    · have hr' := best_unique h3 hB hW
      subst hr'
      exact rss_one (rst_ret re_non rfl)
end
end K80
namespace K80
open DV
/-! ### the plain law -/
theorem leZ_iff {xs ys : List Int} (h : xs.length = ys.length) : leZ xs ys = true ↔ ∀ i, i < xs.length → xs.getD i 0 ≤ ys.getD i 0 := by
  rw [← range_le h, List.all_eq_true]
  exact ⟨fun a i hi => by simpa using a i (List.mem_range.mpr hi), fun a i hi => by simpa using a i (List.mem_range.mp hi)⟩
theorem bump_get {c : List Int} {k : Nat} (hk : k < c.length) (i : Nat) : (bump c k).getD i 0 = c.getD i 0 + if i = k then 1 else 0 := by
  have e : bump c k = c.set k (c.getD k 0 + 1) := by
    unfold bump
    rw [List.set_eq_take_append_cons_drop, if_pos hk]
    simp
  rw [e, List.getD_eq_getElem?_getD, List.getD_eq_getElem?_getD]
  by_cases h : i = k
  · subst h
    rw [List.getElem?_set_self hk, if_pos rfl, List.getD_eq_getElem?_getD]; rfl
  · rw [List.getElem?_set_ne (fun z => h z.symm), if_neg h, Int.add_zero, List.getD_eq_getElem?_getD]
theorem cap2_get {c cs : List Int} (h : c.length = cs.length) {i : Nat} (hi : i < c.length) : (cap2 c cs).getD i 0 = minZ (c.getD i 0) (cs.getD i 0) := by
  rw [← range_min h, List.getD_eq_getElem?_getD, List.getElem?_map, List.getElem?_range (by omega)]; rfl
theorem ext_get {xs ys : List Int} (h : xs.length = ys.length) (he : ∀ i, i < xs.length → xs.getD i 0 = ys.getD i 0) : xs = ys := by
  refine List.ext_getElem h fun i h1 h2 => ?_
  have := he i h1
  rw [List.getD_eq_getElem?_getD, List.getD_eq_getElem?_getD, List.getElem?_eq_getElem h1, List.getElem?_eq_getElem h2] at this
  exact this
theorem le_maxI {ks : List Int} {y : Int} (h : y ∈ ks) : y ≤ maxI ks := by
  have ge : ∀ (ks : List Int) (a y : Int), (y = a ∨ y ∈ ks) → y ≤ ks.foldl (fun a b => if b > a then b else a) a := by
    intro ks
    induction ks with
    | nil => intro a y hy; rcases hy with rfl | hy
             · exact Int.le_refl _
             · cases hy
    | cons k ks ih =>
      intro a y hy
      rw [List.foldl_cons]
      rcases hy with rfl | hy
      · refine Int.le_trans ?_ (ih (if k > y then k else y) _ (.inl rfl))
        split <;> omega
      · rcases List.mem_cons.mp hy with rfl | hy
        · refine Int.le_trans ?_ (ih (if y > a then y else a) _ (.inl rfl))
          split <;> omega
        · exact ih _ y (.inr hy)
  exact ge ks _ y (.inr h)
theorem capsP_get {m : Nat} {lots : List (List Int)} {k : Nat} (hk : k < m) : (capsP m lots).getD k 0 = maxI (lots.map (fun l => l.getD k 0) ++ [0]) := by
  unfold capsP
  rw [List.getD_eq_getElem?_getD, List.getElem?_map, List.getElem?_range hk]; rfl
/-- no lot asks for more than the caps -/
def Caps (m : Nat) (lots : List (List Int)) (cs : List Int) : Prop := cs.length = m ∧ (∀ k, k < m → 0 ≤ cs.getD k 0) ∧ ∀ l ∈ lots, l.length = m ∧ ∀ k, k < m → l.getD k 0 ≤ cs.getD k 0
theorem caps_of {m : Nat} {lots all : List (List Int)} (hs : ∀ l ∈ lots, l ∈ all) (hl : ∀ l ∈ lots, l.length = m) : Caps m lots (capsP m all) := by
  refine ⟨capsP_len _ _, fun k hk => ?_, fun l hll => ⟨hl l hll, fun k hk => ?_⟩⟩
  · rw [capsP_get hk]; exact le_maxI (by simp)
  · rw [capsP_get hk]
    exact le_maxI (List.mem_append_left _ (List.mem_map.mpr ⟨l, hs l hll, rfl⟩))
section
variable {m : Nat} {lots : List (List Int)} {cs u : List Int} {k : Nat}
theorem any_congr' {α : Type} {l : List α} {f g : α → Bool} (h : ∀ x ∈ l, f x = g x) : l.any f = l.any g := by
  induction l with
  | nil => rfl
  | cons x l ih => rw [List.any_cons, List.any_cons, h x List.mem_cons_self, ih fun y hy => h y (List.mem_cons_of_mem _ hy)]
theorem sim_hit (hc : Caps m lots cs) (hu : u.length = m) (hk : k < m) : hits lots (bump (cap2 u cs) k) = hits lots (bump u k) := by
  have hcl : (cap2 u cs).length = m := by rw [cap2_len (by rw [hu, hc.1])]; exact hu
  unfold hits
  refine any_congr' fun l hl => ?_
  obtain ⟨h1, h2⟩ := hc.2.2 l hl
  rw [Bool.eq_iff_iff, leZ_iff (by rw [bump_len (by omega), hcl, h1]), leZ_iff (by rw [bump_len (by omega), hu, h1])]
  refine forall_congr' fun i => forall_congr' fun hi => ?_
  rw [bump_get (by omega), bump_get (by omega), cap2_get (by rw [hu, hc.1]) (by omega)]
  have := h2 i (by omega)
  unfold minZ
  split <;> split <;> omega
theorem sim_cap (hc : Caps m lots cs) (hu : u.length = m) (hk : k < m) : cap2 (bump (cap2 u cs) k) cs = cap2 (bump u k) cs := by
  have hcl : (cap2 u cs).length = m := by rw [cap2_len (by rw [hu, hc.1])]; exact hu
  have b1 : (bump (cap2 u cs) k).length = m := by rw [bump_len (by omega)]; exact hcl
  have b2 : (bump u k).length = m := by rw [bump_len (by omega)]; exact hu
  have hcc := hc.1
  have L1 : (cap2 (bump (cap2 u cs) k) cs).length = m := by rw [cap2_len (by rw [b1, hc.1])]; exact b1
  have L2 : (cap2 (bump u k) cs).length = m := by rw [cap2_len (by rw [b2, hc.1])]; exact b2
  refine ext_get (by rw [L1, L2]) fun i hi => ?_
  rw [cap2_get (by rw [b1, hc.1]) (by omega), cap2_get (by rw [b2, hc.1]) (by omega), bump_get (by omega), bump_get (by omega), cap2_get (by rw [hu, hc.1]) (by omega)]
  unfold minZ
  split <;> split <;> (try split) <;> (try split) <;> omega
theorem cap_idem (hc : Caps m lots cs) (hu : u.length = m) : cap2 (cap2 u cs) cs = cap2 u cs := by
  have hcc := hc.1
  have hcl : (cap2 u cs).length = m := by rw [cap2_len (by rw [hu, hc.1])]; exact hu
  refine ext_get (by rw [cap2_len (by rw [hcl, hc.1])]) fun i hi => ?_
  rw [cap2_len (by rw [hcl, hc.1])] at hi
  rw [cap2_get (by rw [hcl, hc.1]) (by omega), cap2_get (by rw [hu, hc.1]) (by omega)]
  unfold minZ
  split <;> (try split) <;> omega
theorem cap_zeros (hc : Caps m lots cs) : cap2 (zeros m) cs = zeros m := by
  have hz : (zeros m).length = m := by simp [zeros]
  have hcc := hc.1
  refine ext_get (by rw [cap2_len (by rw [hz, hc.1])]) fun i hi => ?_
  rw [cap2_len (by rw [hz, hc.1]), hz] at hi
  rw [cap2_get (by rw [hz, hc.1]) (by omega)]
  have h0 : (zeros m).getD i 0 = 0 := by unfold zeros; rw [List.getD_eq_getElem?_getD, List.getElem?_replicate, if_pos hi]; rfl
  have := hc.2.1 i hi
  rw [h0]
  unfold minZ
  split <;> omega
end
def fU (ls os : List (List Int)) (s : Pr) (k : Nat) : Option Pr := if (stepL ls s.1 k).1 = (stepL os s.2 k).1 then some ((stepL ls s.1 k).2, (stepL os s.2 k).2) else none
def capS (cs cs2 : List Int) (s : Pr) : Pr := (cap2 s.1 cs, cap2 s.2 cs2)
def LenOk (m : Nat) (s : Pr) : Prop := s.1.length = m ∧ s.2.length = m
theorem stepL_len {m : Nat} {lots : List (List Int)} {c : List Int} {k : Nat} (h : c.length = m) (hk : k < m) : (stepL lots c k).2.length = m := by
  unfold stepL
  split
  · exact h
  · exact (bump_len (by omega)).trans h
theorem fU_len {m : Nat} {ls os : List (List Int)} (s : Pr) (k : Nat) (g : Pr) (hs : LenOk m s) (hk : k < m) (h : fU ls os s k = some g) : LenOk m g := by
  unfold fU at h
  split at h
  · cases h; exact ⟨stepL_len hs.1 hk, stepL_len hs.2 hk⟩
  · cases h
theorem stepP_sim {m : Nat} {lots : List (List Int)} {u : List Int} {k : Nat} (hc : Caps m lots (capsP m lots)) (hu : u.length = m) (hk : k < m) :
    stepP m lots (cap2 u (capsP m lots)) k = ((stepL lots u k).1, cap2 (stepL lots u k).2 (capsP m lots)) := by
  unfold stepP stepL
  rw [sim_hit hc hu hk]
  split
  · rfl
  · rw [sim_cap hc hu hk]
theorem stepL_sim {m : Nat} {lots : List (List Int)} {cs u : List Int} {k : Nat} (hc : Caps m lots cs) (hu : u.length = m) (hk : k < m) :
    (stepL lots (cap2 u cs) k).1 = (stepL lots u k).1 ∧ cap2 (stepL lots (cap2 u cs) k).2 cs = cap2 (stepL lots u k).2 cs := by
  unfold stepL
  rw [sim_hit hc hu hk]
  split
  · exact ⟨rfl, cap_idem hc hu⟩
  · exact ⟨rfl, sim_cap hc hu hk⟩
section
variable {m : Nat} {ls os : List (List Int)}
theorem zeros_len : (zeros m).length = m := by simp [zeros]
theorem hitP (h1 : Good m ls) (h2 : Good m os) {w : List Nat} (hw : Ok m w) : Hit (fP m ls os) (zeros m, zeros m) w ↔ Hit (fU ls os) (zeros m, zeros m) w := by
  have c1 := caps_of (all := ls) (fun l h => h) h1.len
  have c2 := caps_of (all := os) (fun l h => h) h2.len
  have e : capS (capsP m ls) (capsP m os) (zeros m, zeros m) = (zeros m, zeros m) := by unfold capS; dsimp only; rw [cap_zeros c1, cap_zeros c2]
  have := hit_map (f := fU ls os) (f' := fP m ls os) (m := m) (capS (capsP m ls) (capsP m os)) (LenOk m) fU_len (fun s k hs hk => by
    unfold fP fU capS
    dsimp only
    rw [stepP_sim c1 hs.1 hk, stepP_sim c2 hs.2 hk]
    split <;> rfl) (s := (zeros m, zeros m)) ⟨zeros_len, zeros_len⟩ hw
  rw [e] at this
  exact this
theorem hitL (h1 : Good m ls) (h2 : Good m os) {w : List Nat} (hw : Ok m w) : Hit (fL (capsP m (ls ++ os)) ls os) (zeros m, zeros m) w ↔ Hit (fU ls os) (zeros m, zeros m) w := by
  have c1 := caps_of (all := ls ++ os) (fun l h => List.mem_append_left _ h) h1.len
  have c2 := caps_of (all := ls ++ os) (fun l h => List.mem_append_right _ h) h2.len
  have e : capS (capsP m (ls ++ os)) (capsP m (ls ++ os)) (zeros m, zeros m) = (zeros m, zeros m) := by unfold capS; dsimp only; rw [cap_zeros c1]
  have := hit_map (f := fU ls os) (f' := fL (capsP m (ls ++ os)) ls os) (m := m) (capS (capsP m (ls ++ os)) (capsP m (ls ++ os))) (LenOk m) fU_len (fun s k hs hk => by
    unfold fL fU capS
    dsimp only
    obtain ⟨a1, a2⟩ := stepL_sim c1 hs.1 hk
    obtain ⟨b1, b2⟩ := stepL_sim c2 hs.2 hk
    rw [a1, a2, b1, b2]
    split <;> rfl) (s := (zeros m, zeros m)) ⟨zeros_len, zeros_len⟩ hw
  rw [e] at this
  exact this
theorem hitS {w : List Nat} (hw : Ok m w) : Hit (fU os ls) (zeros m, zeros m) w ↔ Hit (fU ls os) (zeros m, zeros m) w :=
  hit_map (f := fU ls os) (f' := fU os ls) (m := m) (fun s => (s.2, s.1)) (fun _ => True) (fun _ _ _ _ _ _ => trivial) (fun s k _ _ => by
    unfold fU
    dsimp only
    by_cases q : (stepL ls s.1 k).1 = (stepL os s.2 k).1
    · rw [if_pos q, if_pos q.symm]; rfl
    · rw [if_neg q, if_neg fun z => q z.symm]; rfl) (s := (zeros m, zeros m)) trivial hw
theorem no_hit (w : List Nat) (hw : Ok m w) : ¬ Hit (fU ls ls) (zeros m, zeros m) w := by
  rintro ⟨v, k, s', rfl, hv, hf⟩
  have h := (go_map (f := fU ls ls) (f' := fU ls ls) (m := m) id (fun s => s.1 = s.2) (fun s k g hs hk hg => by
    unfold fU at hg
    rw [hs, if_pos rfl] at hg
    cases hg; rfl) (fun s k _ _ => by simp) (s := (zeros m, zeros m)) rfl (w := v) fun y hy => hw y (by simp [hy])).2 s' hv
  unfold fU at hf
  rw [h, if_pos rfl] at hf
  cases hf
/-! ### unlike lots are parted -/
theorem leZ_refl (a : List Int) : leZ a a = true := (leZ_iff rfl).mpr fun _ _ => Int.le_refl _
theorem leZ_trans {a b c : List Int} (h1 : a.length = b.length) (h2 : b.length = c.length) (hab : leZ a b = true) (hbc : leZ b c = true) : leZ a c = true := by
  rw [leZ_iff h1] at hab
  rw [leZ_iff h2] at hbc
  exact (leZ_iff (h1.trans h2)).mpr fun i hi => Int.le_trans (hab i hi) (hbc i (by omega))
theorem leZ_anti {a b : List Int} (h : a.length = b.length) (h1 : leZ a b = true) (h2 : leZ b a = true) : a = b := by
  rw [leZ_iff h] at h1
  rw [leZ_iff h.symm] at h2
  exact ext_get h fun i hi => Int.le_antisymm (h1 i hi) (h2 i (by omega))
theorem apart' (h : Good m ls) {a b : List Int} (ha : a ∈ ls) (hb : b ∈ ls) (hle : leZ a b = true) : a = b := by
  obtain ⟨i, hi⟩ := List.mem_iff_getElem?.mp ha
  obtain ⟨j, hj⟩ := List.mem_iff_getElem?.mp hb
  rcases Nat.lt_trichotomy i j with q | q | q
  · have := (h.apart i j a b q hi hj).1; rw [hle] at this; cases this
  · subst q; rw [hi] at hj; cases hj; rfl
  · have := (h.apart j i b a q hj hi).2; rw [hle] at this; cases this
theorem hits_iff {v : List Int} : hits ls v = true ↔ ∃ l ∈ ls, leZ l v = true := by unfold hits; rw [List.any_eq_true]
theorem parted1 (h1 : Good m ls) (h2 : Good m os) {a : List Int} (ha : a ∈ ls) (hn : a ∉ os) : ∃ v, (v ∈ ls ∨ v ∈ os) ∧ hits ls v ≠ hits os v := by
  by_cases q : hits os a = true
  · obtain ⟨b, hb, hba⟩ := hits_iff.mp q
    refine ⟨b, .inr hb, fun e => ?_⟩
    have hb' : hits ls b = true := by rw [e]; exact hits_iff.mpr ⟨b, hb, leZ_refl b⟩
    obtain ⟨a', ha', hab⟩ := hits_iff.mp hb'
    have hl := h1.len a ha
    have hl' := h1.len a' ha'
    have hlb := h2.len b hb
    have : a' = a := apart' h1 ha' ha (leZ_trans (by omega) (by omega) hab hba)
    subst this
    have := leZ_anti (by omega) hab hba
    subst this
    exact hn hb
  · refine ⟨a, .inl ha, fun e => q ?_⟩
    rw [← e]; exact hits_iff.mpr ⟨a, ha, leZ_refl a⟩
theorem parted (h1 : Good m ls) (h2 : Good m os) (hne : ls ≠ os) : ∃ v, (v ∈ ls ∨ v ∈ os) ∧ hits ls v ≠ hits os v := by
  by_cases q : ∀ z, z ∈ ls ↔ z ∈ os
  · exact absurd (sorted_unique (f := TS.code 5) h1.srt h2.srt q) hne
  · rw [Classical.not_forall] at q
    obtain ⟨z, hz⟩ := q
    by_cases a : z ∈ ls
    · exact parted1 h1 h2 a fun b => hz ⟨fun _ => b, fun _ => a⟩
    · have b : z ∈ os := Classical.byContradiction fun b => hz ⟨fun x => absurd x a, fun x => absurd x b⟩
      obtain ⟨v, hv, e⟩ := parted1 h2 h1 b a
      exact ⟨v, hv.symm, fun x => e x.symm⟩
def cnt (m : Nat) (w : List Nat) : List Int := w.foldl bump (zeros m)
theorem cnt_snoc (w : List Nat) (k : Nat) : cnt m (w ++ [k]) = bump (cnt m w) k := by unfold cnt; rw [List.foldl_append]; rfl
theorem cnt_len : ∀ {w : List Nat}, Ok m w → (cnt m w).length = m := by
  intro w
  induction w using rev_ind with
  | nil => intro _; exact zeros_len
  | append_singleton w k ih =>
    intro hw
    have := ih fun y hy => hw y (by simp [hy])
    rw [cnt_snoc, bump_len (by rw [this]; exact hw k (by simp))]; exact this
theorem zeros_get (i : Nat) : (zeros m).getD i 0 = 0 := by
  unfold zeros; rw [List.getD_eq_getElem?_getD, List.getElem?_replicate]; split <;> rfl
theorem zero_hits (h : Good m ls) : hits ls (zeros m) = false := by
  cases q : hits ls (zeros m) with
  | false => rfl
  | true =>
    obtain ⟨l, hl, hle⟩ := hits_iff.mp q
    have hll := h.len l hl
    rw [leZ_iff (by rw [hll, zeros_len])] at hle
    have hc := h.cnt l hl
    have hs : 1 < l.sum := by unfold isCounts at hc; exact of_decide_eq_true (Bool.and_eq_true_iff.mp hc).2
    have : l.sum ≤ 0 := by
      have h0 : ∀ x ∈ l, x ≤ 0 := fun x hx => by
        obtain ⟨i, hi⟩ := List.mem_iff_getElem?.mp hx
        have := hle i (List.getElem?_eq_some_iff.mp hi).1
        rw [zeros_get, List.getD_eq_getElem?_getD, hi] at this
        exact this
      clear hle hs hc hll hl
      induction l with
      | nil => simp
      | cons x l ih =>
        have a := h0 x List.mem_cons_self
        have b := ih fun y hy => h0 y (List.mem_cons_of_mem _ hy)
        rw [List.sum_cons]; omega
    omega
theorem bump_hits {c : List Int} {k : Nat} (h : Good m ls) (hc : c.length = m) (hk : k < m) (hh : hits ls c = true) : hits ls (bump c k) = true := by
  obtain ⟨l, hl, hle⟩ := hits_iff.mp hh
  have hll := h.len l hl
  refine hits_iff.mpr ⟨l, hl, ?_⟩
  rw [leZ_iff (by omega)] at hle
  refine (leZ_iff (by rw [bump_len (by omega)]; omega)).mpr fun i hi => ?_
  rw [bump_get (by omega)]
  have := hle i hi
  split <;> omega
theorem reach (h1 : Good m ls) (h2 : Good m os) : ∀ (w : List Nat), Ok m w → (∃ p, Ok m p ∧ p.length ≤ w.length ∧ Hit (fU ls os) (zeros m, zeros m) p) ∨
    (go (fU ls os) (zeros m, zeros m) w = some (cnt m w, cnt m w) ∧ hits ls (cnt m w) = false ∧ hits os (cnt m w) = false) ∨ (hits ls (cnt m w) = true ∧ hits os (cnt m w) = true) := by
  intro w
  induction w using rev_ind with
  | nil => intro _; exact .inr (.inl ⟨rfl, zero_hits h1, zero_hits h2⟩)
  | append_singleton w k ih =>
    intro hw
    have hw' : Ok m w := fun y hy => hw y (by simp [hy])
    have hk : k < m := hw k (by simp)
    have hcl := cnt_len hw'
    rcases ih hw' with ⟨p, a, b, c⟩ | ⟨a, b, c⟩ | ⟨a, b⟩
    · exact .inl ⟨p, a, by rw [List.length_append]; omega, c⟩
    · rw [cnt_snoc]
      cases x : hits ls (bump (cnt m w) k) <;> cases y : hits os (bump (cnt m w) k)
      · refine .inr (.inl ⟨?_, rfl, rfl⟩)
        rw [go_snoc, a]
        show fU ls os (cnt m w, cnt m w) k = _
        unfold fU stepL
        dsimp only
        rw [x, y]; rfl
      · refine .inl ⟨w ++ [k], hw, Nat.le_refl _, w, k, _, rfl, a, ?_⟩
        unfold fU stepL
        dsimp only
        rw [x, y]; rfl
      · refine .inl ⟨w ++ [k], hw, Nat.le_refl _, w, k, _, rfl, a, ?_⟩
        unfold fU stepL
        dsimp only
        rw [x, y]; rfl
      · exact .inr (.inr ⟨rfl, rfl⟩)
    · rw [cnt_snoc]
      exact .inr (.inr ⟨bump_hits h1 hcl hk a, bump_hits h2 hcl hk b⟩)
theorem sum_set_get : ∀ {v : List Int} {k : Nat} (x : Int), k < v.length → (v.set k x).sum = v.sum - v.getD k 0 + x
  | y :: v, 0, x, _ => by
    rw [List.set_cons_zero, List.sum_cons, List.sum_cons]
    show x + v.sum = y + v.sum - y + x
    omega
  | y :: v, k + 1, x, h => by
    rw [List.set_cons_succ, List.sum_cons, List.sum_cons, sum_set_get x (by simpa using h)]
    show _ = y + v.sum - v.getD k 0 + x
    omega
theorem word_of : ∀ (n : Nat) (v : List Int), v.length = m → (∀ x ∈ v, 0 ≤ x) → v.sum = (n : Int) → ∃ w, Ok m w ∧ cnt m w = v ∧ w.length = n := by
  intro n
  induction n with
  | zero =>
    intro v hl hn hs
    refine ⟨[], fun k h => absurd h (by simp), ?_, rfl⟩
    show zeros m = v
    refine ext_get (by rw [zeros_len, hl]) fun i hi => ?_
    rw [zeros_len] at hi
    rw [zeros_get]
    have h1 := getD_some (xs := v) (k := i) (by omega)
    have h2 := hn _ (List.mem_of_getElem? h1)
    have h3 := sum_ge hn (List.mem_of_getElem? h1)
    omega
  | succ n ih =>
    intro v hl hn hs
    have : ∃ k, k < m ∧ 0 < v.getD k 0 := by
      refine Classical.byContradiction fun q => ?_
      have h0 : ∀ x ∈ v, x = 0 := fun x hx => by
        obtain ⟨i, hi⟩ := List.mem_iff_getElem?.mp hx
        have hil := (List.getElem?_eq_some_iff.mp hi).1
        have a := hn x hx
        have b : ¬ 0 < v.getD i 0 := fun z => q ⟨i, by omega, z⟩
        rw [List.getD_eq_getElem?_getD, hi] at b
        have b : ¬ 0 < x := b
        omega
      have : v.sum = 0 := by
        clear hs hn hl ih q
        induction v with
        | nil => rfl
        | cons x v ih => rw [List.sum_cons, h0 x List.mem_cons_self, ih fun y hy => h0 y (List.mem_cons_of_mem _ hy)]; rfl
      omega
    obtain ⟨k, hk, hv⟩ := this
    have hsum := sum_set_get (v.getD k 0 - 1) (v := v) (k := k) (by omega)
    obtain ⟨w, a, b, c⟩ := ih (v.set k (v.getD k 0 - 1)) (by rw [List.length_set]; exact hl) (fun x hx => by
      rcases List.mem_or_eq_of_mem_set hx with hx | rfl
      · exact hn x hx
      · omega) (by rw [hsum]; omega)
    refine ⟨w ++ [k], fun y hy => ?_, ?_, by rw [List.length_append, c]; rfl⟩
    · rcases List.mem_append.mp hy with hy | hy
      · exact a y hy
      · rw [List.mem_singleton] at hy; omega
    · rw [cnt_snoc, b]
      refine ext_get (by rw [bump_len (by rw [List.length_set]; omega), List.length_set]) fun i hi => ?_
      rw [bump_get (by rw [List.length_set]; omega)]
      rw [List.getD_eq_getElem?_getD, List.getD_eq_getElem?_getD]
      by_cases e : i = k
      · subst e
        rw [List.getElem?_set_self (by omega), if_pos rfl, List.getElem?_eq_getElem (by omega)]
        rw [List.getD_eq_getElem?_getD, List.getElem?_eq_getElem (by omega)]
        show _ - 1 + 1 = _
        exact Int.sub_add_cancel _ _
      · rw [List.getElem?_set_ne (fun z => e z.symm), if_neg e, Int.add_zero, List.getD_eq_getElem?_getD]
theorem sum_le4 : ∀ {v : List Int}, (∀ x ∈ v, x ≤ 4) → v.sum ≤ 4 * (v.length : Int)
  | [], _ => by simp
  | x :: v, h => by
    have a := h x List.mem_cons_self
    have b := sum_le4 (v := v) fun y hy => h y (List.mem_cons_of_mem _ hy)
    rw [List.sum_cons, List.length_cons]; omega
theorem hit_ex (hm : m ≤ 3) (h1 : Good m ls) (h2 : Good m os) (hne : ls ≠ os) : ∃ p, Ok m p ∧ p.length ≤ 12 ∧ Hit (fU ls os) (zeros m, zeros m) p := by
  obtain ⟨v, hv, hd⟩ := parted h1 h2 hne
  have hvl : v.length = m ∧ isCounts v = true := by
    rcases hv with hv | hv
    · exact ⟨h1.len v hv, h1.cnt v hv⟩
    · exact ⟨h2.len v hv, h2.cnt v hv⟩
  have hbd := isCounts_bd hvl.2
  have hs := sum_le4 fun x hx => (hbd x hx).2
  have h0 := sum_nn fun x hx => (hbd x hx).1
  obtain ⟨w, a, b, c⟩ := word_of v.sum.toNat v hvl.1 (fun x hx => (hbd x hx).1) (by omega)
  rcases reach h1 h2 w a with ⟨p, d, e, f⟩ | ⟨_, d, e⟩ | ⟨d, e⟩
  · exact ⟨p, d, by omega, f⟩
  · rw [b] at d e; rw [d, e] at hd; exact absurd rfl hd
  · rw [b] at d e; rw [d, e] at hd; exact absurd rfl hd
theorem cd_lt (hm : m ≤ 3) : ∀ {w : List Nat}, Ok m w → cd w + 1 ≤ 4 ^ w.length := by
  intro w
  induction w using rev_ind with
  | nil => intro _; decide
  | append_singleton w k ih =>
    intro hw
    have a := ih fun y hy => hw y (by simp [hy])
    have b := hw k (by simp)
    rw [cd_snoc, List.length_append, List.length_singleton, Nat.pow_succ]; omega
theorem cd_ge : ∀ (w : List Nat), 2 ^ w.length ≤ cd w + 1 := by
  intro w
  induction w using rev_ind with
  | nil => decide
  | append_singleton w k ih => rw [cd_snoc, List.length_append, List.length_singleton, Nat.pow_succ]; omega
theorem best_short (hm : m ≤ 3) (h1 : Good m ls) (h2 : Good m os) {r : Option (List Nat)} (hB : Best (fU ls os) m (zeros m, zeros m) r) : (r = none ↔ ls = os) ∧ ∀ w, r = some w → w.length ≤ 100 := by
  by_cases e : ls = os
  · subst e
    cases r with
    | none => exact ⟨⟨fun _ => rfl, fun _ => rfl⟩, fun w h => by cases h⟩
    | some w => exact absurd hB.2.1 (no_hit w hB.1)
  · obtain ⟨p, a, b, c⟩ := hit_ex hm h1 h2 e
    cases r with
    | none => exact absurd c (hB p a)
    | some w =>
      refine ⟨⟨fun h => by (cases h), fun h => absurd h e⟩, fun w' h => ?_⟩
      cases h
      have x := hB.2.2 p a c
      have y := cd_lt hm a
      have z := cd_ge w
      have l1 : 4 ^ p.length ≤ 4 ^ 12 := Nat.pow_le_pow_right (by decide) b
      refine Classical.byContradiction fun q => ?_
      have l2 : 2 ^ 25 ≤ 2 ^ w.length := Nat.pow_le_pow_right (by decide) (by omega)
      have : (4 : Nat) ^ 12 = 16777216 := by decide
      have : (2 : Nat) ^ 25 = 33554432 := by decide
      omega
/-! ### the flags along a row -/
theorem flags_go {c1 c2 : List Int} : ∀ {v : List Nat} {s : Pr}, go (fP m ls os) (c1, c2) v = some s → (runP m ls c1 v).1 = (runP m os c2 v).1 ∧ (runP m ls c1 v).2 = s.1 ∧ (runP m os c2 v).2 = s.2 := by
  intro v
  induction v using rev_ind with
  | nil => intro s h; cases h; exact ⟨rfl, rfl, rfl⟩
  | append_singleton v k ih =>
    intro s h
    rw [go_snoc] at h
    obtain ⟨t, ht, hf⟩ := Option.bind_eq_some_iff.mp h
    obtain ⟨a, b, c⟩ := ih ht
    rw [runP_snoc, runP_snoc, a, b, c]
    unfold fP at hf
    split at hf
    · rename_i q
      cases hf
      exact ⟨by rw [q], rfl, rfl⟩
    · cases hf
theorem flags_hit {w : List Nat} (h : Hit (fP m ls os) (zeros m, zeros m) w) : entP m ls w ≠ entP m os w ∧ entP m ls w.dropLast = entP m os w.dropLast := by
  obtain ⟨v, k, s, rfl, hv, hf⟩ := h
  obtain ⟨a, b, c⟩ := flags_go hv
  rw [List.dropLast_concat]
  refine ⟨?_, a⟩
  unfold entP
  rw [runP_snoc, runP_snoc, a, b, c]
  intro e
  have := List.append_cancel_left e
  unfold fP at hf
  rw [if_pos (by simpa using this)] at hf
  cases hf
end
end K80
namespace K80
open PySem PySem.Spec PyProof.Rows L2 DV
theorem otherLots_ok (h : Hand) {m : Nat} {lots : List (List Int)} (h1 : 1 ≤ m) (hG : Good m lots) (h6 : lots.length ≤ 6) : Good m (otherLots h m lots).1 := by
  unfold otherLots
  dsimp only
  split
  · exact (kindLots_ok _ h1).1
  · rename_i hb
    have hd2 := draw_bd (draw h 4).2 (m := (lots.length : Int)) (by omega)
    have hj : (draw (draw h 4).2 lots.length).1.toNat < lots.length := by omega
    obtain ⟨b, hbm⟩ : ∃ b, lots[(draw (draw h 4).2 lots.length).1.toNat]? = some b := ⟨_, List.getElem?_eq_getElem hj⟩
    have hb2 : lots.getD (draw (draw h 4).2 lots.length).1.toNat [] = b := by rw [List.getD_eq_getElem?_getD, hbm]; rfl
    have hbl := hG.len b (List.mem_of_getElem? hbm)
    have hbc := hG.cnt b (List.mem_of_getElem? hbm)
    rw [hb2]
    have hfl : (lots.filter fun l => !decide (l = b)).length ≤ 6 := Nat.le_trans (List.length_filter_le _ _) h6
    have hfo : ∀ l ∈ lots.filter fun l => !decide (l = b), LotOk m l := fun l hl => ⟨hG.len l (List.mem_filter.mp hl).1, hG.cnt l (List.mem_filter.mp hl).1⟩
    split
    · split
      · rename_i hs
        refine minimal_good (fun l hl => ?_) (by rw [List.length_append, List.length_singleton]; omega)
        rcases List.mem_append.mp hl with hl | hl
        · exact hfo l hl
        · rw [List.mem_singleton] at hl
          subst hl
          refine ⟨by rw [List.length_set]; exact hbl, isCounts_of (fun x hx => ?_) hs⟩
          rcases List.mem_or_eq_of_mem_set hx with hx | rfl
          · exact isCounts_bd hbc x hx
          · exact clampZ_bd _
      · exact minimal_good hfo (by omega)
    · exact minimal_good hfo (by omega)
def spLaw (K : PySem.W.Frag) : Sp := spP K 1 (fun ds d => ∃ ns : List Int, ds = [.fls (ns.map .int)] ∧ ns.length ≤ 63 ∧ d = .bl true)
theorem dns_int_of {K : PySem.W.Frag} {N : Addr → Prop} {H : Hp} : ∀ ns : List Int, Dns K N H (ns.map .int) (ns.map V.int)
  | [] => dns_nil
  | n :: ns => dns_cons dn_int' (dns_int_of ns)
theorem law_spec {K : World → PySem.W.Frag} (w : World) (H : Hp) (a : Addr) (ns : List Int) (hl : ns.length ≤ 63) (ho : Only H) (hs : SqL (K w) H a (ns.map V.int)) : spLaw (K w) [.ref a] H (fun v _ => v = .bl true) fun _ _ _ => False := by
  refine ⟨rfl, fun _ => False, [.fls (ns.map .int)], .bl true, ⟨fun _ h => h.elim, fun _ h => absurd h (by simp), by simp, fun _ h => absurd h (by simp)⟩, dns_cons ?_ dns_nil, ⟨ns, rfl, hl, rfl⟩, fun v H' _ _ hv => dn_bl hv⟩
  unfold Dn
  refine ⟨a, ns.map V.int, rfl, ?_, dns_int_of ns⟩
  rcases hs with hs | hs
  · exact .inl ⟨fun z => z.elim id fun z => absurd z (by simp), hs⟩
  · exact .inr hs
theorem cut_last {α : Type} (f : α → D) (xs : List α) : cutL (xs.map f) none (some (-1)) = xs.dropLast.map f := by
  rw [cutL_map]
  congr 1
  unfold cutL
  rw [HT.sIx_none, List.drop_zero, Nat.sub_zero, List.dropLast_eq_take]
  congr 1
  show (if (-1 : Int) < 0 then (-1 + (xs.length : Int)).toNat else min (-1 : Int).toNat xs.length) = _
  rw [if_pos (by decide)]
  omega
theorem isNon_res (r : Option (List Nat)) : isNon (encRes r) = decide (r = none) := by cases r <;> rfl
section
variable {P : Program} {w : World} {K : PySem.W.Frag} {mg : Str → Option Value} {base : Heap} {C f : Addr} {fd : FuncData}
theorem ok_law (E : Fx K mg C) (F : Fun K "law" "law" (topS 41) f fd) : FnOk P w K mg base CX0 8 f fd ["script"] (spLaw K) := by
  refine fun_P F sc_law rfl fun cdv A outer s H Ex M ds d hr hR hn => ?_
  obtain ⟨ns, rfl, hl, rfl⟩ := hR
  have nd := sc_law.nd
  refine rss_cons (rst_setN 1 nd (rn_call (h_law_hand E) (hr.mono (by decide)) (ra_cons (re_var 0 rfl) ra_nil) ⟨ns, hl, rfl, rfl⟩) fun a => ?_)
  generalize hand0 ns = h0
  have hd0 := draw_bd h0 (m := 3) (by decide)
  obtain ⟨m, hm⟩ : ∃ m : Nat, 1 + (draw h0 3).1 = (m : Int) := ⟨(1 + (draw h0 3).1).toNat, by omega⟩
  have h1 : 1 ≤ m := by omega
  have h3 : m ≤ 3 := by omega
  refine rss_cons (rst_set (d := .int (m : Int)) 2 nd ((re_bin re_int (re_callO 0 (h_law_draw E) (hr.mono (by decide)) (ra_cons (re_var 1 rfl) (ra_cons re_int ra_nil)) rfl ⟨h0, 3, by decide, by decide, rfl, rfl, rfl, rfl⟩) od_add).to (by rw [hm])) ?_)
  generalize (draw h0 3).2 = h1'
  obtain ⟨hG, h6⟩ := kindLots_ok h1' h1
  refine rss_cons (rst_set 3 nd (re_callO 0 (h_law_kind_lots E) (hr.mono (by decide)) (ra_cons (re_var 1 rfl) (ra_cons (re_var 2 rfl) (ra_cons re_int ra_nil))) rfl ⟨h1', m, h1, h3, rfl, rfl, rfl, rfl⟩) ?_)
  generalize (kindLots h1' m 6).1 = ls at hG h6
  generalize (kindLots h1' m 6).2 = h2'
  have hGo := otherLots_ok h2' h1 hG h6
  refine rss_cons (rst_set 4 nd (re_callO 0 (h_law_other_lots E) (hr.mono (by decide)) (ra_cons (re_var 1 rfl) (ra_cons (re_var 2 rfl) (ra_cons (re_var 3 rfl) ra_nil))) rfl ⟨h2', m, ls, h1, h3, hG, h6, rfl, rfl, rfl, rfl⟩) ?_)
  generalize (otherLots h2' m ls).1 = os0 at hGo
  generalize (otherLots h2' m ls).2 = h3'
  refine rss_mid (fun δ ω => ∃ os, Good m os ∧ δ = [some (.fls (ns.map .int)), some (.ptr a), some (.int (m : Int)), some (encTT ls), some (encTT os), none, none, none, none]) (rst_if (k := decide ((draw h3' 8).1 = 0)) (rt_cmp (re_callO 0 (h_law_draw E) (hr.mono (by decide)) (ra_cons (re_var 1 rfl) (ra_cons re_int ra_nil)) rfl ⟨h3', 8, by decide, by decide, rfl, rfl, rfl, rfl⟩) re_int od_eqI) (fun _ => rss_one (rst_set 4 nd (re_var 3 rfl) ⟨ls, hG, rfl⟩)) fun _ => rss_nil ⟨os0, hGo, rfl⟩) ?_
  rintro δ' ω' ⟨os, hGo, rfl⟩
  obtain ⟨r, hB⟩ := best_ex (f := fU ls os) (m := m) (zeros m, zeros m)
  obtain ⟨hnone, hshort⟩ := best_short h3 hG hGo hB
  have bP : Best (fP m ls os) m (zeros m, zeros m) r := (best_iff fun w hw => hitP hG hGo hw).mpr hB
  have bL : Best (fL (capsP m (ls ++ os)) ls os) m (zeros m, zeros m) r := (best_iff fun w hw => hitL hG hGo hw).mpr hB
  have bS : Best (fP m os ls) m (zeros m, zeros m) r := (best_iff fun w hw => (hitP hGo hG hw).trans (hitS hw)).mpr hB
  have mk : ∀ {lots}, Good m lots → rKinds C (.ins C []) [.int m, encTT lots] .non (.ins C [("many", .int m), ("lots", encTT lots)]) := fun {lots} g => ⟨m, lots, h1, h3, g, rfl, rfl, rfl, rfl⟩
  refine rss_cons (rst_set (d := kindsD C m ls) 5 nd (re_make (ok_Kinds E) (hr.mono (by decide)) (ra_cons (re_var 2 rfl) (ra_cons (re_var 3 rfl) ra_nil)) (mk hG)) ?_)
  refine rss_cons (rst_set (d := kindsD C m os) 6 nd (re_make (ok_Kinds E) (hr.mono (by decide)) (ra_cons (re_var 2 rfl) (ra_cons (re_var 4 rfl) ra_nil)) (mk hGo)) ?_)
  refine rss_cons (rst_set 7 nd (re_call (h_law_parting E) (hr.mono (by decide)) (ra_cons (re_var 2 rfl) (ra_cons (re_var 3 rfl) (ra_cons (re_var 4 rfl) ra_nil))) ⟨m, ls, os, r, h1, h3, hG, hGo, bL, rfl, rfl⟩) ?_)
  refine rss_cons (rst_set 8 nd (re_call (h_unlike_row E) (hr.mono (by decide)) (ra_cons (re_var 5 rfl) (ra_cons (re_var 6 rfl) ra_nil)) ⟨m, ls, os, r, h1, h3, hG, hGo, bP, rfl, rfl⟩) ?_)
  have hs5 : ∀ x, r = some x → x.length ≤ 50000 := fun x hx => Nat.le_trans (hshort x hx) (by decide)
  refine rss_cons (rst_if (k := false) (RW.rt (rw_or (k := false) (k' := false) (rt_not (k := true) (rt_val (re_call (h_law_is E) (hr.mono (by decide)) (ra_cons (re_var 8 rfl) (ra_cons (re_var 7 rfl) ra_nil)) ⟨r, hs5, rfl, rfl⟩))) fun _ => rw_or (k := false) (k' := false) ((rt_cmp (re_cmp (re_var 8 rfl) re_non od_isN) (re_cmp (re_var 3 rfl) (re_var 4 rfl) (od_eq hr.units pl_encTT pl_encTT)) (od_ne hr.units pl_bl pl_bl)).to ?_) fun _ => rw_or1 (rt_not (k := true) (rt_val (re_call (h_law_is E) (hr.mono (by decide)) (ra_cons (re_call (h_unlike_row E) (hr.mono (by decide)) (ra_cons (re_var 6 rfl) (ra_cons (re_var 5 rfl) ra_nil)) ⟨m, os, ls, r, h1, h3, hGo, hG, bS, rfl, rfl⟩) (ra_cons (re_var 7 rfl) ra_nil)) ⟨r, hs5, rfl, rfl⟩))))) nofun fun _ => rss_nil ?_)
  · rw [eqD_bl, eqD_intss, isNon_res]
    simp [hnone]
  refine rss_cons (rst_if (k := false) (rt_not (k := true) (rt_val ((re_call (h_law_flag E) (hr.mono (by decide)) (ra_cons (re_cmp (k := decide ((m : Int) = m) && decide (ls = os)) (re_var 5 rfl) (re_var 6 rfl) (od_eqOwn (h_Kinds_eq E) (hr.mono (by decide)) ⟨m, m, ls, os, rfl, by simp⟩)) (ra_cons (re_cmp (re_var 3 rfl) (re_var 4 rfl) (od_eq hr.units pl_encTT pl_encTT)) ra_nil)) ⟨_, _, rfl, rfl⟩).to (by rw [eqD_intss]; simp)))) nofun fun _ => rss_nil ?_)
  refine rss_cons (rst_if (k := decide (r = none)) ((rt_cmp (re_var 8 rfl) re_non od_isN).to (isNon_res r)) (fun hb => ?_) fun hb => rss_nil ?_)
  · have hb' : r = none := by simpa using hb
    have he := hnone.mp hb'
    subst he
    subst hb'
    exact rss_one (rst_ret ((re_cmp (re_call (h_unlike_row E) (hr.mono (by decide)) (ra_cons (re_var 5 rfl) (ra_cons (re_make (ok_Kinds E) (hr.mono (by decide)) (ra_cons (re_var 2 rfl) (ra_cons (re_var 3 rfl) ra_nil)) (mk hG)) ra_nil)) ⟨m, ls, ls, none, h1, h3, hG, hG, bP, rfl, rfl⟩) re_non od_isN).to rfl) rfl)
  · have hb' : r ≠ none := by simpa using hb
    obtain ⟨x, rfl⟩ := Option.ne_none_iff_exists'.mp hb'
    have hx := hshort x rfl
    have hxo : ∀ k ∈ x, k < m := bP.1
    obtain ⟨f1, f2⟩ := flags_hit bP.2.1
    have plL : ∀ bs : List Bool, Pl 64 (.lst (bs.map .bl)) := fun bs => (pl_lst (n := 1) fun d hd => by
      obtain ⟨b, _, rfl⟩ := List.mem_map.mp hd
      exact pl_bl).mono (by decide)
    have cutE : cutL ((ofN x).map D.int) none (some (-1)) = (ofN x.dropLast).map .int := by
      rw [cut_last]; congr 1
      simp [List.map_dropLast]
    have hx2 : x.dropLast.length ≤ 200 := by rw [List.length_dropLast]; omega
    have hxo2 : ∀ k ∈ x.dropLast, k < m := fun k hk => hxo k (List.dropLast_subset _ hk)
    have slE : ∀ {X : Cx} {M : Addr → Prop} {δ : Sl} {ω : Om} {e : Expr} {lo hi : Option Expr} {p1 p2 : Pos}, RE X M e δ ω (encR x) ω → RO X M lo δ ω none → RO X M hi δ ω (some (-1)) → RE X M (.Subscript e (.Slice lo hi none p1) p2) δ ω (encR x.dropLast) ω := fun a b c => (re_slT a b c).to (by rw [cutE])
    refine rss_one (rst_ret (re_and (k := true) (k' := true) ((re_cmp (re_call (h_entered E) (hr.mono (by decide)) (ra_cons (re_var 5 rfl) (ra_cons (re_var 8 rfl) ra_nil)) ⟨m, ls, x, h1, h3, hG, by omega, hxo, rfl, rfl⟩) (re_call (h_entered E) (hr.mono (by decide)) (ra_cons (re_var 6 rfl) (ra_cons (re_var 8 rfl) ra_nil)) ⟨m, os, x, h1, h3, hGo, by omega, hxo, rfl, rfl⟩) (od_ne hr.units (plL _) (plL _))).to (by rw [eqD_blsL, decide_eq_false f1]; rfl)) fun _ => re_one ((re_cmp (re_call (h_entered E) (hr.mono (by decide)) (ra_cons (re_var 5 rfl) (ra_cons (slE (re_var 8 rfl) ro_none (ro_some (re_un re_int ud_neg))) ra_nil)) ⟨m, ls, x.dropLast, h1, h3, hG, hx2, hxo2, rfl, rfl⟩) (re_call (h_entered E) (hr.mono (by decide)) (ra_cons (re_var 6 rfl) (ra_cons (slE (re_var 8 rfl) ro_none (ro_some (re_un re_int ud_neg))) ra_nil)) ⟨m, os, x.dropLast, h1, h3, hGo, hx2, hxo2, rfl, rfl⟩) (od_eq hr.units (plL _) (plL _))).to (by rw [eqD_blsL, decide_eq_true f2]))) rfl)
end
end K80
namespace K80
open PySem PySem.Spec PyProof.Rows L2 DV
section
theorem fx_def {K : PySem.W.Frag} {h : Heap} {mg : Str → Option Value} {name qual : Str} {st : Stmt} {f : Addr} {od an : Option Addr} {sl : Array (Option Value)} {oc kV dc pm cd ct : Value} (X : K.In h) (G : h.Ns mainGlobals mg)
    (a : PySem.W.nsIn K mainGlobals name = some (some (.ref f))) (l : K.lookup f = some ⟨oc, od, .func (PySem.W.fnOf name qual (defArgs st) (defBody st) (defScope st) .none kV dc pm an cd ct), sl⟩) (c : PySem.W.codeIn K cd qual = true) (k : PySem.W.keepIn K (.ref f) = true) :
    ∃ f fd, Fun K name qual st f fd ∧ mg name = some (.ref f) := ⟨f, _, fun_mk l c k, PySem.W.mg_of X G a⟩
theorem all_mk {l : PySem.W.OpenLaw} {w : World} {K : PySem.W.Frag} {h : Heap} {mg : Str → Option Value} {fa CKinds f1 f2 f3 f4 f5 f6 f7 f8 f9 f10 f11 f12 f13 f14 f15 f16 f17 f18 f19 f20 f21 f22 f23 f24 f25 f26 f27 f28 f29 f30 f31 : Addr} (X : K.In h) (G : h.Ns mainGlobals mg) (hfa : mg "law" = some (.ref fa))
    {od1 an1 od2 an2 od3 an3 od4 an4 od5 an5 od6 an6 od7 an7 od8 an8 od9 an9 od10 an10 od11 an11 od12 an12 od13 an13 od14 an14 od15 an15 od16 an16 od17 an17 od18 an18 od19 an19 od20 an20 od21 an21 od22 an22 od23 an23 od24 an24 od25 an25 od26 an26 od27 an27 od28 an28 od29 an29 od30 an30 od31 an31 : Option Addr} {sl1 sl2 sl3 sl4 sl5 sl6 sl7 sl8 sl9 sl10 sl11 sl12 sl13 sl14 sl15 sl16 sl17 sl18 sl19 sl20 sl21 sl22 sl23 sl24 sl25 sl26 sl27 sl28 sl29 sl30 sl31 : Array (Option Value)} {oc1 kV1 dc1 pm1 cd1 ct1 oc2 kV2 dc2 pm2 cd2 ct2 oc3 kV3 dc3 pm3 cd3 ct3 oc4 kV4 dc4 pm4 cd4 ct4 oc5 kV5 dc5 pm5 cd5 ct5 oc6 kV6 dc6 pm6 cd6 ct6 oc7 kV7 dc7 pm7 cd7 ct7 oc8 kV8 dc8 pm8 cd8 ct8 oc9 kV9 dc9 pm9 cd9 ct9 oc10 kV10 dc10 pm10 cd10 ct10 oc11 kV11 dc11 pm11 cd11 ct11 oc12 kV12 dc12 pm12 cd12 ct12 oc13 kV13 dc13 pm13 cd13 ct13 oc14 kV14 dc14 pm14 cd14 ct14 oc15 kV15 dc15 pm15 cd15 ct15 oc16 kV16 dc16 pm16 cd16 ct16 oc17 kV17 dc17 pm17 cd17 ct17 oc18 kV18 dc18 pm18 cd18 ct18 oc19 kV19 dc19 pm19 cd19 ct19 oc20 kV20 dc20 pm20 cd20 ct20 oc21 kV21 dc21 pm21 cd21 ct21 oc22 kV22 dc22 pm22 cd22 ct22 oc23 kV23 dc23 pm23 cd23 ct23 oc24 kV24 dc24 pm24 cd24 ct24 oc25 kV25 dc25 pm25 cd25 ct25 oc26 kV26 dc26 pm26 cd26 ct26 oc27 kV27 dc27 pm27 cd27 ct27 oc28 kV28 dc28 pm28 cd28 ct28 oc29 kV29 dc29 pm29 cd29 ct29 oc30 kV30 dc30 pm30 cd30 ct30 oc31 kV31 dc31 pm31 cd31 ct31 : Value}
    {t_MOST_KINDS t_MOST_COUNT t_MOST_LOTS t_MOST_ROW : Tok}
    (a1 : PySem.W.nsIn K mainGlobals "is_integer" = some (some (.ref f1))) (l1 : K.lookup f1 = some ⟨oc1, od1, .func (PySem.W.fnOf "is_integer" "is_integer" (defArgs (topS 6)) (defBody (topS 6)) (defScope (topS 6)) .none kV1 dc1 pm1 an1 cd1 ct1), sl1⟩) (c1 : PySem.W.codeIn K cd1 "is_integer" = true) (k1 : PySem.W.keepIn K (.ref f1) = true)
    (a2 : PySem.W.nsIn K mainGlobals "is_within" = some (some (.ref f2))) (l2 : K.lookup f2 = some ⟨oc2, od2, .func (PySem.W.fnOf "is_within" "is_within" (defArgs (topS 7)) (defBody (topS 7)) (defScope (topS 7)) .none kV2 dc2 pm2 an2 cd2 ct2), sl2⟩) (c2 : PySem.W.codeIn K cd2 "is_within" = true) (k2 : PySem.W.keepIn K (.ref f2) = true)
    (a3 : PySem.W.nsIn K mainGlobals "is_counts" = some (some (.ref f3))) (l3 : K.lookup f3 = some ⟨oc3, od3, .func (PySem.W.fnOf "is_counts" "is_counts" (defArgs (topS 13)) (defBody (topS 13)) (defScope (topS 13)) .none kV3 dc3 pm3 an3 cd3 ct3), sl3⟩) (c3 : PySem.W.codeIn K cd3 "is_counts" = true) (k3 : PySem.W.keepIn K (.ref f3) = true)
    (a4 : PySem.W.nsIn K mainGlobals "is_at_most" = some (some (.ref f4))) (l4 : K.lookup f4 = some ⟨oc4, od4, .func (PySem.W.fnOf "is_at_most" "is_at_most" (defArgs (topS 14)) (defBody (topS 14)) (defScope (topS 14)) .none kV4 dc4 pm4 an4 cd4 ct4), sl4⟩) (c4 : PySem.W.codeIn K cd4 "is_at_most" = true) (k4 : PySem.W.keepIn K (.ref f4) = true)
    (a5 : PySem.W.nsIn K mainGlobals "first_wrong_counts" = some (some (.ref f5))) (l5 : K.lookup f5 = some ⟨oc5, od5, .func (PySem.W.fnOf "first_wrong_counts" "first_wrong_counts" (defArgs (topS 15)) (defBody (topS 15)) (defScope (topS 15)) .none kV5 dc5 pm5 an5 cd5 ct5), sl5⟩) (c5 : PySem.W.codeIn K cd5 "first_wrong_counts" = true) (k5 : PySem.W.keepIn K (.ref f5) = true)
    (a6 : PySem.W.findIn K (.ref CKinds) "__init__" = some (some (.ref f6))) (i6 : PySem.W.isFn K (.ref f6) = true) (l6 : K.lookup f6 = some ⟨oc6, od6, .func (PySem.W.fnOf "__init__" "Kinds.__init__" (defArgs (inClass (topS 16) 0)) (defBody (inClass (topS 16) 0)) (defScope (inClass (topS 16) 0)) .none kV6 dc6 pm6 an6 cd6 ct6), sl6⟩) (c6 : PySem.W.codeIn K cd6 "Kinds.__init__" = true) (k6 : PySem.W.keepIn K (.ref f6) = true)
    (a7 : PySem.W.findIn K (.ref CKinds) "__eq__" = some (some (.ref f7))) (i7 : PySem.W.isFn K (.ref f7) = true) (l7 : K.lookup f7 = some ⟨oc7, od7, .func (PySem.W.fnOf "__eq__" "Kinds.__eq__" (defArgs (inClass (topS 16) 1)) (defBody (inClass (topS 16) 1)) (defScope (inClass (topS 16) 1)) .none kV7 dc7 pm7 an7 cd7 ct7), sl7⟩) (c7 : PySem.W.codeIn K cd7 "Kinds.__eq__" = true) (k7 : PySem.W.keepIn K (.ref f7) = true)
    (a8 : PySem.W.nsIn K mainGlobals "is_row_of" = some (some (.ref f8))) (l8 : K.lookup f8 = some ⟨oc8, od8, .func (PySem.W.fnOf "is_row_of" "is_row_of" (defArgs (topS 17)) (defBody (topS 17)) (defScope (topS 17)) .none kV8 dc8 pm8 an8 cd8 ct8), sl8⟩) (c8 : PySem.W.codeIn K cd8 "is_row_of" = true) (k8 : PySem.W.keepIn K (.ref f8) = true)
    (a9 : PySem.W.nsIn K mainGlobals "check_row" = some (some (.ref f9))) (l9 : K.lookup f9 = some ⟨oc9, od9, .func (PySem.W.fnOf "check_row" "check_row" (defArgs (topS 18)) (defBody (topS 18)) (defScope (topS 18)) .none kV9 dc9 pm9 an9 cd9 ct9), sl9⟩) (c9 : PySem.W.codeIn K cd9 "check_row" = true) (k9 : PySem.W.keepIn K (.ref f9) = true)
    (a10 : PySem.W.nsIn K mainGlobals "begin" = some (some (.ref f10))) (l10 : K.lookup f10 = some ⟨oc10, od10, .func (PySem.W.fnOf "begin" "begin" (defArgs (topS 19)) (defBody (topS 19)) (defScope (topS 19)) .none kV10 dc10 pm10 an10 cd10 ct10), sl10⟩) (c10 : PySem.W.codeIn K cd10 "begin" = true) (k10 : PySem.W.keepIn K (.ref f10) = true)
    (a11 : PySem.W.nsIn K mainGlobals "caps" = some (some (.ref f11))) (l11 : K.lookup f11 = some ⟨oc11, od11, .func (PySem.W.fnOf "caps" "caps" (defArgs (topS 20)) (defBody (topS 20)) (defScope (topS 20)) .none kV11 dc11 pm11 an11 cd11 ct11), sl11⟩) (c11 : PySem.W.codeIn K cd11 "caps" = true) (k11 : PySem.W.keepIn K (.ref f11) = true)
    (a12 : PySem.W.nsIn K mainGlobals "with_one" = some (some (.ref f12))) (l12 : K.lookup f12 = some ⟨oc12, od12, .func (PySem.W.fnOf "with_one" "with_one" (defArgs (topS 21)) (defBody (topS 21)) (defScope (topS 21)) .none kV12 dc12 pm12 an12 cd12 ct12), sl12⟩) (c12 : PySem.W.codeIn K cd12 "with_one" = true) (k12 : PySem.W.keepIn K (.ref f12) = true)
    (a13 : PySem.W.nsIn K mainGlobals "capped" = some (some (.ref f13))) (l13 : K.lookup f13 = some ⟨oc13, od13, .func (PySem.W.fnOf "capped" "capped" (defArgs (topS 22)) (defBody (topS 22)) (defScope (topS 22)) .none kV13 dc13 pm13 an13 cd13 ct13), sl13⟩) (c13 : PySem.W.codeIn K cd13 "capped" = true) (k13 : PySem.W.keepIn K (.ref f13) = true)
    (a14 : PySem.W.nsIn K mainGlobals "step" = some (some (.ref f14))) (l14 : K.lookup f14 = some ⟨oc14, od14, .func (PySem.W.fnOf "step" "step" (defArgs (topS 23)) (defBody (topS 23)) (defScope (topS 23)) .none kV14 dc14 pm14 an14 cd14 ct14), sl14⟩) (c14 : PySem.W.codeIn K cd14 "step" = true) (k14 : PySem.W.keepIn K (.ref f14) = true)
    (a15 : PySem.W.nsIn K mainGlobals "run" = some (some (.ref f15))) (l15 : K.lookup f15 = some ⟨oc15, od15, .func (PySem.W.fnOf "run" "run" (defArgs (topS 24)) (defBody (topS 24)) (defScope (topS 24)) .none kV15 dc15 pm15 an15 cd15 ct15), sl15⟩) (c15 : PySem.W.codeIn K cd15 "run" = true) (k15 : PySem.W.keepIn K (.ref f15) = true)
    (a16 : PySem.W.nsIn K mainGlobals "entered_in" = some (some (.ref f16))) (l16 : K.lookup f16 = some ⟨oc16, od16, .func (PySem.W.fnOf "entered_in" "entered_in" (defArgs (topS 25)) (defBody (topS 25)) (defScope (topS 25)) .none kV16 dc16 pm16 an16 cd16 ct16), sl16⟩) (c16 : PySem.W.codeIn K cd16 "entered_in" = true) (k16 : PySem.W.keepIn K (.ref f16) = true)
    (a17 : PySem.W.nsIn K mainGlobals "entered" = some (some (.ref f17))) (l17 : K.lookup f17 = some ⟨oc17, od17, .func (PySem.W.fnOf "entered" "entered" (defArgs (topS 26)) (defBody (topS 26)) (defScope (topS 26)) .none kV17 dc17 pm17 an17 cd17 ct17), sl17⟩) (c17 : PySem.W.codeIn K cd17 "entered" = true) (k17 : PySem.W.keepIn K (.ref f17) = true)
    (a18 : PySem.W.nsIn K mainGlobals "unlike_row" = some (some (.ref f18))) (l18 : K.lookup f18 = some ⟨oc18, od18, .func (PySem.W.fnOf "unlike_row" "unlike_row" (defArgs (topS 27)) (defBody (topS 27)) (defScope (topS 27)) .none kV18 dc18 pm18 an18 cd18 ct18), sl18⟩) (c18 : PySem.W.codeIn K cd18 "unlike_row" = true) (k18 : PySem.W.keepIn K (.ref f18) = true)
    (a19 : PySem.W.nsIn K mainGlobals "_law_hand" = some (some (.ref f19))) (l19 : K.lookup f19 = some ⟨oc19, od19, .func (PySem.W.fnOf "_law_hand" "_law_hand" (defArgs (topS 29)) (defBody (topS 29)) (defScope (topS 29)) .none kV19 dc19 pm19 an19 cd19 ct19), sl19⟩) (c19 : PySem.W.codeIn K cd19 "_law_hand" = true) (k19 : PySem.W.keepIn K (.ref f19) = true)
    (a20 : PySem.W.nsIn K mainGlobals "_law_draw" = some (some (.ref f20))) (l20 : K.lookup f20 = some ⟨oc20, od20, .func (PySem.W.fnOf "_law_draw" "_law_draw" (defArgs (topS 30)) (defBody (topS 30)) (defScope (topS 30)) .none kV20 dc20 pm20 an20 cd20 ct20), sl20⟩) (c20 : PySem.W.codeIn K cd20 "_law_draw" = true) (k20 : PySem.W.keepIn K (.ref f20) = true)
    (a21 : PySem.W.nsIn K mainGlobals "_law_is" = some (some (.ref f21))) (l21 : K.lookup f21 = some ⟨oc21, od21, .func (PySem.W.fnOf "_law_is" "_law_is" (defArgs (topS 31)) (defBody (topS 31)) (defScope (topS 31)) .none kV21 dc21 pm21 an21 cd21 ct21), sl21⟩) (c21 : PySem.W.codeIn K cd21 "_law_is" = true) (k21 : PySem.W.keepIn K (.ref f21) = true)
    (a22 : PySem.W.nsIn K mainGlobals "_law_flag" = some (some (.ref f22))) (l22 : K.lookup f22 = some ⟨oc22, od22, .func (PySem.W.fnOf "_law_flag" "_law_flag" (defArgs (topS 32)) (defBody (topS 32)) (defScope (topS 32)) .none kV22 dc22 pm22 an22 cd22 ct22), sl22⟩) (c22 : PySem.W.codeIn K cd22 "_law_flag" = true) (k22 : PySem.W.keepIn K (.ref f22) = true)
    (a23 : PySem.W.nsIn K mainGlobals "_law_are_below" = some (some (.ref f23))) (l23 : K.lookup f23 = some ⟨oc23, od23, .func (PySem.W.fnOf "_law_are_below" "_law_are_below" (defArgs (topS 33)) (defBody (topS 33)) (defScope (topS 33)) .none kV23 dc23 pm23 an23 cd23 ct23), sl23⟩) (c23 : PySem.W.codeIn K cd23 "_law_are_below" = true) (k23 : PySem.W.keepIn K (.ref f23) = true)
    (a24 : PySem.W.nsIn K mainGlobals "_law_counts" = some (some (.ref f24))) (l24 : K.lookup f24 = some ⟨oc24, od24, .func (PySem.W.fnOf "_law_counts" "_law_counts" (defArgs (topS 34)) (defBody (topS 34)) (defScope (topS 34)) .none kV24 dc24 pm24 an24 cd24 ct24), sl24⟩) (c24 : PySem.W.codeIn K cd24 "_law_counts" = true) (k24 : PySem.W.keepIn K (.ref f24) = true)
    (a25 : PySem.W.nsIn K mainGlobals "_law_kind_lots" = some (some (.ref f25))) (l25 : K.lookup f25 = some ⟨oc25, od25, .func (PySem.W.fnOf "_law_kind_lots" "_law_kind_lots" (defArgs (topS 35)) (defBody (topS 35)) (defScope (topS 35)) .none kV25 dc25 pm25 an25 cd25 ct25), sl25⟩) (c25 : PySem.W.codeIn K cd25 "_law_kind_lots" = true) (k25 : PySem.W.keepIn K (.ref f25) = true)
    (a26 : PySem.W.nsIn K mainGlobals "_law_step" = some (some (.ref f26))) (l26 : K.lookup f26 = some ⟨oc26, od26, .func (PySem.W.fnOf "_law_step" "_law_step" (defArgs (topS 36)) (defBody (topS 36)) (defScope (topS 36)) .none kV26 dc26 pm26 an26 cd26 ct26), sl26⟩) (c26 : PySem.W.codeIn K cd26 "_law_step" = true) (k26 : PySem.W.keepIn K (.ref f26) = true)
    (a27 : PySem.W.nsIn K mainGlobals "_law_caps" = some (some (.ref f27))) (l27 : K.lookup f27 = some ⟨oc27, od27, .func (PySem.W.fnOf "_law_caps" "_law_caps" (defArgs (topS 37)) (defBody (topS 37)) (defScope (topS 37)) .none kV27 dc27 pm27 an27 cd27 ct27), sl27⟩) (c27 : PySem.W.codeIn K cd27 "_law_caps" = true) (k27 : PySem.W.keepIn K (.ref f27) = true)
    (a28 : PySem.W.nsIn K mainGlobals "_law_capped" = some (some (.ref f28))) (l28 : K.lookup f28 = some ⟨oc28, od28, .func (PySem.W.fnOf "_law_capped" "_law_capped" (defArgs (topS 38)) (defBody (topS 38)) (defScope (topS 38)) .none kV28 dc28 pm28 an28 cd28 ct28), sl28⟩) (c28 : PySem.W.codeIn K cd28 "_law_capped" = true) (k28 : PySem.W.keepIn K (.ref f28) = true)
    (a29 : PySem.W.nsIn K mainGlobals "_law_other_lots" = some (some (.ref f29))) (l29 : K.lookup f29 = some ⟨oc29, od29, .func (PySem.W.fnOf "_law_other_lots" "_law_other_lots" (defArgs (topS 39)) (defBody (topS 39)) (defScope (topS 39)) .none kV29 dc29 pm29 an29 cd29 ct29), sl29⟩) (c29 : PySem.W.codeIn K cd29 "_law_other_lots" = true) (k29 : PySem.W.keepIn K (.ref f29) = true)
    (a30 : PySem.W.nsIn K mainGlobals "_law_parting" = some (some (.ref f30))) (l30 : K.lookup f30 = some ⟨oc30, od30, .func (PySem.W.fnOf "_law_parting" "_law_parting" (defArgs (topS 40)) (defBody (topS 40)) (defScope (topS 40)) .none kV30 dc30 pm30 an30 cd30 ct30), sl30⟩) (c30 : PySem.W.codeIn K cd30 "_law_parting" = true) (k30 : PySem.W.keepIn K (.ref f30) = true)
    (a31 : PySem.W.nsIn K mainGlobals "law" = some (some (.ref f31))) (l31 : K.lookup f31 = some ⟨oc31, od31, .func (PySem.W.fnOf "law" "law" (defArgs (topS 41)) (defBody (topS 41)) (defScope (topS 41)) .none kV31 dc31 pm31 an31 cd31 ct31), sl31⟩) (c31 : PySem.W.codeIn K cd31 "law" = true) (k31 : PySem.W.keepIn K (.ref f31) = true)
    (aCKinds : PySem.W.nsIn K mainGlobals "Kinds" = some (some (.ref CKinds))) (pgKinds : PySem.W.plainGet K CKinds Str.empty = true) (hdKinds : PySem.W.hasDictIn K CKinds = true) (poKinds : PySem.W.plainOver K CKinds = true) (saKinds : PySem.W.findIn K (.ref CKinds) "__setattr__" = some (some (.builtin "object.__setattr__"))) (mkKinds : PySem.W.makesIn K CKinds = true) (kcKinds : PySem.W.keepIn K (.ref CKinds) = true) (haKinds : PySem.W.findIn K (.ref CKinds) "__class__" = some (some (.builtin "object.__class__"))) (hnKinds : PySem.W.specialIn K (.builtin "object.__class__") "__get__" = some (some (.builtin "getset_descriptor.__get__"))) (htKinds : PySem.W.takesIn K (.builtin "object.__class__") = some true) (hmKinds : PySem.W.mroIn K CKinds (.type "object") = some true) (nAKinds_many : PySem.W.findIn K (.ref CKinds) "many" = some none) (nAKinds_lots : PySem.W.findIn K (.ref CKinds) "lots" = some none)
    (z_abs : PySem.W.nsIn K mainGlobals "abs" = some none)
    (z_all : PySem.W.nsIn K mainGlobals "all" = some none)
    (z_any : PySem.W.nsIn K mainGlobals "any" = some none)
    (z_bool : PySem.W.nsIn K mainGlobals "bool" = some none)
    (z_enumerate : PySem.W.nsIn K mainGlobals "enumerate" = some none)
    (z_int : PySem.W.nsIn K mainGlobals "int" = some none)
    (z_isinstance : PySem.W.nsIn K mainGlobals "isinstance" = some none)
    (z_len : PySem.W.nsIn K mainGlobals "len" = some none)
    (z_list : PySem.W.nsIn K mainGlobals "list" = some none)
    (z_max : PySem.W.nsIn K mainGlobals "max" = some none)
    (z_min : PySem.W.nsIn K mainGlobals "min" = some none)
    (z_range : PySem.W.nsIn K mainGlobals "range" = some none)
    (z_set : PySem.W.nsIn K mainGlobals "set" = some none)
    (z_sorted : PySem.W.nsIn K mainGlobals "sorted" = some none)
    (z_sum : PySem.W.nsIn K mainGlobals "sum" = some none)
    (z_tuple : PySem.W.nsIn K mainGlobals "tuple" = some none)
    (z_zip : PySem.W.nsIn K mainGlobals "zip" = some none)
    (k_MOST_KINDS : PySem.W.nsIn K mainGlobals "MOST_KINDS" = some (some (.int 3 t_MOST_KINDS)))
    (k_MOST_COUNT : PySem.W.nsIn K mainGlobals "MOST_COUNT" = some (some (.int 4 t_MOST_COUNT)))
    (k_MOST_LOTS : PySem.W.nsIn K mainGlobals "MOST_LOTS" = some (some (.int 12 t_MOST_LOTS)))
    (k_MOST_ROW : PySem.W.nsIn K mainGlobals "MOST_ROW" = some (some (.int 200 t_MOST_ROW))) :
    ∃ fd : FuncData, (∀ (s : Shared) (v : Value), BindsTo s fd ⟨[v], []⟩ [("script", v)]) ∧ ∀ base : Heap, K.In base → base.Ns mainGlobals mg → FnOk l.prog w K mg base CX0 8 fa fd ["script"] (spLaw K) := by
  have e := hfa.symm.trans (PySem.W.mg_of X G a31)
  cases e
  have E : Fx K mg CKinds := {
    f_is_integer := fx_def X G a1 l1 c1 k1,
    f_is_within := fx_def X G a2 l2 c2 k2,
    f_is_counts := fx_def X G a3 l3 c3 k3,
    f_is_at_most := fx_def X G a4 l4 c4 k4,
    f_first_wrong_counts := fx_def X G a5 l5 c5 k5,
    f_is_row_of := fx_def X G a8 l8 c8 k8,
    f_check_row := fx_def X G a9 l9 c9 k9,
    f_begin := fx_def X G a10 l10 c10 k10,
    f_caps := fx_def X G a11 l11 c11 k11,
    f_with_one := fx_def X G a12 l12 c12 k12,
    f_capped := fx_def X G a13 l13 c13 k13,
    f_step := fx_def X G a14 l14 c14 k14,
    f_run := fx_def X G a15 l15 c15 k15,
    f_entered_in := fx_def X G a16 l16 c16 k16,
    f_entered := fx_def X G a17 l17 c17 k17,
    f_unlike_row := fx_def X G a18 l18 c18 k18,
    f_law_hand := fx_def X G a19 l19 c19 k19,
    f_law_draw := fx_def X G a20 l20 c20 k20,
    f_law_is := fx_def X G a21 l21 c21 k21,
    f_law_flag := fx_def X G a22 l22 c22 k22,
    f_law_are_below := fx_def X G a23 l23 c23 k23,
    f_law_counts := fx_def X G a24 l24 c24 k24,
    f_law_kind_lots := fx_def X G a25 l25 c25 k25,
    f_law_step := fx_def X G a26 l26 c26 k26,
    f_law_caps := fx_def X G a27 l27 c27 k27,
    f_law_capped := fx_def X G a28 l28 c28 k28,
    f_law_other_lots := fx_def X G a29 l29 c29 k29,
    f_law_parting := fx_def X G a30 l30 c30 k30,
    f_law := fx_def X G a31 l31 c31 k31,
    z_abs := PySem.W.mg_none_of X G z_abs,
    z_all := PySem.W.mg_none_of X G z_all,
    z_any := PySem.W.mg_none_of X G z_any,
    z_bool := PySem.W.mg_none_of X G z_bool,
    z_enumerate := PySem.W.mg_none_of X G z_enumerate,
    z_int := PySem.W.mg_none_of X G z_int,
    z_isinstance := PySem.W.mg_none_of X G z_isinstance,
    z_len := PySem.W.mg_none_of X G z_len,
    z_list := PySem.W.mg_none_of X G z_list,
    z_max := PySem.W.mg_none_of X G z_max,
    z_min := PySem.W.mg_none_of X G z_min,
    z_range := PySem.W.mg_none_of X G z_range,
    z_set := PySem.W.mg_none_of X G z_set,
    z_sorted := PySem.W.mg_none_of X G z_sorted,
    z_sum := PySem.W.mg_none_of X G z_sum,
    z_tuple := PySem.W.mg_none_of X G z_tuple,
    z_zip := PySem.W.mg_none_of X G z_zip,
    k_MOST_KINDS := ⟨_, PySem.W.mg_of X G k_MOST_KINDS⟩,
    k_MOST_COUNT := ⟨_, PySem.W.mg_of X G k_MOST_COUNT⟩,
    k_MOST_LOTS := ⟨_, PySem.W.mg_of X G k_MOST_LOTS⟩,
    k_MOST_ROW := ⟨_, PySem.W.mg_of X G k_MOST_ROW⟩,
    c_Kinds := { cl := ⟨pgKinds, hdKinds, poKinds, saKinds⟩, mgC := PySem.W.mg_of X G aCKinds, ic := ⟨⟨pgKinds, hdKinds, poKinds, saKinds⟩, haKinds, hnKinds, htKinds, hmKinds, if_pos (beq_self_eq_true _)⟩, n_many := nAKinds_many, n_lots := nAKinds_lots, init := ⟨f6, _, fun_mk l6 c6 k6, ⟨mkKinds, a6, i6, kcKinds⟩⟩, m_eq := ⟨f7, _, fun_mk l7 c7 k7, a7, i7⟩ } }
  exact ⟨_, fun s v => .of_eq rfl, fun base _ _ => ok_law (P := l.prog) (w := w) (base := base) E (fun_mk l31 c31 k31)⟩
end
end K80
open PySem PySem.W PyProof.Rows
set_option maxRecDepth 100000 in
set_option maxHeartbeats 0 in
theorem PySem.Challenge.cw_clearhall_k80_whole_rows_that_part_kinds_holds : PySem.Challenge.rw_clearhall_k80_whole_rows_that_part_kinds.Holds := by
  w_on; o_law; k_head; (case hw => w_witness2)
  k_fill
  refine L2.walk_of (l := PySem.Challenge.rw_clearhall_k80_whole_rows_that_part_kinds) (n := 63) (k := 8) (x := "script") (CX := fun _ => L2.CX0) (sp := fun w => K80.spLaw _) rfl (by decide) rfl ⟨rfl, by decide, by decide⟩ (fun w h Y => PySem.W.kIn_of Y) ?F K80.law_spec (fun _ _ _ _ _ h => h)
  case F =>
    intro w mg fa h KX G hmg
    refine' K80.all_mk KX G hmg ?a1 ?l1 ?c1 ?k1 ?a2 ?l2 ?c2 ?k2 ?a3 ?l3 ?c3 ?k3 ?a4 ?l4 ?c4 ?k4 ?a5 ?l5 ?c5 ?k5 ?a6 ?i6 ?l6 ?c6 ?k6 ?a7 ?i7 ?l7 ?c7 ?k7 ?a8 ?l8 ?c8 ?k8 ?a9 ?l9 ?c9 ?k9 ?a10 ?l10 ?c10 ?k10 ?a11 ?l11 ?c11 ?k11 ?a12 ?l12 ?c12 ?k12 ?a13 ?l13 ?c13 ?k13 ?a14 ?l14 ?c14 ?k14 ?a15 ?l15 ?c15 ?k15 ?a16 ?l16 ?c16 ?k16 ?a17 ?l17 ?c17 ?k17 ?a18 ?l18 ?c18 ?k18 ?a19 ?l19 ?c19 ?k19 ?a20 ?l20 ?c20 ?k20 ?a21 ?l21 ?c21 ?k21 ?a22 ?l22 ?c22 ?k22 ?a23 ?l23 ?c23 ?k23 ?a24 ?l24 ?c24 ?k24 ?a25 ?l25 ?c25 ?k25 ?a26 ?l26 ?c26 ?k26 ?a27 ?l27 ?c27 ?k27 ?a28 ?l28 ?c28 ?k28 ?a29 ?l29 ?c29 ?k29 ?a30 ?l30 ?c30 ?k30 ?a31 ?l31 ?c31 ?k31 ?aCKinds ?pgKinds ?hdKinds ?poKinds ?saKinds ?mkKinds ?kcKinds ?haKinds ?hnKinds ?htKinds ?hmKinds ?nAKinds_many ?nAKinds_lots ?z_abs ?z_all ?z_any ?z_bool ?z_enumerate ?z_int ?z_isinstance ?z_len ?z_list ?z_max ?z_min ?z_range ?z_set ?z_sorted ?z_sum ?z_tuple ?z_zip ?k_MOST_KINDS ?k_MOST_COUNT ?k_MOST_LOTS ?k_MOST_ROW
    (case aCKinds => k_is)
    (case a1 => k_is); (case l1 => k_is); (case c1 => k_is); (case k1 => k_is); (case a2 => k_is); (case l2 => k_is); (case c2 => k_is); (case k2 => k_is)
    (case a3 => k_is); (case l3 => k_is); (case c3 => k_is); (case k3 => k_is); (case a4 => k_is); (case l4 => k_is); (case c4 => k_is); (case k4 => k_is)
    (case a5 => k_is); (case l5 => k_is); (case c5 => k_is); (case k5 => k_is); (case a6 => k_is); (case i6 => k_is); (case l6 => k_is); (case c6 => k_is)
    (case k6 => k_is); (case a7 => k_is); (case i7 => k_is); (case l7 => k_is); (case c7 => k_is); (case k7 => k_is); (case a8 => k_is); (case l8 => k_is)
    (case c8 => k_is); (case k8 => k_is); (case a9 => k_is); (case l9 => k_is); (case c9 => k_is); (case k9 => k_is); (case a10 => k_is); (case l10 => k_is)
    (case c10 => k_is); (case k10 => k_is); (case a11 => k_is); (case l11 => k_is); (case c11 => k_is); (case k11 => k_is); (case a12 => k_is); (case l12 => k_is)
    (case c12 => k_is); (case k12 => k_is); (case a13 => k_is); (case l13 => k_is); (case c13 => k_is); (case k13 => k_is); (case a14 => k_is); (case l14 => k_is)
    (case c14 => k_is); (case k14 => k_is); (case a15 => k_is); (case l15 => k_is); (case c15 => k_is); (case k15 => k_is); (case a16 => k_is); (case l16 => k_is)
    (case c16 => k_is); (case k16 => k_is); (case a17 => k_is); (case l17 => k_is); (case c17 => k_is); (case k17 => k_is); (case a18 => k_is); (case l18 => k_is)
    (case c18 => k_is); (case k18 => k_is); (case a19 => k_is); (case l19 => k_is); (case c19 => k_is); (case k19 => k_is); (case a20 => k_is); (case l20 => k_is)
    (case c20 => k_is); (case k20 => k_is); (case a21 => k_is); (case l21 => k_is); (case c21 => k_is); (case k21 => k_is); (case a22 => k_is); (case l22 => k_is)
    (case c22 => k_is); (case k22 => k_is); (case a23 => k_is); (case l23 => k_is); (case c23 => k_is); (case k23 => k_is); (case a24 => k_is); (case l24 => k_is)
    (case c24 => k_is); (case k24 => k_is); (case a25 => k_is); (case l25 => k_is); (case c25 => k_is); (case k25 => k_is); (case a26 => k_is); (case l26 => k_is)
    (case c26 => k_is); (case k26 => k_is); (case a27 => k_is); (case l27 => k_is); (case c27 => k_is); (case k27 => k_is); (case a28 => k_is); (case l28 => k_is)
    (case c28 => k_is); (case k28 => k_is); (case a29 => k_is); (case l29 => k_is); (case c29 => k_is); (case k29 => k_is); (case a30 => k_is); (case l30 => k_is)
    (case c30 => k_is); (case k30 => k_is); (case a31 => k_is); (case l31 => k_is); (case c31 => k_is); (case k31 => k_is); (case pgKinds => k_is); (case hdKinds => k_is)
    (case poKinds => k_is); (case saKinds => k_is); (case mkKinds => k_is); (case kcKinds => k_is); (case haKinds => k_is); (case hnKinds => k_is); (case htKinds => k_is); (case hmKinds => k_is)
    (case nAKinds_many => k_is); (case nAKinds_lots => k_is); (case z_abs => k_is); (case z_all => k_is); (case z_any => k_is); (case z_bool => k_is); (case z_enumerate => k_is); (case z_int => k_is)
    (case z_isinstance => k_is); (case z_len => k_is); (case z_list => k_is); (case z_max => k_is); (case z_min => k_is); (case z_range => k_is); (case z_set => k_is); (case z_sorted => k_is)
    (case z_sum => k_is); (case z_tuple => k_is); (case z_zip => k_is); (case k_MOST_KINDS => k_is); (case k_MOST_COUNT => k_is); (case k_MOST_LOTS => k_is); (case k_MOST_ROW => k_is)
