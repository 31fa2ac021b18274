import PyProof.Rows.All
import Wide.All
import OpenK.AllK
import Wide.FinOn
import HandS.ForMost
import HandS.ForExc
import HandS.Wide
import HandS.Gcd
import HandS.IsInst
import HandS.Flow
import HandS.Defaults
import HandS.Zip
import HandS.TupAny
import HandS.Deep
import HandS.Style
import KE.KMathG
import HandS.Star
import KE.GoesMore
import KE.GoesEnum
import HandS.NoneIn
import HandS.Ends
import HandS.HeadEnd
import HandS.HeadHook4
import HandS.Head2
import HandS.Head3
import Flt.RightSqrt
import PySem.Challenge.RW_skyplates_k54_whole_edges_of_two_planes
set_option Elab.async false
set_option linter.all false
set_option maxRecDepth 100000
namespace L3
open L2 PySem PySem.Spec PyProof.Rows
abbrev SL := L2.St

/-- plain data of the small semantics; loc n: the n-th list of the store -/
inductive D where
  | non
  | bl (b : Bool)
  | int (i : Int)
  | str (s : Str)
  | tup (xs : List D)
  | lst (xs : List D)
  | loc (n : Nat)
  | scr (ns : List Int)
abbrev Store := List (List D)
abbrev DEnv := List (Option D)

mutual
def D.pure : D → Bool
  | .loc _ => false
  | .tup xs => pureAll xs
  | .lst xs => pureAll xs
  | _ => true
def pureAll : List D → Bool
  | [] => true
  | x :: xs => x.pure && pureAll xs
end

/-- a tuple that may be read at a, untouched by the store (io) and the reserved addresses -/
def Tp (K : PySem.W.Frag) (H : Hp) (io B : List Addr) (a : Addr) (vs : List V) : Prop :=
  (∃ (o : Obj) (its : Array Value) (n : Nat), K.lookup a = some o ∧ o.cls = .type "tuple" ∧ o.data = .seq its n ∧ its.size ≤ sizeLine ∧ Vals vs its.toList) ∨ (Rd H a (.tup vs) ∧ a ∉ io ∧ a ∉ B)
def Ls (H : Hp) (io B : List Addr) (a : Addr) (vs : List V) : Prop := H a = some (.lst vs) ∧ a ∉ io ∧ a ∉ B
/-- a list that is only read: the script -/
def Lr (K : PySem.W.Frag) (H : Hp) (io B : List Addr) (a : Addr) (vs : List V) : Prop :=
  (∃ (o : Obj) (its : Array Value) (n : Nat), K.lookup a = some o ∧ o.cls = .type "list" ∧ o.dict = none ∧ o.data = .seq its n ∧ its.size ≤ sizeLine ∧ Vals vs its.toList) ∨ (Rd H a (.lst vs) ∧ a ∉ io ∧ a ∉ B)

mutual
/-- v stands for d -/
def RV (K : PySem.W.Frag) (H : Hp) (io B : List Addr) : D → V → Prop
  | .non, v => v = .non
  | .bl b, v => v = .bl b
  | .int i, v => v = .int i
  | .str s, v => v = .str s
  | .tup xs, v => ∃ a vs, v = .ref a ∧ Tp K H io B a vs ∧ RVs K H io B xs vs
  | .lst xs, v => ∃ a vs, v = .ref a ∧ Ls H io B a vs ∧ RVs K H io B xs vs
  | .loc n, v => ∃ a, v = .ref a ∧ io[n]? = some a
  | .scr ns, v => ∃ a, v = .ref a ∧ Lr K H io B a (ns.map V.int)
def RVs (K : PySem.W.Frag) (H : Hp) (io B : List Addr) : List D → List V → Prop
  | [], vs => vs = []
  | x :: xs, vs => ∃ v r, vs = v :: r ∧ RV K H io B x v ∧ RVs K H io B xs r
end

structure StOk (K : PySem.W.Frag) (H : Hp) (io B : List Addr) (st : Store) : Prop where
  len : io.length = st.length
  nd : (io ++ B).Nodup
  cont : ∀ (n : Nat) (xs : List D), st[n]? = some xs → pureAll xs = true ∧ ∃ a vs, io[n]? = some a ∧ H a = some (.lst vs) ∧ RVs K H io B xs vs
  bt : ∀ b ∈ B, H b ≠ none

structure EnvOk (K : PySem.W.Frag) (H : Hp) (io B : List Addr) (r : DEnv) (s : SL) : Prop where
  len : s.length = r.length
  get : ∀ (i : Nat) (d : D), r[i]? = some (some d) → ∃ v, s[i]? = some (some v) ∧ RV K H io B d v

/-- what a piece of code may have done to the tracked heap and the store's addresses -/
structure Stp (io : List Addr) (H : Hp) (io' : List Addr) (H' : Hp) : Prop where
  fr : ∀ b o, b ∉ io → H b = some o → H' b = some o
  ext : ∃ ex, io' = io ++ ex ∧ ∀ a ∈ ex, H a = none

theorem rdSome {H : Hp} {a : Addr} {u : HO} (r : Rd H a u) : ∃ o, H a = some o := by
  rcases r with r | ⟨o, r⟩
  · exact ⟨_, r⟩
  · exact ⟨_, r⟩
theorem rdKeep {H H' : Hp} {a : Addr} {u : HO} (r : Rd H a u) (k : ∀ o, H a = some o → H' a = some o) : Rd H' a u := by
  rcases r with r | ⟨o, r⟩
  · exact .inl (k _ r)
  · exact .inr ⟨o, k _ r⟩

section
variable {K : PySem.W.Frag} {H H' H1 H2 : Hp} {io io' io1 io2 B : List Addr}

theorem Stp.refl : Stp io H io H := ⟨fun _ _ _ h => h, [], by simp, fun a h => by cases h⟩
theorem Stp.trans {st1 : Store} (a : Stp io H io1 H1) (ok : StOk K H1 io1 B st1) (b : Stp io1 H1 io2 H2) : Stp io H io2 H2 := by
  obtain ⟨f1, e1, rfl, n1⟩ := a
  obtain ⟨f2, e2, rfl, n2⟩ := b
  have nn : ∀ b o, b ∉ io → H b = some o → b ∉ io ++ e1 := fun b o hb h z => by
    rcases List.mem_append.mp z with z | z
    · exact hb z
    · rw [n1 b z] at h; cases h
  refine ⟨fun b o hb h => f2 b o (nn b o hb h) (f1 b o hb h), e1 ++ e2, by simp, fun c hc => ?_⟩
  rcases List.mem_append.mp hc with hc | hc
  · exact n1 c hc
  · have hn := n2 c hc
    cases q : H c with
    | none => rfl
    | some o =>
      by_cases hb : c ∈ io
      · obtain ⟨n, hlt, hn'⟩ := List.getElem_of_mem hb
        have hl : n < st1.length := by
          rw [← ok.len, List.length_append]; omega
        obtain ⟨_, a, vs, h1, h2, _⟩ := ok.cont n _ (List.getElem?_eq_getElem hl)
        have : a = c := by
          rw [List.getElem?_append_left hlt, List.getElem?_eq_getElem hlt] at h1
          rw [← hn']; exact (Option.some.inj h1).symm
        subst this
        rw [hn] at h2; cases h2
      · rw [f1 c o hb q] at hn; cases hn

theorem Stp.new_tup {p : Addr} {o : HO} (hp : H p = none) : Stp io H io (upd H p o) :=
  ⟨fun b u _ h => by rw [upd_ne (ne_of_none h hp)]; exact h, [], by simp, fun a h => by cases h⟩

theorem Stp.mem {a : Addr} (s : Stp io H io' H') (h : H a ≠ none) (ha : a ∉ io) : a ∉ io' := by
  obtain ⟨_, ex, rfl, n⟩ := s
  intro z
  rcases List.mem_append.mp z with z | z
  · exact ha z
  · exact h (n a z)
theorem Stp.get {n : Nat} {a : Addr} (s : Stp io H io' H') (h : io[n]? = some a) : io'[n]? = some a := by
  obtain ⟨_, ex, rfl, _⟩ := s
  rw [List.getElem?_append_left (List.getElem?_eq_some_iff.mp h).1]
  exact h

theorem Tp.mono {a : Addr} {vs : List V} (t : Tp K H io B a vs) (s : Stp io H io' H') : Tp K H' io' B a vs := by
  rcases t with t | ⟨r, h1, h2⟩
  · exact .inl t
  · obtain ⟨o, ho⟩ := rdSome r
    exact .inr ⟨rdKeep r fun o h => s.fr a o h1 h, s.mem (by rw [ho]; simp) h1, h2⟩
theorem Ls.mono {a : Addr} {vs : List V} (t : Ls H io B a vs) (s : Stp io H io' H') : Ls H' io' B a vs := by
  obtain ⟨r, h1, h2⟩ := t
  exact ⟨s.fr a _ h1 r, s.mem (by rw [r]; simp) h1, h2⟩
theorem Lr.mono {a : Addr} {vs : List V} (t : Lr K H io B a vs) (s : Stp io H io' H') : Lr K H' io' B a vs := by
  rcases t with t | ⟨r, h1, h2⟩
  · exact .inl t
  · obtain ⟨o, ho⟩ := rdSome r
    exact .inr ⟨rdKeep r fun o h => s.fr a o h1 h, s.mem (by rw [ho]; simp) h1, h2⟩

mutual
theorem RV.mono (s : Stp io H io' H') : ∀ (d : D) (v : V), RV K H io B d v → RV K H' io' B d v
  | .non, _, h => h
  | .bl _, _, h => h
  | .int _, _, h => h
  | .str _, _, h => h
  | .tup xs, _, h => by
    obtain ⟨a, vs, e, t, r⟩ := h
    exact ⟨a, vs, e, t.mono s, RVs.mono s xs vs r⟩
  | .lst xs, _, h => by
    obtain ⟨a, vs, e, t, r⟩ := h
    exact ⟨a, vs, e, t.mono s, RVs.mono s xs vs r⟩
  | .loc n, _, h => by
    obtain ⟨a, e, q⟩ := h
    exact ⟨a, e, s.get q⟩
  | .scr ns, _, h => by
    obtain ⟨a, e, q⟩ := h
    exact ⟨a, e, q.mono s⟩
theorem RVs.mono (s : Stp io H io' H') : ∀ (ds : List D) (vs : List V), RVs K H io B ds vs → RVs K H' io' B ds vs
  | [], _, h => h
  | d :: ds, _, h => by
    obtain ⟨v, r, e, h1, h2⟩ := h
    exact ⟨v, r, e, RV.mono s d v h1, RVs.mono s ds r h2⟩
end
theorem EnvOk.mono {r : DEnv} {σ : SL} (e : EnvOk K H io B r σ) (s : Stp io H io' H') : EnvOk K H' io' B r σ :=
  ⟨e.len, fun i d h => let ⟨v, h1, h2⟩ := e.get i d h; ⟨v, h1, RV.mono s d v h2⟩⟩
theorem EnvOk.set {r : DEnv} {σ : SL} {i : Nat} {d : D} {v : V} (e : EnvOk K H io B r σ) (h : RV K H io B d v) : EnvOk K H io B (r.set i (some d)) (σ.set i (some v)) := by
  refine ⟨by rw [List.length_set, List.length_set]; exact e.len, fun j u hj => ?_⟩
  by_cases hij : i = j
  · subst hij
    by_cases hl : i < r.length
    · rw [List.getElem?_set_self hl] at hj
      cases hj
      exact ⟨v, List.getElem?_set_self (by rw [e.len]; exact hl), h⟩
    · rw [List.getElem?_eq_none (by simpa using hl)] at hj; cases hj
  · rw [List.getElem?_set_ne hij] at hj
    obtain ⟨w, h1, h2⟩ := e.get j u hj
    exact ⟨w, by rw [List.getElem?_set_ne hij]; exact h1, h2⟩

theorem RVs.length : ∀ {ds : List D} {vs : List V}, RVs K H io B ds vs → vs.length = ds.length
  | [], _, h => by cases h; rfl
  | d :: ds, _, h => by
    obtain ⟨v, r, rfl, _, h2⟩ := h
    simp [RVs.length h2]
theorem RVs.get : ∀ {ds : List D} {vs : List V} {n : Nat} {d : D}, RVs K H io B ds vs → ds[n]? = some d → ∃ v, vs[n]? = some v ∧ RV K H io B d v
  | [], _, _, _, _, e => by simp at e
  | x :: xs, _, 0, d, h, e => by
    obtain ⟨v, r, rfl, h1, _⟩ := h
    simp at e; subst e
    exact ⟨v, rfl, h1⟩
  | x :: xs, _, n + 1, d, h, e => by
    obtain ⟨v, r, rfl, _, h2⟩ := h
    obtain ⟨u, h3, h4⟩ := RVs.get (n := n) h2 (by simpa using e)
    exact ⟨u, by simpa using h3, h4⟩
theorem RVs.append : ∀ {ds es : List D} {vs ws : List V}, RVs K H io B ds vs → RVs K H io B es ws → RVs K H io B (ds ++ es) (vs ++ ws)
  | [], _, _, _, h, k => by cases h; exact k
  | d :: ds, _, _, _, h, k => by
    obtain ⟨v, r, rfl, h1, h2⟩ := h
    exact ⟨v, _, rfl, h1, RVs.append h2 k⟩
theorem RVs.set : ∀ {ds : List D} {vs : List V} {d : D} {v : V} (n : Nat), RVs K H io B ds vs → RV K H io B d v → RVs K H io B (ds.set n d) (vs.set n v)
  | [], _, _, _, _, h, _ => by cases h; exact rfl
  | x :: xs, _, d, v, 0, h, k => by
    obtain ⟨u, r, rfl, h1, h2⟩ := h
    exact ⟨v, r, rfl, k, h2⟩
  | x :: xs, _, d, v, n + 1, h, k => by
    obtain ⟨u, r, rfl, h1, h2⟩ := h
    exact ⟨u, _, rfl, h1, RVs.set n h2 k⟩
theorem RVs.take : ∀ {ds : List D} {vs : List V} (n : Nat), RVs K H io B ds vs → RVs K H io B (ds.take n) (vs.take n)
  | _, _, 0, _ => rfl
  | [], _, n + 1, h => by cases h; exact rfl
  | d :: ds, _, n + 1, h => by
    obtain ⟨v, r, rfl, h1, h2⟩ := h
    exact ⟨v, _, rfl, h1, RVs.take n h2⟩
theorem RVs.drop : ∀ {ds : List D} {vs : List V} (n : Nat), RVs K H io B ds vs → RVs K H io B (ds.drop n) (vs.drop n)
  | _, _, 0, h => h
  | [], _, n + 1, h => by cases h; exact rfl
  | d :: ds, _, n + 1, h => by
    obtain ⟨v, r, rfl, h1, h2⟩ := h
    exact RVs.drop n h2

/-- a fresh address may be reserved; a reserved one let go -/
theorem Tp.resv {p : Addr} {a : Addr} {vs : List V} (hp : H p = none) (t : Tp K H io B a vs) : Tp K H io (p :: B) a vs := by
  rcases t with t | ⟨r, h1, h2⟩
  · exact .inl t
  · obtain ⟨o, ho⟩ := rdSome r
    exact .inr ⟨r, h1, fun z => by rcases List.mem_cons.mp z with z | z; (rw [z, hp] at ho; cases ho); exact h2 z⟩
theorem Ls.resv {p : Addr} {a : Addr} {vs : List V} (hp : H p = none) (t : Ls H io B a vs) : Ls H io (p :: B) a vs := by
  obtain ⟨r, h1, h2⟩ := t
  exact ⟨r, h1, fun z => by rcases List.mem_cons.mp z with z | z; (rw [z, hp] at r; cases r); exact h2 z⟩
theorem Lr.resv {p : Addr} {a : Addr} {vs : List V} (hp : H p = none) (t : Lr K H io B a vs) : Lr K H io (p :: B) a vs := by
  rcases t with t | ⟨r, h1, h2⟩
  · exact .inl t
  · obtain ⟨o, ho⟩ := rdSome r
    exact .inr ⟨r, h1, fun z => by rcases List.mem_cons.mp z with z | z; (rw [z, hp] at ho; cases ho); exact h2 z⟩
mutual
theorem RV.resv {p : Addr} (hp : H p = none) : ∀ (d : D) (v : V), RV K H io B d v → RV K H io (p :: B) d v
  | .non, _, h => h
  | .bl _, _, h => h
  | .int _, _, h => h
  | .str _, _, h => h
  | .tup xs, _, h => by
    obtain ⟨a, vs, e, t, r⟩ := h
    exact ⟨a, vs, e, t.resv hp, RVs.resv hp xs vs r⟩
  | .lst xs, _, h => by
    obtain ⟨a, vs, e, t, r⟩ := h
    exact ⟨a, vs, e, t.resv hp, RVs.resv hp xs vs r⟩
  | .loc n, _, h => h
  | .scr ns, _, h => by
    obtain ⟨a, e, q⟩ := h
    exact ⟨a, e, q.resv hp⟩
theorem RVs.resv {p : Addr} (hp : H p = none) : ∀ (ds : List D) (vs : List V), RVs K H io B ds vs → RVs K H io (p :: B) ds vs
  | [], _, h => h
  | d :: ds, _, h => by
    obtain ⟨v, r, e, h1, h2⟩ := h
    exact ⟨v, r, e, RV.resv hp d v h1, RVs.resv hp ds r h2⟩
end
mutual
theorem RV.unres {p : Addr} : ∀ (d : D) (v : V), RV K H io (p :: B) d v → RV K H io B d v
  | .non, _, h => h
  | .bl _, _, h => h
  | .int _, _, h => h
  | .str _, _, h => h
  | .tup xs, _, h => by
    obtain ⟨a, vs, e, t, r⟩ := h
    refine ⟨a, vs, e, ?_, RVs.unres xs vs r⟩
    rcases t with t | ⟨r, h1, h2⟩
    · exact .inl t
    · exact .inr ⟨r, h1, fun z => h2 (List.mem_cons_of_mem _ z)⟩
  | .lst xs, _, h => by
    obtain ⟨a, vs, e, ⟨r1, h1, h2⟩, r⟩ := h
    exact ⟨a, vs, e, ⟨r1, h1, fun z => h2 (List.mem_cons_of_mem _ z)⟩, RVs.unres xs vs r⟩
  | .loc n, _, h => h
  | .scr ns, _, h => by
    obtain ⟨a, e, t⟩ := h
    refine ⟨a, e, ?_⟩
    rcases t with t | ⟨r, h1, h2⟩
    · exact .inl t
    · exact .inr ⟨r, h1, fun z => h2 (List.mem_cons_of_mem _ z)⟩
theorem RVs.unres {p : Addr} : ∀ (ds : List D) (vs : List V), RVs K H io (p :: B) ds vs → RVs K H io B ds vs
  | [], _, h => h
  | d :: ds, _, h => by
    obtain ⟨v, r, e, h1, h2⟩ := h
    exact ⟨v, r, e, RV.unres d v h1, RVs.unres ds r h2⟩
end
theorem StOk.unres {p : Addr} {st : Store} (s : StOk K H io (p :: B) st) : StOk K H io B st :=
  ⟨s.len, s.nd.sublist (List.Sublist.append (List.Sublist.refl io) (List.sublist_cons_self p B)), fun n xs h => let ⟨q, a, vs, h1, h2, h3⟩ := s.cont n xs h; ⟨q, a, vs, h1, h2, RVs.unres xs vs h3⟩, fun b hb => s.bt b (List.mem_cons_of_mem _ hb)⟩
theorem EnvOk.unres {p : Addr} {r : DEnv} {σ : SL} (s : EnvOk K H io (p :: B) r σ) : EnvOk K H io B r σ :=
  ⟨s.len, fun i d h => let ⟨v, h1, h2⟩ := s.get i d h; ⟨v, h1, RV.unres d v h2⟩⟩
theorem EnvOk.resv {p : Addr} {r : DEnv} {σ : SL} (hp : H p = none) (s : EnvOk K H io B r σ) : EnvOk K H io (p :: B) r σ :=
  ⟨s.len, fun i d h => let ⟨v, h1, h2⟩ := s.get i d h; ⟨v, h1, RV.resv hp d v h2⟩⟩
theorem StOk.nil_of (h : io = []) (hb : B = []) : StOk K H io B [] := by
  subst h; subst hb
  exact ⟨rfl, by simp, fun n xs e => by simp at e, fun b h => by cases h⟩
theorem StOk.at {st : Store} {n : Nat} {xs : List D} (s : StOk K H io B st) (h : st[n]? = some xs) : ∃ a vs, io[n]? = some a ∧ H a = some (.lst vs) ∧ RVs K H io B xs vs := (s.cont n xs h).2
theorem StOk.sets {st : Store} (s : StOk K H io B st) {a : Addr} (h : a ∈ io) : ∃ vs, H a = some (.lst vs) := by
  obtain ⟨n, hlt, hn⟩ := List.getElem_of_mem h
  obtain ⟨_, c, vs, h1, h2, _⟩ := s.cont n _ (List.getElem?_eq_getElem (by rw [← s.len]; exact hlt))
  rw [List.getElem?_eq_getElem hlt] at h1
  have e : c = a := by rw [← hn]; exact (Option.some.inj h1).symm
  subst e
  exact ⟨vs, h2⟩
/-- a new object that the store does not know -/
theorem StOk.new {st : Store} {p : Addr} {o : HO} (s : StOk K H io B st) (hp : H p = none) : StOk K (upd H p o) io B st := by
  refine ⟨s.len, s.nd, fun n xs h => ?_, fun b hb => ?_⟩
  · obtain ⟨q, a, vs, h1, h2, h3⟩ := s.cont n xs h
    exact ⟨q, a, vs, h1, by rw [upd_ne (ne_of_none h2 hp)]; exact h2, RVs.mono (Stp.new_tup hp) xs vs h3⟩
  · by_cases e : b = p
    · subst e; rw [upd_same]; simp
    · rw [upd_ne e]; exact s.bt b hb
theorem StOk.resv {st : Store} {p : Addr} {o : HO} (s : StOk K H io B st) (hp : H p = none) : StOk K (upd H p o) io (p :: B) st := by
  have hno : p ∉ io := fun z => by obtain ⟨vs, h⟩ := s.sets z; rw [hp] at h; cases h
  have hnB : p ∉ B := fun z => s.bt p z hp
  refine ⟨s.len, ?_, fun n xs h => ?_, fun b hb => ?_⟩
  · have := s.nd
    rw [List.nodup_append] at this ⊢
    obtain ⟨h1, h2, h3⟩ := this
    refine ⟨h1, List.nodup_cons.mpr ⟨hnB, h2⟩, fun a ha b hb => ?_⟩
    rcases List.mem_cons.mp hb with e | hb
    · subst e; intro e; subst e; exact hno ha
    · exact h3 a ha b hb
  · obtain ⟨q, a, vs, h1, h2, h3⟩ := s.cont n xs h
    exact ⟨q, a, vs, h1, by rw [upd_ne (ne_of_none h2 hp)]; exact h2, RVs.mono (Stp.new_tup hp) xs vs (RVs.resv hp xs vs h3)⟩
  · rcases List.mem_cons.mp hb with e | hb
    · subst e; rw [upd_same]; simp
    · by_cases e : b = p
      · subst e; rw [upd_same]; simp
      · rw [upd_ne e]; exact s.bt b hb
end
end L3

namespace L3
open L2 PySem PySem.Spec PyProof.Rows

/-- a def's contract where no guard of a repr runs around it -/
structure FnG (P : Program) (w : World) (K : PySem.W.Frag) (mg : Str → Option Value) (base : Heap) (k : Nat) (f : Addr) (fd : FuncData) (ps : List Str) (sp : Sp) : Prop where
  len : ∀ vs H Q E, sp vs H Q E → vs.length = ps.length
  go : ∀ (A : Around) (outer : List Env) (s : Shared) (H : Hp) (args : Args) (us : List Value) (vs : List V) (Q : VK) (E : XK), A.guards = some [] → Room k A → Env0 P w K mg base A outer s H → BindsTo s fd args (ps.zip us) → Vals vs us → sp vs H Q E →
    codeAny (model P w) A (.call (.ref f) args) (CR (L2.CX P w) outer P w H s Q E) s

section
variable {P : Program} {w : World} {K : PySem.W.Frag} {mg : Str → Option Value} {base : Heap}

theorem FnG.mono {j k : Nat} {f : Addr} {fd : FuncData} {ps : List Str} {sp : Sp} (F : FnG P w K mg base j f fd ps sp) (h : j ≤ k) : FnG P w K mg base k f fd ps sp :=
  ⟨F.len, fun A outer s H args us vs Q E hg hr => F.go A outer s H args us vs Q E hg (hr.mono h)⟩

/-- by its body -/
theorem fnG_of {k : Nat} {f : Addr} {fd : FuncData} {x qual : Str} {params : Arguments} {body : List Stmt} {scope : Scope} {N ps : List Str} {sp : Sp}
    (F : FunD K x qual params body scope [] [] f fd) (S : FnScope N ps scope) (len : ∀ vs H Q E, sp vs H Q E → vs.length = ps.length)
    (hb : ∀ (cdv : Value) (A : Around) (outer : List Env) (s : Shared) (H : Hp) (vs : List V) (Q : VK) (E : XK), A.guards = some [] → Room k (A.deeper (envOfC qual scope s.heap.objs.size f cdv)) → sp vs H Q E →
      ∃ t, PSs (cxOf (L2.CX P w) P w K mg base N qual scope f cdv A outer s H E) body t ∧ t { nx := fun _ H' => Q .non H', rt := Q } (start N vs) H) : FnG P w K mg base (k + 1) f fd ps sp := by
  obtain ⟨oc, od, dV, kV, doc, pm, an, cdv, ct, osl, hfd, lk, hcd, _, _⟩ := F.ex
  subst hfd
  constructor
  · exact len
  intro A outer s H args us vs Q E hg hr e0 bnd rel hsp
  have kin : K.In s.heap := e0.mod.kin.keeps fun b o e => (e0.bs b o e).1
  have nol : s.heap.NoLimit := e0.mod.nolimit.keeps fun b o e => (e0.bs b o e).1
  have kinds : ∀ y ∈ ps.zip us, scope.names.lookup y.1 = some .local ∨ (scope.names.lookup y.1 = some .cell ∧ ((cellsFrom (s.heap.objs.size + 1) scope.names []).lookup y.1).isSome = true) := by
    rintro ⟨n, v⟩ hy
    cases S.par n (List.of_mem_zip hy).1 with
    | inl q => exact .inl q
    | inr q => exact .inr ⟨q, PySem.W.cellsFrom_some _ _ _ (.inl q)⟩
  refine codeAny_call_function hr.depth (kin _ _ lk) rfl S.co S.gen rfl (PySem.W.codeRec_of kin hcd) (bnd _ _ _ _ ?_)
  refine wpAny_newFunctionEnv_cells S.kind kinds fun env he s1 x => ?_
  subst he
  refine ⟨nol.keeps x.toInCall.keep, codeAny_func ?_⟩
  obtain ⟨t, ht, hq⟩ := hb cdv A outer s H vs Q E hg (hr.deeper _) hsp
  have I := inv_start (CX := L2.CX P w) (mg := mg) (base := base) (E := E) (cd := cdv) (qual := qual) (f := f) S hr.hd e0 (len _ _ _ _ hsp) rel x
  refine wpAny_mono (ht.run [] s1 (start N vs) H _ I hq) (fun fl s' hs => ?_) fun e s' hs => hs
  cases fl with
  | ret u =>
    obtain ⟨v, σ', H', J, rv, q⟩ := hs
    exact ⟨v, H', J.os, J.bare, J.base, J.hok, rv, q⟩
  | next =>
    obtain ⟨σ', H', J, q⟩ := hs
    exact ⟨.non, H', J.os, J.bare, J.base, J.hok, rfl, q⟩
  | brk => exact hs.choose_spec.choose_spec.2.elim
  | cont => exact hs.choose_spec.choose_spec.2.elim
end

section
variable {X : Cx} {k : Nat} {f : Addr} {fd : FuncData} {ps : List Str} {sp : Sp} {W : WX} {x : Str} {p pos : Pos} {e : Expr} {es : List Expr} {t tk : TA} {kws : List Keyword}

theorem goG {pins : List (Addr × Obj)} {σ : SL} {H : Hp} {s : Shared} {Q : VK} {us : List Value} {vs : List V} {args : Args} (F : FnG X.prog X.w X.K X.mg X.base k f fd ps sp) (hg : X.A.guards = some []) (hr : Room k X.A)
    (bnd : us.length = ps.length → BindsTo s fd args (ps.zip us)) (tk : Takes X W) (I : Inv X pins σ H s) (r : Vals vs us) (h : sp vs H Q (WE W σ)) : codeAny (model X.prog X.w) X.A (.call (.ref f) args) (fun r s' => match r with
      | .ok (.ret u) => EP X pins σ Q u s'
      | .ok _ => False
      | .error e => X.xe e s') s := by
  refine codeAny_mono (F.go X.A X.stack s H args us vs Q (WE W σ) hg hr I.env0 (bnd ?_) r h) fun r s' hq => ?_
  · rw [← r.length]; exact F.len _ _ _ _ h
  cases r with
  | error e => exact passAt tk σ pins H s e s' I hq
  | ok fl =>
    cases fl with
    | ret u => exact I.after hq
    | next => exact hq.elim
    | brk => exact hq.elim
    | cont => exact hq.elim

def tCallG (sp : Sp) (W : WX) (t : TA) : TE := fun σ H Q => t σ H fun vs H1 => sp vs H1 Q (WE W σ)
theorem pe_callG (F : FnG X.prog X.w X.K X.mg X.base k f fd ps sp) (hg : X.A.guards = some []) (hr : Room k X.A) (gx : Gl X x) (hm : X.mg x = some (.ref f)) (hk : PySem.W.keepIn X.K (.ref f) = true) (hb : Binds X.K fd ps []) (tk : Takes X W)
    (ha : PA X (e :: es) t) (hdb : (x == ("__debug__" : Str)) = false) (he : starEach (e :: es) X.env = (false, eval e X.env) :: starEach es X.env) (hpl : (backTo pos (starEach es X.env)).any (·.1) = false) :
    PE X (.Call (.Name x p) (e :: es) [] pos) (tCallG sp W t) := by
  constructor
  intro pins s σ H Q I h
  refine wpAny_Call_Name_kw (ld_glob I gx hm ?_ hdb)
  refine PySem.W.callWith_K (h₀ := X.base) I.ok.mod.kin hk (thn (ha.run pos pins s σ H _ I h) fun us s1 ⟨vs, H1, I1, r, q⟩ => ⟨I1.kIn, ?_⟩) he hpl
  refine wpAny_call (codeAny_mono (goG (us := us) F hg hr (fun hl => ?_) tk I1 r q) fun r s' hq => ?_)
  · have b := hb s1 us I1.kIn (by rw [List.append_nil]; exact hl)
    rw [List.append_nil] at b
    exact b
  · cases r with
    | error e => exact hq
    | ok fl => cases fl <;> exact hq
theorem pe_callG0 (F : FnG X.prog X.w X.K X.mg X.base k f fd ps sp) (hg : X.A.guards = some []) (hr : Room k X.A) (gx : Gl X x) (hm : X.mg x = some (.ref f)) (hk : PySem.W.keepIn X.K (.ref f) = true) (hb : Binds X.K fd ps []) (tk : Takes X W)
    (hdb : (x == ("__debug__" : Str)) = false) : PE X (.Call (.Name x p) [] [] pos) (tCallG sp W tNil) := by
  constructor
  intro pins s σ H Q I h
  refine wpAny_Call_Name_kw (ld_glob I gx hm ?_ hdb)
  refine PySem.W.callWith_K0 I.kIn hk (wpAny_call (codeAny_mono (goG (us := []) F hg hr (fun hl => ?_) tk I .nil h) fun r s' hq => ?_))
  · have b := hb s [] I.kIn (by rw [List.append_nil]; exact hl)
    rw [List.append_nil] at b
    exact b
  · cases r with
    | error e => exact hq
    | ok fl => cases fl <;> exact hq
/-- how n positional values and the other parameters' by name are bound -/
def KB (K : PySem.W.Frag) (fd : FuncData) (ps : List Str) (n : Nat) : Prop := ∀ (s : Shared) (us ws : List Value), K.In s.heap → us.length = n → ws.length = ps.length - n → BindsTo s fd ⟨us, (ps.drop n).zip ws⟩ (ps.zip (us ++ ws))
def tCallGK (n m : Nat) (sp : Sp) (W : WX) (t tk : TA) : TE := fun σ H Q => t σ H fun vs H1 => tk σ H1 fun zs H2 => vs.length = n ∧ zs.length = m ∧ sp (vs ++ zs) H2 Q (WE W σ)
theorem pe_callGK {n : Nat} (F : FnG X.prog X.w X.K X.mg X.base k f fd ps sp) (hg : X.A.guards = some []) (hr : Room k X.A) (gx : Gl X x) (hm : X.mg x = some (.ref f)) (hk : PySem.W.keepIn X.K (.ref f) = true)
    (hb : KB X.K fd ps n) (tkk : Takes X W)
    (ha : PA X (e :: es) t) (hkw : PK X kws tk) (hall : (backToKw pos (keywordEach kws X.env)).all (·.1.isSome) = true) (hks : (backToKw pos (keywordEach kws X.env)).filterMap (·.1) = ps.drop n)
    (hdb : (x == ("__debug__" : Str)) = false) (he : starEach (e :: es) X.env = (false, eval e X.env) :: starEach es X.env)
    (hpl : ((backTo pos (starEach (e :: es) X.env)).any (·.1) || (backToKw pos (keywordEach kws X.env)).any (·.1.isNone)) = false) :
    PE X (.Call (.Name x p) (e :: es) kws pos) (tCallGK n (ps.length - n) sp W t tk) := by
  constructor
  intro pins s σ H Q I h
  refine wpAny_Call_Name_kw (ld_glob I gx hm ?_ hdb)
  refine PySem.W.callWith_KW (h₀ := X.base) I.ok.mod.kin hk hall (thn (ha.run pos pins s σ H _ I h) fun us s1 ⟨vs, H1, I1, r, q⟩ => ?_) hpl he
  refine thn (hkw.run pos pins s1 σ H1 _ I1 q) fun ws s2 ⟨zs, H2, I2, rz, l1, l2, q2⟩ => ⟨I2.kIn, ?_⟩
  rw [hks]
  refine wpAny_call (codeAny_mono (goG (us := us ++ ws) F hg hr (fun hl => hb s2 us ws I2.kIn (by rw [← r.length]; exact l1) (by rw [← rz.length]; exact l2)) tkk I2 (r.append rz) q2) fun r s' hq => ?_)
  cases r with
  | error e => exact hq
  | ok fl => cases fl <;> exact hq
theorem pe_callGK0 (F : FnG X.prog X.w X.K X.mg X.base k f fd ps sp) (hg : X.A.guards = some []) (hr : Room k X.A) (gx : Gl X x) (hm : X.mg x = some (.ref f)) (hk : PySem.W.keepIn X.K (.ref f) = true)
    (hb : KB X.K fd ps 0) (tkk : Takes X W) (hkw : PK X kws tk) (hall : (backToKw pos (keywordEach kws X.env)).all (·.1.isSome) = true) (hks : (backToKw pos (keywordEach kws X.env)).filterMap (·.1) = ps)
    (hdb : (x == ("__debug__" : Str)) = false) (hpl : ((backTo pos (starEach [] X.env)).any (·.1) || (backToKw pos (keywordEach kws X.env)).any (·.1.isNone)) = false) :
    PE X (.Call (.Name x p) [] kws pos) (tCallGK 0 ps.length sp W tNil tk) := by
  constructor
  intro pins s σ H Q I h
  refine wpAny_Call_Name_kw (ld_glob I gx hm ?_ hdb)
  refine PySem.W.callWith_KW0 (h₀ := X.base) I.ok.mod.kin hk hall ?_ hpl
  refine thn (hkw.run pos pins s σ H _ I h) fun ws s2 ⟨zs, H2, I2, rz, l1, l2, q2⟩ => ⟨I2.kIn, ?_⟩
  rw [hks]
  have bd := fun (hl : ws.length = ps.length) => hb s2 [] ws I2.kIn rfl hl
  refine wpAny_call (codeAny_mono (goG (us := ws) F hg hr (fun hl => bd hl) tkk I2 rz q2) fun r s' hq => ?_)
  cases r with
  | error e => exact hq
  | ok fl => cases fl <;> exact hq
end
end L3

namespace L3
open L2 PySem PySem.Spec PyProof.Rows

/-! ### the program's parts -/
inductive Op where
  | add | sub | mul | fdiv | md | pow | shl | shr | band
  | neg
  | eq | ne | lt | le | gt | ge | isN | notN | memb | nmemb
  | tup | lst | idx | cut (lo hi : Bool)
  | len | abs | int | str | max2 | min2 | sum | all | any | tuple | list | repr | divmod | isi (n : Nat) | gcd | sorted | isB | nisB | isqrt | rev
  deriving DecidableEq
inductive IK where
  | seq | rng | enum | zip
  deriving DecidableEq
inductive Ex where
  | var (i : Nat)
  | con (d : D)
  | glo (j : Nat)
  | op (o : Op) (es : List Ex)
  | nott (a : Ex)
  | and2 (a b : Ex)
  | or2 (a b : Ex)
  | ifx (c a b : Ex)
  | call (f : Nat) (es ks : List Ex)
  | callr (f : Nat) (es ks : List Ex)
  | comp (k : IK) (its : List Ex) (ts : List Nat) (c e : Ex)
  | comp2 (k : IK) (its : List Ex) (ts : List Nat) (k1 : IK) (its1 : List Ex) (ts1 : List Nat) (e : Ex)
  | ref (e : Ex)
  | chn (o1 o2 : Op) (a b c : Ex)
  | star (a : Ex) (es : List Ex)
/-- what a store goes to: a name, a place of a list, several -/
inductive Lv where
  | nm (i : Nat)
  | sub (a b : Ex)
  | tp (ts : List Lv)
inductive Sm where
  | asg (t : Lv) (e : Ex)
  | par (is : List Nat) (es : List Ex)
  | aug (i : Nat) (o : Op) (e : Ex)
  | app (a e : Ex)
  | drop (e : Ex)
  | ret (e : Ex)
  | retN | brk | cnt | pass
  | iff (c : Ex) (a b : List Sm)
  | loop (k : IK) (its : List Ex) (t : Lv) (body : List Sm)
  | whl (c : Ex) (body : List Sm)
  | raise (c : Nat) (e : Ex)

/-! ### outcomes -/
inductive Res (α : Type) where
  | stuck
  | ok (a : α) (st : Store)
  | exc (c : Nat) (x : D) (st : Store)
def Res.bind {α β : Type} : Res α → (α → Store → Res β) → Res β
  | .stuck, _ => .stuck
  | .ok a st, f => f a st
  | .exc c x st, _ => .exc c x st
def Res.of {α : Type} (st : Store) : Option α → Res α
  | some a => .ok a st
  | none => .stuck
theorem Res.bind_ok {α β : Type} (a : α) (st : Store) (f : α → Store → Res β) : (Res.ok a st).bind f = f a st := rfl
theorem Res.bind_stuck {α β : Type} (f : α → Store → Res β) : (Res.stuck : Res α).bind f = .stuck := rfl
theorem Res.bind_exc {α β : Type} (c : Nat) (x : D) (st : Store) (f : α → Store → Res β) : (Res.exc c x st : Res α).bind f = .exc c x st := rfl
theorem Res.of_some {α : Type} (st : Store) (a : α) : Res.of st (some a) = .ok a st := rfl

inductive Fl where
  | nx | bk | ct | rt (d : D)
inductive Out where
  | stuck
  | go (f : Fl) (r : DEnv) (st : Store)
  | exc (c : Nat) (x : D) (r : DEnv) (st : Store)

/-! ### operations -/
def isOwn (st : Store) : D → Option (List D)
  | .lst xs => some xs
  | .loc n => st[n]?
  | _ => none
def isLst (st : Store) : D → Option (List D)
  | .lst xs => some xs
  | .loc n => st[n]?
  | .scr ns => some (ns.map .int)
  | _ => none
def isSeq (st : Store) : D → Option (List D)
  | .lst xs => some xs
  | .tup xs => some xs
  | .loc n => st[n]?
  | .scr ns => some (ns.map .int)
  | _ => none
mutual
def D.py : D → Option PyData
  | .non => some .none
  | .bl b => some (.bool b)
  | .int i => some (.int i)
  | .str s => some (.str s)
  | .tup xs => (pys xs).map .tuple
  | .lst xs => (pys xs).map .list
  | .loc _ => none
  | .scr _ => none
def pys : List D → Option (List PyData)
  | [] => some []
  | x :: xs => match x.py, pys xs with
    | some p, some ps => some (p :: ps)
    | _, _ => none
end
def pyOf (st : Store) : D → Option PyData
  | .loc n => match st[n]? with
    | some xs => (pys xs).map .list
    | none => none
  | d => d.py
def eqP (st : Store) (a b : D) : Option Bool := match pyOf st a, pyOf st b with
  | some p, some q => if SeqAt.shaped p = true ∧ SeqAt.shaped q = true then some (PyData.eqv p q) else none
  | _, _ => none
def strD : D → Option Str
  | .str s => some s
  | _ => none
def eqD (st : Store) (a b : D) : Option Bool := match strD a, strD b with
  | some s, some t => some (decide (s = t))
  | _, _ => eqP st a b
/-- an int that the operations take: below 2 ^ 1900 -/
def Bd (n : Nat) (i : Int) : Prop := i.natAbs < 2 ^ n
instance (n : Nat) (i : Int) : Decidable (Bd n i) := inferInstanceAs (Decidable (i.natAbs < 2 ^ n))
def truth (st : Store) : D → Option Bool
  | .non => some false
  | .bl b => some b
  | .int i => some (i != 0)
  | .tup xs => some (!xs.isEmpty)
  | .lst xs => some (!xs.isEmpty)
  | .loc n => match st[n]? with
    | some xs => some (!xs.isEmpty)
    | none => none
  | .scr ns => some (!ns.isEmpty)
  | .str _ => none
def intsD : List D → Option (List Int)
  | [] => some []
  | .int i :: r => (intsD r).map (i :: ·)
  | _ => none
def boolsD : List D → Option (List Bool)
  | [] => some []
  | .bl i :: r => (boolsD r).map (i :: ·)
  | _ => none
def cutD (xs : List D) (lo hi : Option Int) : List D := (xs.drop (HT.sIx xs.length 0 lo)).take (HT.sIx xs.length xs.length hi - HT.sIx xs.length 0 lo)
def cutOp (st : Store) (d : D) (lo hi : Option Int) : Option D := match d with
  | .tup xs => some (.tup (cutD xs lo hi))
  | d => match isLst st d with
    | some xs => some (.lst (cutD xs lo hi))
    | none => none
/-- the types that isinstance asks of -/
def isType : Nat → D → Bool
  | 0, .int _ => true
  | 0, .bl _ => true
  | 1, .bl _ => true
  | 2, .tup _ => true
  | 3, .lst _ => true
  | 3, .loc _ => true
  | 3, .scr _ => true
  | 4, .str _ => true
  | _, _ => false
mutual
/-- how long its text may be -/
def cost : PyData → Nat
  | .none => 4
  | .bool _ => 5
  | .int _ => 1921
  | .str s => (reprText s).length
  | .list xs => costs xs + 2
  | .tuple xs => costs xs + 3
  | .dict _ => 0
def costs : List PyData → Nat
  | [] => 0
  | x :: xs => cost x + 2 + costs xs
end
mutual
/-- data whose text may be asked: small ints, no dict -/
def plainP : PyData → Bool
  | .int i => decide (Bd 1900 i)
  | .list xs => plainPs xs
  | .tuple xs => plainPs xs
  | .dict _ => false
  | _ => true
def plainPs : List PyData → Bool
  | [] => true
  | x :: xs => plainP x && plainPs xs
end
/-- a flat item's own value -/
def flatD : D → Option V
  | .non => some .non
  | .bl b => some (.bl b)
  | .int i => some (.int i)
  | .str s => some (.str s)
  | _ => none
def flatDs : List D → Option (List V)
  | [] => some []
  | x :: xs => match flatD x, flatDs xs with
    | some v, some vs => some (v :: vs)
    | _, _ => none
def tupD : D → Option (List D)
  | .tup xs => some xs
  | _ => none
/-- x in s: a tuple of flat items, a list of data -/
def inD (st : Store) (x s : D) : Option Bool := match tupD s with
  | some xs => match flatD x, flatDs xs with
    | some v, some vs => some (inV v vs)
    | _, _ => none
  | none => match pyOf st x, pyOf st s with
    | some p, some (.list ds) => if SeqAt.shaped p = true ∧ SeqAt.shaped (.list ds) = true then some (ds.any fun z => PyData.eqv z p) else none
    | _, _ => none
def isNonD : D → Bool
  | .non => true
  | _ => false
def opD (st : Store) : Op → List D → Option D
  | .add, [.int i, .int j] => some (.int (i + j))
  | .add, [.tup xs, .tup ys] => if xs.length + ys.length ≤ sizeLine then some (.tup (xs ++ ys)) else none
  | .add, [a, b] => match isOwn st a, isOwn st b with
    | some xs, some ys => if xs.length + ys.length ≤ sizeLine then some (.lst (xs ++ ys)) else none
    | _, _ => none
  | .sub, [.int i, .int j] => some (.int (i - j))
  | .sub, [.bl i, .bl j] => some (.int (b2i i - b2i j))
  | .mul, [.int i, .int j] => if Bd 4000 i ∧ Bd 4000 j then some (.int (i * j)) else none
  | .mul, [a, .int k] => match isOwn st a with
    | some xs => if (0 ≤ k ∧ k ≤ 100) ∧ xs.length * k.toNat ≤ sizeLine then some (.lst (List.replicate k.toNat xs).flatten) else none
    | none => none
  | .fdiv, [.int i, .int j] => if 0 < j ∧ Bd 4000 j then some (.int (i / j)) else none
  | .md, [.int i, .int j] => if 0 < j then some (.int (i % j)) else none
  | .pow, [.int i, .int j] => if 0 ≤ j ∧ j ≤ 1000000 ∧ Bd 64 i then some (.int (i ^ j.toNat)) else none
  | .shl, [.int i, .int j] => if 0 ≤ j ∧ j ≤ 1000000 ∧ Bd 64 i then some (.int (i * 2 ^ j.toNat)) else none
  | .rev, [a] => (isLst st a).map fun xs => .lst xs.reverse
  | .neg, [.int i] => some (.int (-i))
  | .eq, [a, b] => (eqD st a b).map .bl
  | .ne, [a, b] => (eqD st a b).map fun c => .bl (!c)
  | .lt, [.int i, .int j] => some (.bl (decide (i < j)))
  | .le, [.int i, .int j] => some (.bl (decide (i ≤ j)))
  | .gt, [.int i, .int j] => some (.bl (decide (j < i)))
  | .ge, [.int i, .int j] => some (.bl (decide (j ≤ i)))
  | .isN, [a] => some (.bl (isNonD a))
  | .notN, [a] => some (.bl (!isNonD a))
  | .tup, ds => if ds.length ≤ sizeLine then some (.tup ds) else none
  | .lst, ds => if ds.length ≤ sizeLine then some (.lst ds) else none
  | .idx, [a, .int i] => match isSeq st a with
    | some xs => atI xs i
    | none => none
  | .cut false false, [a] => cutOp st a none none
  | .cut true false, [a, .int i] => cutOp st a (some i) none
  | .cut false true, [a, .int j] => cutOp st a none (some j)
  | .cut true true, [a, .int i, .int j] => cutOp st a (some i) (some j)
  | .len, [a] => (isSeq st a).map fun xs => .int xs.length
  | .abs, [.int i] => some (.int (if i < 0 then -i else i))
  | .int, [.int i] => some (.int i)
  | .int, [.bl b] => some (.int (if b then 1 else 0))
  | .str, [.int i] => if Bd 1900 i then some (.str (toString i)) else none
  | .max2, [.int i, .int j] => some (.int (if j > i then j else i))
  | .min2, [.int i, .int j] => some (.int (if j < i then j else i))
  | .sum, [a] => match isLst st a with
    | some xs => (intsD xs).map fun ns => .int ns.sum
    | none => none
  | .all, [a] => match isLst st a with
    | some xs => (boolsD xs).map fun bs => .bl (bs.all id)
    | none => none
  | .any, [a] => match isLst st a with
    | some xs => (boolsD xs).map fun bs => .bl (bs.any id)
    | none => none
  | .tuple, [a] => (isSeq st a).map .tup
  | .list, [a] => (isSeq st a).map .lst
  | .repr, [a] => match pyOf st a with
    | some p => if plainP p = true ∧ cost p ≤ sizeLine ∧ p.depth ≤ 60 then some (.str p.shown) else none
    | none => none
  | .divmod, [.int i, .int j] => if 0 < j ∧ j < 1073741824 then some (.tup [.int (i / j), .int (i % j)]) else none
  | .isi n, [a] => some (.bl (isType n a))
  | .memb, [a, b] => (inD st a b).map .bl
  | .nmemb, [a, b] => (inD st a b).map fun c => .bl (!c)
  | .isB, [.bl a, .bl b] => some (.bl (decide (a = b)))
  | .nisB, [.bl a, .bl b] => some (.bl (!decide (a = b)))
  | .isqrt, [.int i] => if 0 ≤ i ∧ Bd 4000 i then some (.int ((Float64.isqrt i.toNat : Nat) : Int)) else none
  | .gcd, [.int i, .int j] => some (.int (Nat.gcd i.natAbs j.natAbs : Nat))
  | _, _ => none

def itemsOf (st : Store) : IK → List D → Option (List D)
  | .seq, [a] => isSeq st a
  | .rng, [.int j] => if -(2 ^ 62) ≤ j ∧ j < 2 ^ 62 then some ((List.range j.toNat).map fun k : Nat => .int (k : Int)) else none
  | .rng, [.int i, .int j] => if (-(2 ^ 62) ≤ i ∧ i < 2 ^ 62) ∧ (-(2 ^ 62) ≤ j ∧ j < 2 ^ 62) then some ((List.range (j - i).toNat).map fun k : Nat => .int (i + (k : Int))) else none
  | .rng, [.int i, .int j, .int c] => if (-(2 ^ 62) ≤ i ∧ i < 2 ^ 62) ∧ (-(2 ^ 62) ≤ j ∧ j < 2 ^ 62) ∧ c = -1 then some ((List.range (i - j).toNat).map fun k : Nat => .int (i + (k : Int) * c)) else none
  | .zip, [a, b] => match isSeq st a, isSeq st b with
    | some xs, some ys => some ((xs.zip ys).map fun p => .tup [p.1, p.2])
    | _, _ => none
  | .enum, [a] => (isSeq st a).map fun xs => (xs.zipIdx).map fun p => .tup [.int (p.2 : Nat), p.1]
  | _, _ => none
def locsOf : List D → List Nat
  | [] => []
  | .loc n :: r => n :: locsOf r
  | _ :: r => locsOf r
/-- the list of the store that is walked (it must stay as it is) -/
def walked : IK → List D → List Nat
  | .seq, [.loc n] => [n]
  | .zip, ds => locsOf ds
  | .enum, ds => locsOf ds
  | _, _ => []
def still (ns : List Nat) (st st' : Store) : Prop := ∀ n ∈ ns, st'[n]? = st[n]?
open Classical in
noncomputable def stillB (ns : List Nat) (st st' : Store) : Bool := decide (still ns st st')

def setAll : List Nat → List D → DEnv → Option DEnv
  | [i], [x], r => some (r.set i (some x))
  | i :: is, x :: xs, r => setAll is xs (r.set i (some x))
  | _, _, _ => none
/-- a comprehension's names: one takes the item, several its parts -/
def bindC (ts : List Nat) (x : D) (r : DEnv) : Option DEnv := match ts with
  | [i] => some (r.set i (some x))
  | ts => match x with
    | .tup xs => setAll ts xs r
    | .lst xs => setAll ts xs r
    | _ => none
def wipeD (r : DEnv) : List Nat → DEnv
  | [] => r
  | v :: vs => (wipeD r vs).set v none
/-- a comprehension's turns -/
noncomputable def compL (ns : List Nat) (body : D → Store → Res (Option D)) : List D → Store → Res (List D)
  | [], st => .ok [] st
  | x :: xs, st => match body x st with
    | .ok y st1 => if stillB ns st st1 && decide (st1.length = st.length) then (compL ns body xs st1).bind fun ys st2 => .ok (match y with | some y => y :: ys | none => ys) st2 else .stuck
    | _ => .stuck

/-- the turns of a comprehension of two for: what each outer turn adds -/
noncomputable def compLL (ns : List Nat) (body : D → Store → Res (List D)) : List D → Store → Res (List D)
  | [], st => .ok [] st
  | x :: xs, st => match body x st with
    | .ok ys st1 => if stillB ns st st1 && decide (st1.length = st.length) then (compLL ns body xs st1).bind fun zs st2 => .ok (ys ++ zs) st2 else .stuck
    | _ => .stuck

mutual
/-- a value at the end of a def: its own lists are taken as they stand -/
def fz (n0 : Nat) (st : Store) : D → Option D
  | .loc n => if n < n0 then some (.loc n) else match st[n]? with
    | some xs => some (.lst xs)
    | none => none
  | .tup xs => (fzs n0 st xs).map .tup
  | .lst xs => (fzs n0 st xs).map .lst
  | d => some d
def fzs (n0 : Nat) (st : Store) : List D → Option (List D)
  | [] => some []
  | x :: xs => match fz n0 st x, fzs n0 st xs with
    | some y, some ys => some (y :: ys)
    | _, _ => none
end
/-- behind a call -/
def after (st : Store) : Res D → Res D
  | .ok d st1 => match fz st.length st1 d with
    | some d' => .ok d' (st1.take st.length)
    | none => .stuck
  | .exc c x st1 => match fz st.length st1 x with
    | some x' => .exc c x' (st1.take st.length)
    | none => .stuck
  | .stuck => .stuck
/-- behind a call whose list the caller goes on with -/
def afterR (st : Store) : Res D → Res D
  | .ok (.loc n) st1 => if st.length ≤ n then match st1[n]? with
      | some xs => .ok (.loc st.length) (st1.take st.length ++ [xs])
      | none => .stuck
    else .stuck
  | .exc c x st1 => match fz st.length st1 x with
    | some x' => .exc c x' (st1.take st.length)
    | none => .stuck
  | _ => .stuck
def refD (st : Store) : D → Res D
  | .lst xs => if pureAll xs = true then .ok (.loc st.length) (st ++ [xs]) else .stuck
  | _ => .stuck

section
variable (cf : Nat → List D → Store → Res D) (gl : Nat → Option D)
mutual
noncomputable def den : Ex → DEnv → Store → Res D
  | .var i, r, st => match r[i]? with
    | some (some d) => .ok d st
    | _ => .stuck
  | .con d, _, st => .ok d st
  | .glo j, _, st => .of st (gl j)
  | .op o es, r, st => (dens es r st).bind fun ds st' => .of st' (opD st' o ds)
  | .nott a, r, st => (den a r st).bind fun x st' => .of st' ((truth st' x).map fun b => .bl (!b))
  | .and2 a b, r, st => (den a r st).bind fun x st' => match truth st' x with
    | some true => den b r st'
    | some false => .ok x st'
    | none => .stuck
  | .or2 a b, r, st => (den a r st).bind fun x st' => match truth st' x with
    | some true => .ok x st'
    | some false => den b r st'
    | none => .stuck
  | .ifx c a b, r, st => (den c r st).bind fun x st' => match truth st' x with
    | some true => den a r st'
    | some false => den b r st'
    | none => .stuck
  | .call f es ks, r, st => (dens es r st).bind fun ds s1 => (dens ks r s1).bind fun zs st' => after st (cf f (ds ++ zs) st')
  | .callr f es ks, r, st => (dens es r st).bind fun ds s1 => (dens ks r s1).bind fun zs st' => afterR st (cf f (ds ++ zs) st')
  | .comp k its ts c e, r, st => (dens its r st).bind fun ds st' => match itemsOf st' k ds with
    | some xs => (compL (walked k ds) (fun x s1 => match bindC ts x (wipeD r ts) with
      | some r' => (den c r' s1).bind fun b s2 => match truth s2 b with
        | some true => (den e r' s2).bind fun y s3 => .ok (some y) s3
        | some false => .ok none s2
        | none => .stuck
      | none => .stuck) xs st').bind fun ys st2 => if ys.length < sizeLine then .ok (.lst ys) st2 else .stuck
    | none => .stuck
  | .comp2 k its ts k1 its1 ts1 e, r, st => (dens its r st).bind fun ds st' => match itemsOf st' k ds with
    | some xs => (compLL (walked k ds) (fun x s1 => match bindC ts x (wipeD r (ts ++ ts1)) with
      | some r' => (dens its1 r' s1).bind fun ds1 s2 => match itemsOf s2 k1 ds1 with
        | some xs1 => compL (walked k1 ds1) (fun x1 s3 => match bindC ts1 x1 (wipeD r' ts1) with
          | some r2 => (den e r2 s3).bind fun y s4 => .ok (some y) s4
          | none => .stuck) xs1 s2
        | none => .stuck
      | none => .stuck) xs st').bind fun ys st2 => if ys.length < sizeLine then .ok (.lst ys) st2 else .stuck
    | none => .stuck
  | .ref e, r, st => (den e r st).bind fun d st' => refD st' d
  | .chn o1 o2 a b c, r, st => (den a r st).bind fun x s1 => (den b r s1).bind fun y s2 => match opD s2 o1 [x, y] with
    | some (.bl true) => (den c r s2).bind fun z s3 => match opD s3 o2 [y, z] with
      | some (.bl k) => .ok (.bl k) s3
      | _ => .stuck
    | some (.bl false) => .ok (.bl false) s2
    | _ => .stuck
  | .star a es, r, st => (den a r st).bind fun x s1 => match x with
    | .tup xs => (dens es r s1).bind fun ds s2 => if (xs ++ ds).length ≤ sizeLine then .ok (.tup (xs ++ ds)) s2 else .stuck
    | _ => .stuck
noncomputable def dens : List Ex → DEnv → Store → Res (List D)
  | [], _, st => .ok [] st
  | e :: es, r, st => (den e r st).bind fun d st' => (dens es r st').bind fun ds st2 => .ok (d :: ds) st2
end
/-- an expression as a test -/
noncomputable def denT (e : Ex) (r : DEnv) (st : Store) : Res Bool := (den cf gl e r st).bind fun x st' => .of st' (truth st' x)
end
end L3

set_option maxHeartbeats 2000000
namespace L3
open L2 PySem PySem.Spec PyProof.Rows

/-- where the exception classes stand, and the name of their one field -/
structure XI where
  cls : Nat → Addr
  fld : Nat → Option Str

/-- an exception of the class c with the field x, seen by a handler -/
def ExcAt (K : PySem.W.Frag) (xi : XI) (H : Hp) (io B : List Addr) (c : Nat) (x : D) (cls : Value) (dd : Option Addr) : Prop :=
  cls = .ref (xi.cls c) ∧ match xi.fld c with
    | some f => ∃ dx v, dd = some dx ∧ H dx = some (.xd [(f, v)]) ∧ dx ∉ io ∧ RV K H io B x v
    | none => True

section
variable (K : PySem.W.Frag) (xi : XI) (W : WX)

/-- what an outcome asks -/
def Post {α γ : Type} (Rep : α → γ → Hp → List Addr → Prop) (B : List Addr) (σ : SL) (H : Hp) (io : List Addr) : Res α → (γ → Hp → Prop) → Prop
  | .stuck, _ => False
  | .ok a st, Q => ∀ g H' io', Rep a g H' io' → StOk K H' io' B st → Stp io H io' H' → Q g H'
  | .exc c x st, _ => ∀ cls dd H' io', ExcAt K xi H' io' B c x cls dd → StOk K H' io' B st → Stp io H io' H' → W cls dd σ H'
def RepE (B : List Addr) : D → V → Hp → List Addr → Prop := fun d v H io => RV K H io B d v
def RepA (B : List Addr) : List D → List V → Hp → List Addr → Prop := fun d v H io => RVs K H io B d v
def RepT : Bool → Bool → Hp → List Addr → Prop := fun a b _ _ => a = b
def rdE (f : DEnv → Store → Res D) : TE := fun σ H Q => ∃ B io r st, StOk K H io B st ∧ EnvOk K H io B r σ ∧ Post K xi W (RepE K B) B σ H io (f r st) Q
def rdA (f : DEnv → Store → Res (List D)) : TA := fun σ H Q => ∃ B io r st, StOk K H io B st ∧ EnvOk K H io B r σ ∧ Post K xi W (RepA K B) B σ H io (f r st) Q
def rdT (f : DEnv → Store → Res Bool) : TT := fun σ H Q => ∃ B io r st, StOk K H io B st ∧ EnvOk K H io B r σ ∧ Post K xi W RepT B σ H io (f r st) Q
end

section
variable {K : PySem.W.Frag} {xi : XI} {W : WX} {α β γ δ : Type} {R1 : α → γ → Hp → List Addr → Prop} {R2 : β → δ → Hp → List Addr → Prop} {B io io1 : List Addr} {σ : SL} {H H1 : Hp} {st st1 : Store}

/-- from the middle: what is asked of what follows -/
theorem Post.from {f : Res β} {Q : δ → Hp → Prop} (ok : StOk K H1 io1 B st1) (s : Stp io H io1 H1) (h : Post K xi W R2 B σ H io f Q) : Post K xi W R2 B σ H1 io1 f Q := by
  cases f with
  | stuck => exact h
  | ok b st2 => exact fun g H' io' r k s' => h g H' io' r k (s.trans ok s')
  | exc c x st2 => exact fun cls dd H' io' e k s' => h cls dd H' io' e k (s.trans ok s')
theorem Post.split {f : Res α} {k : α → Store → Res β} {Q : δ → Hp → Prop} {Q1 : γ → Hp → Prop} (h : Post K xi W R2 B σ H io (f.bind k) Q)
    (hk : ∀ a st1 g H1 io1, f = .ok a st1 → R1 a g H1 io1 → StOk K H1 io1 B st1 → Stp io H io1 H1 → Post K xi W R2 B σ H1 io1 (k a st1) Q → Q1 g H1) : Post K xi W R1 B σ H io f Q1 := by
  cases f with
  | stuck => exact h
  | ok a st1 => exact fun g H1 io1 r ok s => hk a st1 g H1 io1 rfl r ok s (Post.from ok s h)
  | exc c x st1 => exact h
/-- .. what follows seen from an earlier state -/
theorem Post.splitF {H0 : Hp} {io0 : List Addr} {f : Res α} {k : α → Store → Res β} {Q : δ → Hp → Prop} {Q1 : γ → Hp → Prop} (ok : StOk K H io B st) (s0 : Stp io0 H0 io H) (h : Post K xi W R2 B σ H0 io0 (f.bind k) Q)
    (hk : ∀ a st1 g H1 io1, f = .ok a st1 → R1 a g H1 io1 → StOk K H1 io1 B st1 → Stp io H io1 H1 → Post K xi W R2 B σ H0 io0 (k a st1) Q → Q1 g H1) : Post K xi W R1 B σ H io f Q1 := by
  cases f with
  | stuck => exact h
  | ok a st1 => exact fun g H1 io1 r ok1 s => hk a st1 g H1 io1 rfl r ok1 s h
  | exc c x st1 => exact fun cls dd H' io' e k s' => h cls dd H' io' e k (s0.trans ok s')
theorem Post.at {a : α} {g : γ} {Q : γ → Hp → Prop} (h : Post K xi W R1 B σ H io (.ok a st) Q) (r : R1 a g H1 io1) (ok : StOk K H1 io1 B st) (s : Stp io H io1 H1) : Q g H1 := h g H1 io1 r ok s
theorem Post.here {a : α} {g : γ} {Q : γ → Hp → Prop} (h : Post K xi W R1 B σ H io (.ok a st) Q) (r : R1 a g H io) (ok : StOk K H io B st) : Q g H := h g H io r ok .refl
theorem Post.of {o : Option α} {Q : γ → Hp → Prop} (h : Post K xi W R1 B σ H io (Res.of st o) Q) : ∃ a, o = some a ∧ Post K xi W R1 B σ H io (.ok a st) Q := by
  cases o with
  | none => exact h.elim
  | some a => exact ⟨a, rfl, h⟩
end

theorem PE.imp {X : Cx} {e : Expr} {t t' : TE} (h : PE X e t) (i : ∀ σ H Q, t' σ H Q → t σ H Q) : PE X e t' := ⟨fun pins s σ H Q I q => h.run pins s σ H Q I (i σ H Q q)⟩
theorem PT.imp {X : Cx} {e : Expr} {t t' : TT} (h : PT X e t) (i : ∀ σ H Q, t' σ H Q → t σ H Q) : PT X e t' := ⟨fun pins s σ H Q I q => h.run pins s σ H Q I (i σ H Q q)⟩
theorem PA.imp {X : Cx} {e : List Expr} {t t' : TA} (h : PA X e t) (i : ∀ σ H Q, t' σ H Q → t σ H Q) : PA X e t' := ⟨fun pos pins s σ H Q I q => h.run pos pins s σ H Q I (i σ H Q q)⟩

/-! ### views -/
section
variable {K : PySem.W.Frag} {H : Hp} {io B : List Addr} {st : Store} {d : D} {v : V} {xs : List D}
theorem RVs.ints : ∀ {ds : List D} {vs : List V} {ns : List Int}, intsD ds = some ns → RVs K H io B ds vs → vs = ns.map V.int
  | [], _, _, e, h => by cases h; cases e; rfl
  | d :: ds, _, ns, e, h => by
    obtain ⟨v, r, rfl, h1, h2⟩ := h
    cases d with
    | int i =>
      cases q : intsD ds with
      | none => simp [intsD, q] at e
      | some ms =>
        simp [intsD, q] at e
        subst e
        cases h1
        rw [RVs.ints q h2]; rfl
    | _ => simp [intsD] at e
theorem RVs.bools : ∀ {ds : List D} {vs : List V} {ns : List Bool}, boolsD ds = some ns → RVs K H io B ds vs → vs = ns.map V.bl
  | [], _, _, e, h => by cases h; cases e; rfl
  | d :: ds, _, ns, e, h => by
    obtain ⟨v, r, rfl, h1, h2⟩ := h
    cases d with
    | bl i =>
      cases q : boolsD ds with
      | none => simp [boolsD, q] at e
      | some ms =>
        simp [boolsD, q] at e
        subst e
        cases h1
        rw [RVs.bools q h2]; rfl
    | _ => simp [boolsD] at e
theorem RVs.of_ints : ∀ (ns : List Int), RVs K H io B (ns.map .int) (ns.map V.int)
  | [] => rfl
  | n :: ns => ⟨_, _, rfl, rfl, RVs.of_ints ns⟩
theorem Tp.sq {a : Addr} {vs : List V} (t : Tp K H io B a vs) : SqT K H a vs := by
  rcases t with t | ⟨r, _⟩
  · exact .inr t
  · exact .inl r
theorem Lr.sq {a : Addr} {vs : List V} (t : Lr K H io B a vs) : SqL K H a vs := by
  rcases t with t | ⟨r, _⟩
  · exact .inr t
  · exact .inl r
theorem own_view (ok : StOk K H io B st) (h : RV K H io B d v) (e : isOwn st d = some xs) : ∃ a vs, v = .ref a ∧ H a = some (.lst vs) ∧ RVs K H io B xs vs := by
  cases d with
  | lst ys =>
    cases e
    obtain ⟨a, vs, rfl, ⟨t, _, _⟩, r⟩ := h
    exact ⟨a, vs, rfl, t, r⟩
  | loc n =>
    obtain ⟨a, rfl, q⟩ := h
    obtain ⟨c, vs, h1, h2, h3⟩ := ok.at (show st[n]? = some xs from e)
    rw [q] at h1; cases h1
    exact ⟨a, vs, rfl, h2, h3⟩
  | _ => cases e
theorem lst_view (ok : StOk K H io B st) (h : RV K H io B d v) (e : isLst st d = some xs) : ∃ a vs, v = .ref a ∧ SqL K H a vs ∧ RVs K H io B xs vs := by
  cases d with
  | lst ys =>
    obtain ⟨a, vs, rfl, t, r⟩ := own_view ok h (show isOwn st (.lst ys) = some xs from e)
    exact ⟨a, vs, rfl, .of t, r⟩
  | loc n =>
    obtain ⟨a, vs, rfl, t, r⟩ := own_view ok h (show isOwn st (.loc n) = some xs from e)
    exact ⟨a, vs, rfl, .of t, r⟩
  | scr ns =>
    cases e
    obtain ⟨a, rfl, t⟩ := h
    exact ⟨a, _, rfl, t.sq, RVs.of_ints ns⟩
  | _ => cases e
theorem seq_view (ok : StOk K H io B st) (h : RV K H io B d v) (e : isSeq st d = some xs) : ∃ a vs, v = .ref a ∧ (SqL K H a vs ∨ SqT K H a vs) ∧ RVs K H io B xs vs := by
  cases d with
  | lst ys =>
    obtain ⟨a, vs, rfl, t, r⟩ := lst_view ok h (show isLst st (.lst ys) = some xs from e)
    exact ⟨a, vs, rfl, .inl t, r⟩
  | loc n =>
    obtain ⟨a, vs, rfl, t, r⟩ := lst_view ok h (show isLst st (.loc n) = some xs from e)
    exact ⟨a, vs, rfl, .inl t, r⟩
  | scr ns =>
    obtain ⟨a, vs, rfl, t, r⟩ := lst_view ok h (show isLst st (.scr ns) = some xs from e)
    exact ⟨a, vs, rfl, .inl t, r⟩
  | tup ys =>
    cases e
    obtain ⟨a, vs, rfl, t, r⟩ := h
    exact ⟨a, vs, rfl, .inr t.sq, r⟩
  | _ => cases e
mutual
theorem RV.py : ∀ {d : D} {v : V} {p : PyData}, RV K H io B d v → d.py = some p → Dp K H v p
  | .non, _, _, h, e => by cases h; cases e; exact .non
  | .bl b, _, _, h, e => by cases h; cases e; exact .bl b
  | .int i, _, _, h, e => by cases h; cases e; exact .int i
  | .str s, _, _, h, e => by cases h; cases e; exact .str s
  | .tup xs, _, _, h, e => by
    obtain ⟨a, vs, rfl, t, r⟩ := h
    cases q : pys xs with
    | none => simp [D.py, q] at e
    | some ps =>
      simp [D.py, q] at e; subst e
      exact .tup t.sq (RVs.py r q)
  | .lst xs, _, _, h, e => by
    obtain ⟨a, vs, rfl, t, r⟩ := h
    cases q : pys xs with
    | none => simp [D.py, q] at e
    | some ps =>
      simp [D.py, q] at e; subst e
      exact .lst (.of t.1) (RVs.py r q)
  | .loc _, _, _, _, e => by simp [D.py] at e
  | .scr _, _, _, _, e => by simp [D.py] at e
theorem RVs.py : ∀ {ds : List D} {vs : List V} {ps : List PyData}, RVs K H io B ds vs → pys ds = some ps → DpAll K H vs ps
  | [], _, _, h, e => by cases h; cases e; exact .nil
  | d :: ds, _, _, h, e => by
    obtain ⟨v, r, rfl, h1, h2⟩ := h
    cases q1 : d.py with
    | none => simp [pys, q1] at e
    | some p =>
      cases q2 : pys ds with
      | none => simp [pys, q1, q2] at e
      | some ps =>
        simp [pys, q1, q2] at e; subst e
        exact .cons (RV.py h1 q1) (RVs.py h2 q2)
end
theorem py_view {p : PyData} (ok : StOk K H io B st) (h : RV K H io B d v) (e : pyOf st d = some p) : Dp K H v p := by
  cases d with
  | loc n =>
    cases q : st[n]? with
    | none => simp [pyOf, q] at e
    | some xs =>
      cases q2 : pys xs with
      | none => simp [pyOf, q, q2] at e
      | some ps =>
        simp [pyOf, q, q2] at e; subst e
        obtain ⟨a, rfl, z⟩ := h
        obtain ⟨c, vs, h1, h2, h3⟩ := ok.at q
        rw [z] at h1; cases h1
        exact .lst (.of h2) (RVs.py h3 q2)
  | _ => exact RV.py h e
theorem truth_view {k : Bool} (ok : StOk K H io B st) (h : RV K H io B d v) (e : truth st d = some k) : TruV K v H k := by
  have emp : ∀ {ys : List D} {vs : List V}, RVs K H io B ys vs → (!ys.isEmpty) = !vs.isEmpty := fun {ys vs} r => by
    cases ys with
    | nil => cases r; rfl
    | cons y ys => obtain ⟨_, _, rfl, _⟩ := r; rfl
  cases d with
  | non => cases h; cases e; rfl
  | bl b => cases h; cases e; rfl
  | int i => cases h; cases e; rfl
  | str s => cases e
  | tup xs =>
    obtain ⟨a, vs, rfl, t, r⟩ := h
    cases e
    exact .inr (.inl ⟨vs, t.sq, emp r⟩)
  | lst xs =>
    obtain ⟨a, vs, rfl, t, r⟩ := h
    cases e
    exact .inl ⟨vs, .of t.1, emp r⟩
  | loc n =>
    cases q : st[n]? with
    | none => simp [truth, q] at e
    | some xs =>
      simp only [truth, q] at e; cases e
      obtain ⟨a, vs, rfl, t, r⟩ := lst_view ok h (show isLst st (.loc n) = some xs from q)
      exact .inl ⟨vs, t, emp r⟩
  | scr ns =>
    obtain ⟨a, rfl, t⟩ := h
    cases e
    exact .inl ⟨_, t.sq, by cases ns <;> rfl⟩
theorem RVs.cut {ds : List D} {vs : List V} (lo hi : Option Int) (h : RVs K H io B ds vs) : RVs K H io B (cutD ds lo hi) (cutV vs lo hi) := by
  have e := h.length
  unfold cutD cutV
  rw [e]
  exact RVs.take _ (RVs.drop _ h)
theorem RVs.atI {ds : List D} {vs : List V} {i : Int} {x : D} (h : RVs K H io B ds vs) (e : L2.atI ds i = some x) : ∃ v, L2.atI vs i = some v ∧ RV K H io B x v := by
  unfold L2.atI at e ⊢
  rw [h.length]
  cases q : ixN ds.length i with
  | none => rw [q] at e; cases e
  | some j =>
    rw [q] at e
    obtain ⟨v, h1, h2⟩ := RVs.get h (show ds[j]? = some x from e)
    exact ⟨v, h1, h2⟩
/-- a new tuple, a new list -/
theorem RV.newTup {p : Addr} {ds : List D} {vs : List V} (ok : StOk K H io B st) (hp : H p = none) (r : RVs K H io B ds vs) : RV K (upd H p (.tup vs)) io B (.tup ds) (.ref p) := by
  refine ⟨p, vs, rfl, .inr ⟨.of upd_same, fun z => ?_, fun z => ok.bt p z hp⟩, RVs.mono (Stp.new_tup hp) _ _ r⟩
  obtain ⟨ws, h⟩ := ok.sets z
  rw [hp] at h; cases h
theorem RV.newLst {p : Addr} {ds : List D} {vs : List V} (ok : StOk K H io B st) (hp : H p = none) (r : RVs K H io B ds vs) : RV K (upd H p (.lst vs)) io B (.lst ds) (.ref p) := by
  refine ⟨p, vs, rfl, ⟨upd_same, fun z => ?_, fun z => ok.bt p z hp⟩, RVs.mono (Stp.new_tup hp) _ _ r⟩
  obtain ⟨ws, h⟩ := ok.sets z
  rw [hp] at h; cases h
end
end L3

set_option maxHeartbeats 2000000
namespace L3
open L2 PySem PySem.Spec PyProof.Rows

/-! ### operations by values -/
section
variable (K : PySem.W.Frag)
/-- what follows an operation that leaves the store as it is -/
def Fin (H : Hp) (io B : List Addr) (st : Store) (d : D) (Q : VK) : Prop := ∀ v H', RV K H' io B d v → StOk K H' io B st → Stp io H io H' → Q v H'
def OkR2 (r : R2) (o : Op) : Prop := ∀ {B io : List Addr} {H : Hp} {st : Store} {a b d : D} {x y : V} {Q : VK}, StOk K H io B st → RV K H io B a x → RV K H io B b y → opD st o [a, b] = some d → Fin K H io B st d Q → r x y H Q
def OkU (r : V → Hp → VK → Prop) (o : Op) : Prop := ∀ {B io : List Addr} {H : Hp} {st : Store} {a d : D} {x : V} {Q : VK}, StOk K H io B st → RV K H io B a x → opD st o [a] = some d → Fin K H io B st d Q → r x H Q
def OkA (r : List V → Hp → VK → Prop) (o : Op) : Prop := ∀ {B io : List Addr} {H : Hp} {st : Store} {ds : List D} {d : D} {vs : List V} {Q : VK}, StOk K H io B st → RVs K H io B ds vs → opD st o ds = some d → Fin K H io B st d Q → r vs H Q
end
section
variable {K : PySem.W.Frag} {H : Hp} {io B : List Addr} {st : Store} {d : D} {v : V} {xs : List D} {Q : VK}
theorem Fin.int {i : Int} (ok : StOk K H io B st) (f : Fin K H io B st (.int i) Q) : Q (.int i) H := f _ _ rfl ok .refl
theorem Fin.bl {i : Bool} (ok : StOk K H io B st) (f : Fin K H io B st (.bl i) Q) : Q (.bl i) H := f _ _ rfl ok .refl
theorem Fin.tup {p : Addr} {ds : List D} {vs : List V} (ok : StOk K H io B st) (r : RVs K H io B ds vs) (f : Fin K H io B st (.tup ds) Q) (hp : H p = none) : Q (.ref p) (upd H p (.tup vs)) :=
  f _ _ (RV.newTup ok hp r) (ok.new hp) (Stp.new_tup hp)
theorem Fin.lst {p : Addr} {ds : List D} {vs : List V} (ok : StOk K H io B st) (r : RVs K H io B ds vs) (f : Fin K H io B st (.lst ds) Q) (hp : H p = none) : Q (.ref p) (upd H p (.lst vs)) :=
  f _ _ (RV.newLst ok hp r) (ok.new hp) (Stp.new_tup hp)
theorem RVs.two {a b : D} {vs : List V} (r : RVs K H io B [a, b] vs) : ∃ x y, vs = [x, y] ∧ RV K H io B a x ∧ RV K H io B b y := by
  obtain ⟨x, _, rfl, h1, y, _, rfl, h2, rfl⟩ := r
  exact ⟨x, y, rfl, h1, h2⟩
theorem RVs.one {a : D} {vs : List V} (r : RVs K H io B [a] vs) : ∃ x, vs = [x] ∧ RV K H io B a x := by
  obtain ⟨x, _, rfl, h1, rfl⟩ := r
  exact ⟨x, rfl, h1⟩
theorem RVs.zero {vs : List V} (r : RVs K H io B [] vs) : vs = [] := r
end

section
variable {K : PySem.W.Frag} {xi : XI} {W : WX}
variable {cf : Nat → List D → Store → Res D} {gl : Nat → Option D} {X : Cx} {a b : Expr} {ia ib : Ex} {pos : Pos}

theorem dens_two (r : DEnv) (st : Store) {β : Type} (k : List D → Store → Res β) : (dens cf gl [ia, ib] r st).bind k = (den cf gl ia r st).bind fun x s1 => (den cf gl ib r s1).bind fun y s2 => k [x, y] s2 := by
  simp only [dens]
  cases den cf gl ia r st with
  | ok x s1 =>
    simp only [Res.bind]
    cases den cf gl ib r s1 <;> rfl
  | _ => rfl
theorem dens_one (r : DEnv) (st : Store) {β : Type} (k : List D → Store → Res β) : (dens cf gl [ia] r st).bind k = (den cf gl ia r st).bind fun x s1 => k [x] s1 := by
  simp only [dens]
  cases den cf gl ia r st <;> rfl

/-- the step behind all operations -/
theorem Post.op {B io : List Addr} {σ : SL} {H : Hp} {o : Op} {ds : List D} {st : Store} {Q : VK} (ok : StOk K H io B st) (h : Post K xi W (RepE K B) B σ H io (Res.of st (opD st o ds)) Q) :
    ∃ d, opD st o ds = some d ∧ Fin K H io B st d Q := by
  obtain ⟨d, e, h⟩ := Post.of h
  exact ⟨d, e, fun v H' r k s => h.at (g := v) r k s⟩
theorem run2 {r2 : R2} {o : Op} (ho : OkR2 K r2 o) (σ : SL) (H : Hp) (Q : VK) (h : rdE K xi W (den cf gl (.op o [ia, ib])) σ H Q) : tOp r2 (rdE K xi W (den cf gl ia)) (rdE K xi W (den cf gl ib)) σ H Q := by
  obtain ⟨B, io, r, st, ok, env, h⟩ := h
  simp only [den] at h
  rw [dens_two] at h
  refine ⟨B, io, r, st, ok, env, Post.split h fun x s1 v1 H1 io1 _ r1 ok1 st1 h1 => ?_⟩
  refine ⟨B, io1, r, s1, ok1, env.mono st1, Post.split h1 fun y s2 v2 H2 io2 _ r2' ok2 st2 h2 => ?_⟩
  obtain ⟨d, e, f⟩ := Post.op ok2 h2
  exact ho ok2 (RV.mono st2 _ _ r1) r2' e f
theorem run1 {r1 : V → Hp → VK → Prop} {o : Op} (ho : OkU K r1 o) (σ : SL) (H : Hp) (Q : VK) (h : rdE K xi W (den cf gl (.op o [ia])) σ H Q) : tUn r1 (rdE K xi W (den cf gl ia)) σ H Q := by
  obtain ⟨B, io, r, st, ok, env, h⟩ := h
  simp only [den] at h
  rw [dens_one] at h
  refine ⟨B, io, r, st, ok, env, Post.split h fun x s1 v1 H1 io1 _ rv1 ok1 st1 h1 => ?_⟩
  obtain ⟨d, e, f⟩ := Post.op ok1 h1
  exact ho ok1 rv1 e f
theorem runA {rA : List V → Hp → VK → Prop} {o : Op} {es : List Ex} (ho : OkA K rA o) (σ : SL) (H : Hp) (Q : VK) (h : rdE K xi W (den cf gl (.op o es)) σ H Q) : tCB rA (rdA K xi W (dens cf gl es)) σ H Q := by
  obtain ⟨B, io, r, st, ok, env, h⟩ := h
  simp only [den] at h
  refine ⟨B, io, r, st, ok, env, Post.split h fun ds s1 vs H1 io1 _ rv1 ok1 st1 h1 => ?_⟩
  obtain ⟨d, e, f⟩ := Post.op ok1 h1
  exact ho ok1 rv1 e f
end

/-! ### which operation gives what -/
section
variable {K : PySem.W.Frag}
theorem cmulW {i j : Int} (h1 : Bd 4000 i) (h2 : Bd 4000 j) : CMulW i j := wide_mul h1 h2 (by decide) (by decide) (by decide)
def rAdd (K : PySem.W.Frag) : R2 := fun x y H Q => (rI0 (fun i j => .int (i + j)) x y H Q ∨ rCat x y H Q) ∨ rCatA K x y H Q
theorem op_addA {X : Cx} : OpR X (binaryOp .Add) (rAdd X.K) := OpR.or (OpR.or op_add op_cat) op_catA
theorem ok_add : OkR2 K (rAdd K) .add := by
  intro B io H st a b d x y Q ok ra rb e f
  have lists : ∀ {xs ys : List D}, isOwn st a = some xs → isOwn st b = some ys → (if xs.length + ys.length ≤ sizeLine then some (D.lst (xs ++ ys)) else none) = some d → rAdd K x y H Q := fun {xs ys} ea eb e => by
    split at e
    · rename_i hl
      cases e
      obtain ⟨p, vs, rfl, hp, r1⟩ := own_view ok ra ea
      obtain ⟨q, ws, rfl, hq, r2⟩ := own_view ok rb eb
      exact .inl (.inr ⟨p, q, vs, ws, rfl, rfl, hp, hq, by rw [r1.length, r2.length]; exact hl, fun n hn => Fin.lst ok (r1.append r2) f hn⟩)
    · cases e
  cases a with
  | int i =>
    cases b with
    | int j =>
      cases ra; cases rb; cases e
      exact .inl (.inl ⟨i, j, rfl, rfl, Fin.int ok f⟩)
    | _ => simp [opD, isOwn] at e
  | tup xs =>
    cases b with
    | tup ys =>
      simp only [opD] at e
      split at e
      · rename_i hl
        cases e
        obtain ⟨p, vs, rfl, hp, r1⟩ := id ra
        obtain ⟨q, ws, rfl, hq, r2⟩ := id rb
        refine .inr ⟨p, q, vs, ws, rfl, rfl, hp.sq, hq.sq, by rw [r1.length, r2.length]; exact hl, fun h => ?_, fun _ h => ?_, fun _ _ p hp => Fin.tup ok (r1.append r2) f hp⟩
        · subst h
          have : xs = [] := List.length_eq_zero_iff.mp (by rw [← r1.length]; rfl)
          subst this
          exact f _ _ rb ok .refl
        · subst h
          have : ys = [] := List.length_eq_zero_iff.mp (by rw [← r2.length]; rfl)
          subst this
          rw [List.append_nil] at f
          exact f _ _ ra ok .refl
      · cases e
    | _ => simp [opD, isOwn] at e
  | lst xs =>
    simp only [opD] at e
    split at e
    · rename_i u w h1 h2
      exact lists h1 h2 e
    · cases e
  | loc n =>
    simp only [opD] at e
    split at e
    · rename_i u w h1 h2
      exact lists h1 h2 e
    · cases e
  | _ => simp [opD, isOwn] at e
theorem RVs.rep {H : Hp} {io B : List Addr} {xs : List D} {vs : List V} (h : RVs K H io B xs vs) : ∀ k : Nat, RVs K H io B (List.replicate k xs).flatten (List.replicate k vs).flatten
  | 0 => rfl
  | k + 1 => by
    rw [List.replicate_succ, List.replicate_succ, List.flatten_cons, List.flatten_cons]
    exact h.append (RVs.rep h k)
def rMul : R2 := fun x y H Q => rI CMulW (fun i j => .int (i * j)) x y H Q ∨ rRep x y H Q
theorem op_mulA {X : Cx} : OpR X (binaryOp .Mult) rMul := OpR.or op_mulW op_rep
theorem ok_mul : OkR2 K rMul .mul := by
  intro B io H st a b d x y Q ok ra rb e f
  cases b with
  | int k =>
    cases a with
    | int i =>
      cases ra; cases rb
      simp only [opD] at e
      split at e
      · rename_i h
        cases e
        exact .inl ⟨i, k, rfl, rfl, cmulW h.1 h.2, Fin.int ok f⟩
      · cases e
    | _ =>
      simp only [opD] at e
      split at e
      · rename_i xs h1
        split at e
        · rename_i hh
          cases e
          obtain ⟨p, vs, rfl, hp, r1⟩ := own_view ok ra h1
          cases rb
          exact .inr ⟨p, k, vs, rfl, rfl, hp, by omega, by omega, by rw [r1.length]; exact hh.2, fun q hq => Fin.lst ok (r1.rep _) f hq⟩
        · cases e
      · cases e
  | _ => cases a <;> simp [opD] at e
theorem cdivW {i j : Int} (h1 : 0 < j) (h2 : Bd 4000 j) : CDivW i j := wide_div h1 h2 (by decide) (by decide)
theorem ok_fdiv : OkR2 K (rI CDivW fun i j => .int (i / j)) .fdiv := by
  intro B io H st a b d x y Q ok ra rb e f
  cases a <;> try (simp [opD] at e; done)
  rename_i i
  cases b <;> try (simp [opD] at e; done)
  rename_i j
  cases ra; cases rb
  simp only [opD] at e
  split at e
  · rename_i h
    cases e
    exact ⟨i, j, rfl, rfl, cdivW h.1 h.2, Fin.int ok f⟩
  · cases e
theorem ok_mod : OkR2 K (rI (fun _ j => 0 < j) fun i j => .int (i % j)) .md := by
  intro B io H st a b d x y Q ok ra rb e f
  cases a <;> try (simp [opD] at e; done)
  rename_i i
  cases b <;> try (simp [opD] at e; done)
  rename_i j
  cases ra; cases rb
  simp only [opD] at e
  split at e
  · rename_i h
    cases e
    exact ⟨i, j, rfl, rfl, h, Fin.int ok f⟩
  · cases e
theorem ok_pow : OkR2 K (rI CPow fun i j => .int (i ^ j.toNat)) .pow := by
  intro B io H st a b d x y Q ok ra rb e f
  cases a <;> try (simp [opD] at e; done)
  rename_i i
  cases b <;> try (simp [opD] at e; done)
  rename_i j
  cases ra; cases rb
  simp only [opD] at e
  split at e
  · rename_i h
    cases e
    exact ⟨i, j, rfl, rfl, h, Fin.int ok f⟩
  · cases e
theorem ok_shl : OkR2 K (rI CPow fun i j => .int (i * 2 ^ j.toNat)) .shl := by
  intro B io H st a b d x y Q ok ra rb e f
  cases a <;> try (simp [opD] at e; done)
  rename_i i
  cases b <;> try (simp [opD] at e; done)
  rename_i j
  cases ra; cases rb
  simp only [opD] at e
  split at e
  · rename_i h
    cases e
    exact ⟨i, j, rfl, rfl, h, Fin.int ok f⟩
  · cases e
theorem ok_cmp {o : Op} {g : Int → Int → Bool} (h0 : ∀ st i j, opD st o [.int i, .int j] = some (.bl (g i j))) (h1 : ∀ st a b d, opD st o [a, b] = some d → ∃ i j, a = .int i ∧ b = .int j) : OkR2 K (rI0 fun i j => .bl (g i j)) o := by
  intro B io H st a b d x y Q ok ra rb e f
  obtain ⟨i, j, rfl, rfl⟩ := h1 st a b d e
  cases ra; cases rb
  rw [h0] at e; cases e
  exact ⟨i, j, rfl, rfl, Fin.bl ok f⟩
theorem ok_lt : OkR2 K (rI0 fun i j => .bl (decide (i < j))) .lt := ok_cmp (fun _ _ _ => rfl) fun st a b d e => by cases a <;> cases b <;> simp [opD] at e ⊢
theorem ok_le : OkR2 K (rI0 fun i j => .bl (decide (i ≤ j))) .le := ok_cmp (fun _ _ _ => rfl) fun st a b d e => by cases a <;> cases b <;> simp [opD] at e ⊢
theorem ok_gt : OkR2 K (rI0 fun i j => .bl (decide (j < i))) .gt := ok_cmp (fun _ _ _ => rfl) fun st a b d e => by cases a <;> cases b <;> simp [opD] at e ⊢
theorem ok_ge : OkR2 K (rI0 fun i j => .bl (decide (j ≤ i))) .ge := ok_cmp (fun _ _ _ => rfl) fun st a b d e => by cases a <;> cases b <;> simp [opD] at e ⊢
def rEqS (K : PySem.W.Frag) : R2 := fun x y H Q => rEq x y H Q ∨ rEqD K x y H Q
def rNeS (K : PySem.W.Frag) : R2 := fun x y H Q => rNe x y H Q ∨ rNeD K x y H Q
theorem op_eqS {X : Cx} (hu : X.A.units + 64 < cLine) : OpR X (compareOp .Eq) (rEqS X.K) := fun pins s σ H x y v u Q I rx ry h => h.elim (fun h => op_eq pins s σ H x y v u Q I rx ry h) fun h => op_eqD hu pins s σ H x y v u Q I rx ry h
theorem op_neS {X : Cx} (hu : X.A.units + 64 < cLine) : OpR X (compareOp .NotEq) (rNeS X.K) := fun pins s σ H x y v u Q I rx ry h => h.elim (fun h => op_ne pins s σ H x y v u Q I rx ry h) fun h => op_neD hu pins s σ H x y v u Q I rx ry h
theorem strD_eq {a : D} {s : Str} (h : strD a = some s) : a = .str s := by
  cases a <;> first | (cases h; rfl) | cases h
theorem dec_strV {s t : Str} : decide (V.str s = V.str t) = decide (s = t) := by
  by_cases h : s = t
  · subst h; simp
  · simp [h]
theorem eqD_cases {st : Store} {a b : D} {c : Bool} (h : eqD st a b = some c) : (∃ s t, a = .str s ∧ b = .str t ∧ c = decide (s = t)) ∨ eqP st a b = some c := by
  unfold eqD at h
  split at h
  · rename_i s t h1 h2
    exact .inl ⟨s, t, strD_eq h1, strD_eq h2, by cases h; rfl⟩
  · exact .inr h
theorem ok_eq : OkR2 K (rEqS K) .eq := by
  intro B io H st a b d x y Q ok ra rb e f
  simp only [opD] at e
  cases q0 : eqD st a b with
  | none => rw [q0] at e; cases e
  | some c =>
    rw [q0] at e
    cases e
    rcases eqD_cases q0 with ⟨s, t, rfl, rfl, rfl⟩ | q0
    · cases ra; cases rb
      refine .inl ⟨rfl, ?_⟩
      rw [dec_strV]
      exact Fin.bl ok f
    refine .inr ?_
    simp only [eqP] at q0
    cases q1 : pyOf st a with
    | none => simp [q1] at q0
    | some p =>
      cases q2 : pyOf st b with
      | none => simp [q1, q2] at q0
      | some q =>
        simp only [q1, q2] at q0
        split at q0
        · rename_i hs
          cases q0
          exact ⟨p, q, py_view ok ra q1, py_view ok rb q2, hs.1, hs.2, Fin.bl ok f⟩
        · cases q0
theorem ok_ne : OkR2 K (rNeS K) .ne := by
  intro B io H st a b d x y Q ok ra rb e f
  simp only [opD] at e
  cases q0 : eqD st a b with
  | none => rw [q0] at e; cases e
  | some c =>
    rw [q0] at e
    cases e
    rcases eqD_cases q0 with ⟨s, t, rfl, rfl, rfl⟩ | q0
    · cases ra; cases rb
      refine .inl ⟨rfl, ?_⟩
      rw [dec_strV]
      exact Fin.bl ok f
    refine .inr ?_
    simp only [eqP] at q0
    cases q1 : pyOf st a with
    | none => simp [q1] at q0
    | some p =>
      cases q2 : pyOf st b with
      | none => simp [q1, q2] at q0
      | some q =>
        simp only [q1, q2] at q0
        split at q0
        · rename_i hs
          cases q0
          exact ⟨p, q, py_view ok ra q1, py_view ok rb q2, hs.1, hs.2, Fin.bl ok f⟩
        · cases q0
theorem ok_neg : OkU K (rU fun i => .int (-i)) .neg := by
  intro B io H st a d x Q ok ra e f
  cases a <;> try (simp [opD] at e; done)
  rename_i i
  cases ra; cases e
  exact ⟨i, rfl, Fin.int ok f⟩
/-- o[i] -/
def rIdx (K : PySem.W.Frag) : R2 := fun x y H Q => rIxL K x y H Q ∨ rIxT K x y H Q
theorem ix_idx {X : Cx} : IxR X (rIdx X.K) := ix_list.or ix_tup
theorem ok_idx : OkR2 K (rIdx K) .idx := by
  intro B io H st a b d x y Q ok ra rb e f
  cases b <;> try (simp [opD] at e; done)
  rename_i i
  cases rb
  simp only [opD] at e
  cases q : isSeq st a with
  | none => simp [q] at e
  | some xs =>
    simp only [q] at e
    obtain ⟨p, vs, rfl, hs, r⟩ := seq_view ok ra q
    obtain ⟨v, h1, h2⟩ := RVs.atI r e
    rcases hs with hs | hs
    · exact .inl ⟨p, vs, i, v, rfl, rfl, hs, h1, f _ _ h2 ok .refl⟩
    · exact .inr ⟨p, vs, i, v, rfl, rfl, hs, h1, f _ _ h2 ok .refl⟩
/-- built-in calls -/
def rLen (K : PySem.W.Frag) : List V → Hp → VK → Prop := fun xs H Q => ∃ p ys, xs = [.ref p] ∧ (SqL K H p ys ∨ SqT K H p ys) ∧ Q (.int ys.length) H
theorem ok_len : OkA K (rLen K) .len := by
  intro B io H st ds d vs Q ok r e f
  match ds, e with
  | [a], e =>
    obtain ⟨x, rfl, ra⟩ := r.one
    cases q : isSeq st a with
    | none => simp [opD, q] at e
    | some xs =>
      simp only [opD, q] at e; cases e
      obtain ⟨p, vs, rfl, hs, rr⟩ := seq_view ok ra q
      refine ⟨p, vs, rfl, hs, ?_⟩
      rw [rr.length]
      exact Fin.int ok f
def rAbs : List V → Hp → VK → Prop := fun xs H Q => ∃ i, xs = [.int i] ∧ Q (.int (if i < 0 then -i else i)) H
theorem ok_abs : OkA K rAbs .abs := by
  intro B io H st ds d vs Q ok r e f
  match ds, e with
  | [.int i], e =>
    obtain ⟨x, rfl, ra⟩ := r.one
    cases ra; cases e
    exact ⟨i, rfl, Fin.int ok f⟩
def rInt1 : List V → Hp → VK → Prop := fun xs H Q => (∃ i, xs = [.int i] ∧ Q (.int i) H) ∨ ∃ k, xs = [.bl k] ∧ Q (.int (if k then 1 else 0)) H
theorem ok_int : OkA K rInt1 .int := by
  intro B io H st ds d vs Q ok r e f
  match ds, e with
  | [.int i], e =>
    obtain ⟨x, rfl, ra⟩ := r.one
    cases ra; cases e
    exact .inl ⟨i, rfl, Fin.int ok f⟩
  | [.bl i], e =>
    obtain ⟨x, rfl, ra⟩ := r.one
    cases ra; cases e
    exact .inr ⟨i, rfl, Fin.int ok f⟩
def rStr1 : List V → Hp → VK → Prop := fun xs H Q => ∃ i, xs = [.int i] ∧ i.natAbs.log2 < 1920 ∧ Q (.str (toString i)) H
theorem log2_bd {i : Int} (h : Bd 1900 i) : i.natAbs.log2 < 1920 := Nat.lt_of_lt_of_le (PySem.Flt.log2_lt_of (by decide) h) (by decide)
theorem ok_str : OkA K rStr1 .str := by
  intro B io H st ds d vs Q ok r e f
  match ds, e with
  | [.int i], e =>
    obtain ⟨x, rfl, ra⟩ := r.one
    cases ra
    simp only [opD] at e
    split at e
    · rename_i hb
      cases e
      exact ⟨i, rfl, log2_bd hb, f _ _ rfl ok .refl⟩
    · cases e
def rMax2 : List V → Hp → VK → Prop := fun xs H Q => ∃ i j, xs = [.int i, .int j] ∧ Q (.int (if j > i then j else i)) H
def rMin2 : List V → Hp → VK → Prop := fun xs H Q => ∃ i j, xs = [.int i, .int j] ∧ Q (.int (if j < i then j else i)) H
theorem ok_max2 : OkA K rMax2 .max2 := by
  intro B io H st ds d vs Q ok r e f
  match ds, e with
  | [.int i, .int j], e =>
    obtain ⟨x, y, rfl, ra, rb⟩ := r.two
    cases ra; cases rb; cases e
    exact ⟨i, j, rfl, Fin.int ok f⟩
theorem ok_min2 : OkA K rMin2 .min2 := by
  intro B io H st ds d vs Q ok r e f
  match ds, e with
  | [.int i, .int j], e =>
    obtain ⟨x, y, rfl, ra, rb⟩ := r.two
    cases ra; cases rb; cases e
    exact ⟨i, j, rfl, Fin.int ok f⟩
theorem ok_sum : OkA K (rSum K) .sum := by
  intro B io H st ds d vs Q ok r e f
  match ds, e with
  | [a], e =>
    obtain ⟨x, rfl, ra⟩ := r.one
    cases q : isLst st a with
    | none => simp [opD, q] at e
    | some xs =>
      simp only [opD, q] at e
      cases q2 : intsD xs with
      | none => simp [q2] at e
      | some ns =>
        simp [q2] at e; subst e
        obtain ⟨p, vs, rfl, hs, rr⟩ := lst_view ok ra q
        have ev := RVs.ints q2 rr
        subst ev
        exact ⟨p, ns, rfl, hs, Fin.int ok f⟩
theorem ok_all : OkA K (rAll K) .all := by
  intro B io H st ds d vs Q ok r e f
  match ds, e with
  | [a], e =>
    obtain ⟨x, rfl, ra⟩ := r.one
    cases q : isLst st a with
    | none => simp [opD, q] at e
    | some xs =>
      simp only [opD, q] at e
      cases q2 : boolsD xs with
      | none => simp [q2] at e
      | some ns =>
        simp only [q2, Option.map_some, Option.some.injEq] at e; subst e
        obtain ⟨p, vs, rfl, hs, rr⟩ := lst_view ok ra q
        have ev := RVs.bools q2 rr
        subst ev
        exact ⟨p, ns, rfl, hs, Fin.bl ok f⟩
theorem ok_any : OkA K (rAny K) .any := by
  intro B io H st ds d vs Q ok r e f
  match ds, e with
  | [a], e =>
    obtain ⟨x, rfl, ra⟩ := r.one
    cases q : isLst st a with
    | none => simp [opD, q] at e
    | some xs =>
      simp only [opD, q] at e
      cases q2 : boolsD xs with
      | none => simp [q2] at e
      | some ns =>
        simp only [q2, Option.map_some, Option.some.injEq] at e; subst e
        obtain ⟨p, vs, rfl, hs, rr⟩ := lst_view ok ra q
        have ev := RVs.bools q2 rr
        subst ev
        exact ⟨p, ns, rfl, hs, Fin.bl ok f⟩
def rTuple (K : PySem.W.Frag) : List V → Hp → VK → Prop := fun xs H Q => ∃ p ys, xs = [.ref p] ∧ ((SqL K H p ys ∧ ∀ l, H l = none → Q (.ref l) (upd H l (.tup ys))) ∨ (SqT K H p ys ∧ Q (.ref p) H))
theorem ok_tuple : OkA K (rTuple K) .tuple := by
  intro B io H st ds d vs Q ok r e f
  match ds, e with
  | [a], e =>
    obtain ⟨x, rfl, ra⟩ := r.one
    cases q : isSeq st a with
    | none => simp [opD, q] at e
    | some xs =>
      simp only [opD, q] at e; cases e
      cases a with
      | tup ys =>
        cases q
        obtain ⟨p, vs, rfl, hs, rr⟩ := id ra
        exact ⟨p, vs, rfl, .inr ⟨hs.sq, f _ _ ra ok .refl⟩⟩
      | lst ys =>
        obtain ⟨p, vs, rfl, hs, rr⟩ := lst_view ok ra (show isLst st (.lst ys) = some xs from q)
        exact ⟨p, vs, rfl, .inl ⟨hs, fun l hl => Fin.tup ok rr f hl⟩⟩
      | loc n =>
        obtain ⟨p, vs, rfl, hs, rr⟩ := lst_view ok ra (show isLst st (.loc n) = some xs from q)
        exact ⟨p, vs, rfl, .inl ⟨hs, fun l hl => Fin.tup ok rr f hl⟩⟩
      | scr ns =>
        obtain ⟨p, vs, rfl, hs, rr⟩ := lst_view ok ra (show isLst st (.scr ns) = some xs from q)
        exact ⟨p, vs, rfl, .inl ⟨hs, fun l hl => Fin.tup ok rr f hl⟩⟩
      | _ => cases q
def rList (K : PySem.W.Frag) : List V → Hp → VK → Prop := fun xs H Q => ∃ p ys, xs = [.ref p] ∧ (SqL K H p ys ∨ SqT K H p ys) ∧ ∀ l, H l = none → Q (.ref l) (upd H l (.lst ys))
theorem ok_list : OkA K (rList K) .list := by
  intro B io H st ds d vs Q ok r e f
  match ds, e with
  | [a], e =>
    obtain ⟨x, rfl, ra⟩ := r.one
    cases q : isSeq st a with
    | none => simp [opD, q] at e
    | some xs =>
      simp only [opD, q] at e; cases e
      obtain ⟨p, vs, rfl, hs, rr⟩ := seq_view ok ra q
      exact ⟨p, vs, rfl, hs, fun l hl => Fin.lst ok rr f hl⟩
def rDivmod : List V → Hp → VK → Prop := fun xs H Q => ∃ i j, xs = [.int i, .int j] ∧ CDiv i j ∧ ∀ p, H p = none → Q (.ref p) (upd H p (.tup [.int (i / j), .int (i % j)]))
theorem ok_divmod : OkA K rDivmod .divmod := by
  intro B io H st ds d vs Q ok r e f
  match ds, e with
  | [.int i, .int j], e =>
    obtain ⟨x, y, rfl, ra, rb⟩ := r.two
    cases ra; cases rb
    simp only [opD] at e
    split at e
    · rename_i h
      cases e
      exact ⟨i, j, rfl, h, fun p hp => Fin.tup ok (show RVs K H io B [.int (i / j), .int (i % j)] [.int (i / j), .int (i % j)] from ⟨_, _, rfl, rfl, _, _, rfl, rfl, rfl⟩) f hp⟩
    · cases e
theorem flat_view {x : V} (h : RV K H io B d x) {u : V} (e : flatD d = some u) : x = u ∧ flatV u = true := by
  cases d <;> first | (cases e; done) | (cases e; cases h; exact ⟨rfl, rfl⟩)
theorem flat_views : ∀ {ds : List D} {vs us : List V}, RVs K H io B ds vs → flatDs ds = some us → vs = us ∧ us.all flatV = true
  | [], _, _, h, e => by cases h; cases e; exact ⟨rfl, rfl⟩
  | d :: ds, _, us, h, e => by
    obtain ⟨v, r, rfl, h1, h2⟩ := h
    simp only [flatDs] at e
    split at e
    · rename_i u us' e1 e2
      cases e
      obtain ⟨a1, a2⟩ := flat_view h1 e1
      obtain ⟨b1, b2⟩ := flat_views h2 e2
      exact ⟨by rw [a1, b1], by rw [List.all_cons, a2, b2]; rfl⟩
    · cases e
def rInS (K : PySem.W.Frag) : R2 := fun x y H Q => rIn K false x y H Q ∨ rInD K x y H Q
def rNotInS (K : PySem.W.Frag) : R2 := fun x y H Q => rIn K true x y H Q ∨ rNotInD K x y H Q
theorem op_inS {X : Cx} (hu : X.A.units + 65 < cLine) : OpR X (compareOp .In) (rInS X.K) := fun pins s σ H x y v u Q I rx ry h => h.elim (fun h => op_in_seq pins s σ H x y v u Q I rx ry h) fun h => op_inD hu pins s σ H x y v u Q I rx ry h
theorem op_notInS {X : Cx} (hu : X.A.units + 65 < cLine) : OpR X (compareOp .NotIn) (rNotInS X.K) := fun pins s σ H x y v u Q I rx ry h => h.elim (fun h => op_notIn_seq pins s σ H x y v u Q I rx ry h) fun h => op_notInD hu pins s σ H x y v u Q I rx ry h
theorem in_view {st : Store} {a b : D} {x y : V} {c : Bool} (ok : StOk K H io B st) (ra : RV K H io B a x) (rb : RV K H io B b y) (e : inD st a b = some c) :
    (∃ p xs, y = .ref p ∧ (SqL K H p xs ∨ SqT K H p xs) ∧ flatV x = true ∧ xs.all flatV = true ∧ c = inV x xs) ∨ (∃ d ds, Dp K H x d ∧ Dp K H y (.list ds) ∧ SeqAt.shaped d = true ∧ SeqAt.shaped (.list ds) = true ∧ c = ds.any fun z => PyData.eqv z d) := by
  unfold inD at e
  split at e
  · rename_i xs hx
    have hb : b = .tup xs := by cases b <;> first | (cases hx; done) | (cases hx; rfl)
    subst hb
    split at e
    · rename_i v vs h1 h2
      cases e
      obtain ⟨p, us, rfl, t, rr⟩ := rb
      obtain ⟨rfl, f1⟩ := flat_view ra h1
      obtain ⟨rfl, f2⟩ := flat_views rr h2
      exact .inl ⟨p, us, rfl, .inr t.sq, f1, f2, rfl⟩
    · cases e
  · split at e
    · rename_i p ds h1 h2
      split at e
      · rename_i hs
        cases e
        exact .inr ⟨p, ds, py_view ok ra h1, py_view ok rb h2, hs.1, hs.2, rfl⟩
      · cases e
    · cases e
theorem ok_memb : OkR2 K (rInS K) .memb := by
  intro B io H st a b d x y Q ok ra rb e f
  simp only [opD] at e
  cases q0 : inD st a b with
  | none => rw [q0] at e; cases e
  | some c =>
    rw [q0] at e
    cases e
    rcases in_view ok ra rb q0 with ⟨p, xs, h1, h2, h3, h4, rfl⟩ | ⟨d, ds, h1, h2, h3, h4, rfl⟩
    · exact .inl ⟨p, xs, h1, h2, h3, h4, Fin.bl ok f⟩
    · exact .inr ⟨d, ds, h1, h2, h3, h4, Fin.bl ok f⟩
theorem ok_nmemb : OkR2 K (rNotInS K) .nmemb := by
  intro B io H st a b d x y Q ok ra rb e f
  simp only [opD] at e
  cases q0 : inD st a b with
  | none => rw [q0] at e; cases e
  | some c =>
    rw [q0] at e
    cases e
    rcases in_view ok ra rb q0 with ⟨p, xs, h1, h2, h3, h4, rfl⟩ | ⟨d, ds, h1, h2, h3, h4, rfl⟩
    · exact .inl ⟨p, xs, h1, h2, h3, h4, Fin.bl ok f⟩
    · exact .inr ⟨d, ds, h1, h2, h3, h4, Fin.bl ok f⟩
theorem ok_isB : OkR2 K rIsB .isB := by
  intro B io H st a b d x y Q ok ra rb e f
  cases a <;> try (simp [opD] at e; done)
  cases b <;> try (simp [opD] at e; done)
  cases ra; cases rb
  cases e
  exact ⟨_, _, rfl, rfl, Fin.bl ok f⟩
theorem ok_nisB : OkR2 K rNotB .nisB := by
  intro B io H st a b d x y Q ok ra rb e f
  cases a <;> try (simp [opD] at e; done)
  cases b <;> try (simp [opD] at e; done)
  cases ra; cases rb
  cases e
  exact ⟨_, _, rfl, rfl, Fin.bl ok f⟩
def rIsqrt : List V → Hp → VK → Prop := fun vs H Q => ∃ a : Int, vs = [.int a] ∧ 0 ≤ a ∧ Bd 4000 a ∧ Q (.int ((Float64.isqrt a.toNat : Nat) : Int)) H
theorem isqrt_wide {prog : Program} {w : World} {A : Around} {E : Value → Shared → Prop} {s : Shared} {Q : Value → Shared → Prop} {a : Int} {t : Tok} (h0 : 0 ≤ a) (h1 : Bd 4000 a) (h : Q (.int ((Float64.isqrt a.toNat : Nat) : Int) s.toks) { s with toks := s.toks + 1 }) :
    wpAny (model prog w) A (call (.builtin "math.isqrt") [.int a t]) Q E s := by
  have hl : a.toNat.log2 < 4000 := by
    by_cases z : a.toNat = 0
    · rw [z]; decide
    · refine (Nat.log2_lt z).mpr ?_
      have e : a.natAbs = a.toNat := by omega
      rw [← e]; exact h1
  exact call_function_meets PySem.W.MGF.kind_isqrt PySem.W.MGF.plain_isqrt PySem.W.MGF.entry_isqrt (PySem.W.MGF.args_isqrt _) (PySem.W.mg_run_isqrt a t (by omega) (by omega) (by omega)).meets h
theorem cr_isqrt {X : Cx} : CallR X (.builtin "math.isqrt") rIsqrt := by
  intro pins s σ H vs us Q I r h
  obtain ⟨a, rfl, h0, h1, q⟩ := h
  obtain ⟨u, rfl, ru⟩ := vals1 r
  obtain ⟨t, rfl⟩ := ru
  exact isqrt_wide h0 h1 ⟨.int _, H, I.tok _, ⟨_, rfl⟩, q⟩
theorem ok_isqrt : OkA K rIsqrt .isqrt := by
  intro B io H st ds d vs Q ok r e f
  match ds, e with
  | [.int i], e =>
    obtain ⟨x, rfl, ra⟩ := r.one
    cases ra
    simp only [opD] at e
    split at e
    · rename_i h
      cases e
      exact ⟨i, rfl, h.1, h.2, Fin.int ok f⟩
    · cases e
theorem ok_gcd : OkA K rGcd .gcd := by
  intro B io H st ds d vs Q ok r e f
  match ds, e with
  | [.int i, .int j], e =>
    obtain ⟨x, y, rfl, ra, rb⟩ := r.two
    cases ra; cases rb; cases e
    exact ⟨i, j, rfl, Fin.int ok f⟩
/-- slices -/
def rCut (K : PySem.W.Frag) : V → Option Int → Option Int → Hp → VK → Prop := fun x lo hi H Q => rSlL K x lo hi H Q ∨ rSlA K x lo hi H Q
theorem sl_cut {X : Cx} : SlR X (rCut X.K) := SlR.or sl_list sl_tupA
theorem cut_all {α : Type} (xs : List α) (lo hi : Option Int) (h : HT.sIx xs.length 0 lo = 0 ∧ HT.sIx xs.length xs.length hi = xs.length) : (xs.drop (HT.sIx xs.length 0 lo)).take (HT.sIx xs.length xs.length hi - HT.sIx xs.length 0 lo) = xs := by
  rw [h.1, h.2]; simp
theorem ok_cut {H : Hp} {io B : List Addr} {st : Store} {a d : D} {x : V} {lo hi : Option Int} {Q : VK} (ok : StOk K H io B st) (ra : RV K H io B a x) (e : cutOp st a lo hi = some d) (f : Fin K H io B st d Q) : rCut K x lo hi H Q := by
  cases a with
  | tup xs =>
    cases e
    obtain ⟨p, vs, rfl, hs, rr⟩ := id ra
    refine .inr ⟨p, vs, rfl, hs.sq, fun h => ?_, fun _ p hp => Fin.tup ok (rr.cut lo hi) f hp⟩
    rw [rr.length] at h
    have e : cutD xs lo hi = xs := cut_all xs lo hi h
    rw [e] at f
    exact f _ _ ra ok .refl
  | lst ys =>
    cases e
    obtain ⟨p, vs, rfl, hs, rr⟩ := lst_view ok ra (show isLst st (.lst ys) = some ys from rfl)
    exact .inl ⟨p, vs, rfl, hs, fun l hl => Fin.lst ok (rr.cut lo hi) f hl⟩
  | loc n =>
    simp only [cutOp] at e
    split at e
    · rename_i xs q
      cases e
      obtain ⟨p, vs, rfl, hs, rr⟩ := lst_view ok ra q
      exact .inl ⟨p, vs, rfl, hs, fun l hl => Fin.lst ok (rr.cut lo hi) f hl⟩
    · cases e
  | scr ns =>
    cases e
    obtain ⟨p, vs, rfl, hs, rr⟩ := lst_view ok ra (show isLst st (.scr ns) = some _ from rfl)
    exact .inl ⟨p, vs, rfl, hs, fun l hl => Fin.lst ok (rr.cut lo hi) f hl⟩
  | _ => simp [cutOp, isLst] at e
end
end L3

set_option maxHeartbeats 2000000
namespace L3
open L2 PySem PySem.Spec PyProof.Rows

/-! ### bool - bool -/
def rSubB : R2 := fun x y H Q => ∃ i j, x = .bl i ∧ y = .bl j ∧ Q (.int (b2i i - b2i j)) H
theorem op_subB {X : Cx} : OpR X (binaryOp .Sub) rSubB := by
  intro pins s σ H x y v u Q I rx ry h
  obtain ⟨i, j, rfl, rfl, q⟩ := h
  cases rx; cases ry
  exact sub_bool ⟨.int _, H, I.tok _, ⟨_, rfl⟩, q⟩
def rSub : R2 := fun x y H Q => rI0 (fun i j => .int (i - j)) x y H Q ∨ rSubB x y H Q
theorem op_subA {X : Cx} : OpR X (binaryOp .Sub) rSub := OpR.or op_sub op_subB
theorem ok_sub {K : PySem.W.Frag} : OkR2 K rSub .sub := by
  intro B io H st a b d x y Q ok ra rb e f
  cases a <;> try (simp [opD] at e; done)
  · rename_i i
    cases b <;> try (simp [opD] at e; done)
    rename_i j
    cases ra; cases rb; cases e
    exact .inr ⟨i, j, rfl, rfl, Fin.int ok f⟩
  · rename_i i
    cases b <;> try (simp [opD] at e; done)
    rename_i j
    cases ra; cases rb; cases e
    exact .inl ⟨i, j, rfl, rfl, Fin.int ok f⟩

/-! ### is None -/
def rIsN : V → Hp → VK → Prop := fun x H Q => Q (.bl (decide (x = .non))) H
theorem rv_non {K : PySem.W.Frag} {H : Hp} {io B : List Addr} {d : D} {v : V} (h : RV K H io B d v) : decide (v = .non) = isNonD d := by
  cases d with
  | non => cases h; rfl
  | bl b => cases h; rfl
  | int i => cases h; rfl
  | str s => cases h; rfl
  | tup xs => obtain ⟨a, vs, rfl, _⟩ := h; rfl
  | lst xs => obtain ⟨a, vs, rfl, _⟩ := h; rfl
  | loc n => obtain ⟨a, rfl, _⟩ := h; rfl
  | scr ns => obtain ⟨a, rfl, _⟩ := h; rfl

/-! ### repr -/
theorem tf_len : ∀ (ts : List Str) (k : Nat) (acc : Str), (textFrom k acc ts).length ≤ acc.length + piled ts
  | [], _, acc => Nat.le_add_right _ _
  | t :: r, k, acc => by
    have h := tf_len r (k + 1) (acc ++ (if k > 0 then ", " else "" : String) ++ t)
    have e : (acc ++ (if k > 0 then ", " else "" : String) ++ t).length ≤ acc.length + 2 + t.length := by
      rw [strLen_append, strLen_append]
      split
      · exact Nat.le_refl _
      · show acc.length + 0 + t.length ≤ _; omega
    rw [piled_cons]
    show (textFrom (k + 1) _ r).length ≤ _
    omega
theorem join_len : ∀ ts : List Str, (Str.join ", " ts).length ≤ piled ts
  | [] => Nat.zero_le _
  | [t] => by rw [piled_cons, piled_nil]; show t.length ≤ _; omega
  | t :: u :: r => by
    have h := join_len (u :: r)
    rw [piled_cons]
    show (t ++ ", " ++ Str.join ", " (u :: r)).length ≤ _
    rw [strLen_append, strLen_append]
    have : (", " : Str).length = 2 := rfl
    omega
mutual
theorem shown_len : ∀ p : PyData, plainP p = true → p.showable = true ∧ p.hasDict = false ∧ p.shown.length ≤ cost p
  | .none, _ => ⟨by simp only [PyData.showable], by simp only [PyData.hasDict], by simp only [PyData.shown]; exact Nat.le_refl _⟩
  | .bool b, _ => ⟨by simp only [PyData.showable], by simp only [PyData.hasDict], by simp only [PyData.shown]; cases b <;> decide⟩
  | .int i, h => by
    have hb : Bd 1900 i := of_decide_eq_true h
    have hl := log2_bd hb
    refine ⟨by simp only [PyData.showable]; exact decide_eq_true hl, by simp only [PyData.hasDict], ?_⟩
    simp only [PyData.shown, cost]
    have := int_text_length_le (a := i) (k := 1920) (by decide) hl
    rw [PySem.ofString_length]
    exact this
  | .str s, _ => ⟨by simp only [PyData.showable], by simp only [PyData.hasDict], by simp only [PyData.shown, cost]; exact Nat.le_refl _⟩
  | .list xs, h => by
    obtain ⟨h1, h2, h3⟩ := shown_lens xs (by simpa [plainP] using h)
    refine ⟨by simpa only [PyData.showable] using h1, by simpa only [PyData.hasDict] using h2, ?_⟩
    simp only [PyData.shown, cost]
    have e : (listText (PyData.shownAll xs)).length = (textFrom 0 "[" (PyData.shownAll xs)).length + 1 := by
      show (textFrom 0 "[" (PyData.shownAll xs) ++ "]").length = _
      rw [strLen_append]; rfl
    have l := tf_len (PyData.shownAll xs) 0 "["
    have e1 : ("[" : Str).length = 1 := rfl
    omega
  | .tuple xs, h => by
    obtain ⟨h1, h2, h3⟩ := shown_lens xs (by simpa [plainP] using h)
    refine ⟨by simpa only [PyData.showable] using h1, by simpa only [PyData.hasDict] using h2, ?_⟩
    simp only [PyData.shown, cost]
    have l := join_len (PyData.shownAll xs)
    show (("(" : Str) ++ Str.join ", " (PyData.shownAll xs) ++ (if (PyData.shownAll xs).length == 1 then ",)" else ")" : String)).length ≤ _
    rw [strLen_append, strLen_append]
    have e1 : ("(" : Str).length = 1 := rfl
    have e2 : (Str.ofString (if (PyData.shownAll xs).length == 1 then ",)" else ")")).length ≤ 2 := by split <;> decide
    omega
  | .dict _, h => by simp [plainP] at h
theorem shown_lens : ∀ ps : List PyData, plainPs ps = true → PyData.showableAll ps = true ∧ PyData.hasDictAll ps = false ∧ piled (PyData.shownAll ps) ≤ costs ps
  | [], _ => ⟨by simp only [PyData.showableAll], by simp only [PyData.hasDictAll], by simp only [PyData.shownAll, costs]; exact Nat.le_refl _⟩
  | p :: ps, h => by
    rw [plainPs, Bool.and_eq_true] at h
    obtain ⟨a1, a2, a3⟩ := shown_len p h.1
    obtain ⟨b1, b2, b3⟩ := shown_lens ps h.2
    refine ⟨by simp only [PyData.showableAll, a1, b1]; rfl, by simp only [PyData.hasDictAll, a2, b2]; rfl, ?_⟩
    simp only [PyData.shownAll, costs, piled_cons]
    omega
end
def rRepr (K : PySem.W.Frag) : List V → Hp → VK → Prop := fun xs H Q => ∃ x p, xs = [x] ∧ Dp K H x p ∧ plainP p = true ∧ cost p ≤ sizeLine ∧ p.depth ≤ 60 ∧ Q (.str p.shown) H
theorem call_reprA {X : Cx} (hg : X.A.guards = some []) (hu : X.A.units + 64 < cLine) : CallR X (.builtin "repr") (rRepr X.K) := by
  intro pins s σ H xs us Q I r h
  obtain ⟨x, p, rfl, hd, hp, hc, hdep, q⟩ := h
  obtain ⟨u, rfl, ru⟩ := vals1 r
  obtain ⟨h1, h2, h3⟩ := shown_len p hp
  have hz : p.shown.length ≤ sizeLine := Nat.le_trans h3 hc
  obtain ⟨as, rd⟩ := Dp.reads I p x u hd ru
  have fin : ∀ h' tk t, (∀ b o, s.heap.get? b = some o → h'.get? b = some o) → EP X pins σ Q (.str p.shown t) { s with heap := h', toks := tk } := fun h' tk t kp => ⟨.str p.shown, H, I.kept (t' := tk) kp, ⟨t, rfl⟩, q⟩
  cases rd with
  | none => exact P.repr_of_none (fin _ _ _ fun _ _ e => e)
  | bool b =>
    have q2 := fin s.heap (s.toks + 1) s.toks fun _ _ e => e
    refine P.repr_of_bool ?_
    simp only [PyData.shown] at q2
    cases b <;> exact q2
  | int i t => exact P.repr_of_int (log2_bd (of_decide_eq_true hp)) (fin _ _ _ fun _ _ e => e)
  | str x t => exact P.repr_of_str (fin _ _ _ fun _ _ e => e) (by simpa only [PyData.shown] using hz)
  | list a1 a2 a3 a4 => exact repr_of_reads' (.list a1 a2 a3 a4) h1 (PyData.noDict_hsm h2) hg (by omega) (fun _ _ e => e) (fun h' t tk kp => fin h' tk t kp) hz
  | tuple a1 a2 a3 a4 => exact repr_of_reads' (.tuple a1 a2 a3 a4) h1 (PyData.noDict_hsm h2) hg (by omega) (fun _ _ e => e) (fun h' t tk kp => fin h' tk t kp) hz
  | dict a1 a2 a3 a4 a5 => simp [plainP] at hp
theorem ok_repr {K : PySem.W.Frag} : OkA K (rRepr K) .repr := by
  intro B io H st ds d vs Q ok r e f
  match ds, e with
  | [a], e =>
    obtain ⟨x, rfl, ra⟩ := r.one
    cases q : pyOf st a with
    | none => simp [opD, q] at e
    | some p =>
      simp only [opD, q] at e
      split at e
      · rename_i h
        cases e
        exact ⟨x, p, rfl, py_view ok ra q, h.1, h.2.1, h.2.2, f _ _ rfl ok .refl⟩
      · cases e

/-! ### isinstance -/
def tyN : Nat → String
  | 0 => "int" | 1 => "bool" | 2 => "tuple" | 3 => "list" | _ => "str"
def rIs (K : PySem.W.Frag) (n : Nat) : List V → Hp → VK → Prop := fun xs H Q => ∃ x, xs = [x, .ty (tyN n)] ∧ rIsi K xs H Q
/-- the answers for the types of values, by the kernel -/
def kitRow (t : String) : List (Option Bool) := [kitB t "int", kitB t "bool", kitB t "tuple", kitB t "list", kitB t "str"]
theorem row_non : kitRow "NoneType" = [some false, some false, some false, some false, some false] := by decide +kernel
theorem row_bl : kitRow "bool" = [some true, some true, some false, some false, some false] := by decide +kernel
theorem row_int : kitRow "int" = [some true, some false, some false, some false, some false] := by decide +kernel
theorem row_str : kitRow "str" = [some false, some false, some false, some false, some true] := by decide +kernel
theorem row_tup : kitRow "tuple" = [some false, some false, some true, some false, some false] := by decide +kernel
theorem row_lst : kitRow "list" = [some false, some false, some false, some true, some false] := by decide +kernel
theorem row_at {t : String} {a b c d e : Option Bool} (h : kitRow t = [a, b, c, d, e]) {n : Nat} (hn : n < 5) : kitB t (tyN n) = [a, b, c, d, e][n] := by
  injection h with h0 h
  injection h with h1 h
  injection h with h2 h
  injection h with h3 h
  injection h with h4 h
  match n, hn with
  | 0, _ => exact h0
  | 1, _ => exact h1
  | 2, _ => exact h2
  | 3, _ => exact h3
  | 4, _ => exact h4
theorem isi_of {K : PySem.W.Frag} {H : Hp} {io B : List Addr} {st : Store} {d : D} {v : V} {n : Nat} {Q : VK} (hn : n < 5) (ok : StOk K H io B st) (h : RV K H io B d v) (q : Q (.bl (isType n d)) H) : rIsi K [v, .ty (tyN n)] H Q := by
  have go : ∀ {t : String} {b0 b1 b2 b3 b4 : Bool}, TyX K H v (.type t) → kitRow t = [some b0, some b1, some b2, some b3, some b4] → isType n d = [b0, b1, b2, b3, b4][n] → rIsi K [v, .ty (tyN n)] H Q := fun {t b0 b1 b2 b3 b4} ty e1 e2 => by
    have e3 := row_at e1 hn
    have e4 : [some b0, some b1, some b2, some b3, some b4][n] = some ([b0, b1, b2, b3, b4][n]) := by
      match n, hn with
      | 0, _ => rfl
      | 1, _ => rfl
      | 2, _ => rfl
      | 3, _ => rfl
      | 4, _ => rfl
    rw [e4, ← e2] at e3
    exact ⟨v, .ty (tyN n), .type t, .type (tyN n), _, rfl, .ty _, ty, kit_ty e3, q⟩
  have five : ∀ {P : Nat → Prop}, P 0 → P 1 → P 2 → P 3 → P 4 → P n := fun {P} p0 p1 p2 p3 p4 => by
    match n, hn with
    | 0, _ => exact p0
    | 1, _ => exact p1
    | 2, _ => exact p2
    | 3, _ => exact p3
    | 4, _ => exact p4
  have fin : ∀ {b0 b1 b2 b3 b4 : Bool}, isType 0 d = b0 → isType 1 d = b1 → isType 2 d = b2 → isType 3 d = b3 → isType 4 d = b4 → isType n d = [b0, b1, b2, b3, b4][n] := fun {b0 b1 b2 b3 b4} h0 h1 h2 h3 h4 => by
    match n, hn with
    | 0, _ => exact h0
    | 1, _ => exact h1
    | 2, _ => exact h2
    | 3, _ => exact h3
    | 4, _ => exact h4
  cases d with
  | non => cases h; exact go (.base .non) row_non (fin rfl rfl rfl rfl rfl)
  | bl b => cases h; exact go (.base (.bl b)) row_bl (fin rfl rfl rfl rfl rfl)
  | int i => cases h; exact go (.base (.int i)) row_int (fin rfl rfl rfl rfl rfl)
  | str i => cases h; exact go (.base (.str i)) row_str (fin rfl rfl rfl rfl rfl)
  | tup xs =>
    obtain ⟨a, vs, rfl, t, r⟩ := h
    have ty : TyX K H (.ref a) (.type "tuple") := by
      rcases t with ⟨o, its, m, hk, hc, _⟩ | ⟨t | ⟨o, t⟩, _⟩
      · exact .kTuple hk hc
      · exact .base (.tup t)
      · exact .fTuple t
    exact go ty row_tup (fin rfl rfl rfl rfl rfl)
  | lst xs =>
    obtain ⟨a, vs, rfl, t, r⟩ := h
    exact go (.base (.lst t.1)) row_lst (fin rfl rfl rfl rfl rfl)
  | loc k =>
    obtain ⟨a, rfl, z⟩ := h
    have hk : k < st.length := by rw [← ok.len]; exact (List.getElem?_eq_some_iff.mp z).1
    obtain ⟨c, vs, h1, h2, _⟩ := ok.at (List.getElem?_eq_getElem hk)
    rw [z] at h1; cases h1
    exact go (.base (.lst h2)) row_lst (fin rfl rfl rfl rfl rfl)
  | scr ns =>
    obtain ⟨a, rfl, t⟩ := h
    have ty : TyX K H (.ref a) (.type "list") := by
      rcases t with ⟨o, its, m, hk, hc, _⟩ | ⟨t | ⟨o, t⟩, _⟩
      · exact .kList hk hc
      · exact .base (.lst t)
      · exact .base (.frz t)
    exact go ty row_lst (fin rfl rfl rfl rfl rfl)
end L3

set_option maxHeartbeats 2000000
namespace L3
open L2 PySem PySem.Spec PyProof.Rows

/-! ### what stands in the text -/
def nonStar : Expr → Bool
  | .Starred .. => false
  | _ => true
def nonSlice : Expr → Bool
  | .Slice .. => false
  | _ => true
theorem starOne {e : Expr} {es : List Expr} {env : Env} (h : nonStar e = true) : starEach (e :: es) env = (false, eval e env) :: starEach es env := by
  cases e <;> first | rfl | cases h
theorem starAll {env : Env} {pos : Pos} : ∀ {es : List Expr}, es.all nonStar = true → (backTo pos (starEach es env)).any (·.1) = false
  | [], _ => rfl
  | e :: es, h => by
    rw [List.all_cons, Bool.and_eq_true] at h
    rw [starOne h.1]
    show (false || (backTo pos (starEach es env)).any (·.1)) = false
    rw [starAll h.2]; rfl
theorem plainIx {b : Expr} (h : nonSlice b = true) : PlainIx b := by
  intro o i
  cases b <;> first | rfl | cases h

/-! ### logic -/
section
variable {K : PySem.W.Frag} {xi : XI} {W : WX} {cf : Nat → List D → Store → Res D} {gl : Nat → Option D} {X : Cx} {a b c : Expr} {ia ib ic : Ex} {pos : Pos} {rest : List Expr}

theorem e_var {i : Nat} {x : Str} (hN : X.N[i]? = some x) (hv : Vis X.env.scope x) (hd : (x == ("__debug__" : Str)) = false) (hcd : (x == ("__classdict__" : Str)) = false) : PE X (.Name x pos) (rdE X.K xi W (den cf gl (.var i))) := by
  refine PE.imp (pe_var hN hv hd hcd) fun σ H Q h => ?_
  obtain ⟨B, io, r, st, ok, env, h⟩ := h
  simp only [den] at h
  split at h
  · rename_i d q
    obtain ⟨v, h1, h2⟩ := env.get i d q
    exact ⟨v, h1, h.here (g := v) h2 ok⟩
  · exact h.elim
theorem e_con {d : D} {v : V} {e : Expr} (he : PE X e (tC v)) (hd : ∀ H io B, RV X.K H io B d v) : PE X e (rdE X.K xi W (den cf gl (.con d))) := by
  refine PE.imp he fun σ H Q h => ?_
  obtain ⟨B, io, r, st, ok, env, h⟩ := h
  exact h.here (g := v) (hd H io B) ok
theorem e_glo {j : Nat} {d : D} {v : V} {e : Expr} (he : PE X e (tC v)) (hj : gl j = some d) (hd : ∀ H io B, RV X.K H io B d v) : PE X e (rdE X.K xi W (den cf gl (.glo j))) := by
  refine PE.imp he fun σ H Q h => ?_
  obtain ⟨B, io, r, st, ok, env, h⟩ := h
  simp only [den, hj, Res.of] at h
  exact h.here (g := v) (hd H io B) ok
theorem e_nott (ha : PE X a (rdE X.K xi W (den cf gl ia))) : PE X (.UnaryOp .Not a pos) (rdE X.K xi W (den cf gl (.nott ia))) := by
  refine PE.imp (pe_notT ha) fun σ H Q h => ?_
  obtain ⟨B, io, r, st, ok, env, h⟩ := h
  simp only [den] at h
  refine ⟨B, io, r, st, ok, env, Post.split h fun x s1 v1 H1 io1 _ r1 ok1 st1 h1 => ?_⟩
  obtain ⟨d, e, h1⟩ := Post.of h1
  cases q : truth s1 x with
  | none => rw [q] at e; cases e
  | some k =>
    rw [q] at e; cases e
    exact ⟨k, truth_view ok1 r1 q, h1.here (g := V.bl (!k)) (show RV X.K H1 io1 B (D.bl (!k)) (V.bl (!k)) from rfl) ok1⟩
theorem and_to {ta : TE} (σ : SL) (H : Hp) (Q : VK) (h : rdE X.K xi W (den cf gl (.and2 ia ib)) σ H Q) : tAndT X.K (rdE X.K xi W (den cf gl ia)) (rdE X.K xi W (den cf gl ib)) σ H Q := by
  obtain ⟨B, io, r, st, ok, env, h⟩ := h
  simp only [den] at h
  refine ⟨B, io, r, st, ok, env, Post.split h fun x s1 v1 H1 io1 _ r1 ok1 st1 h1 => ?_⟩
  cases q : truth s1 x with
  | none => simp only [q] at h1; exact h1.elim
  | some k =>
    refine ⟨k, truth_view ok1 r1 q, ?_⟩
    cases k with
    | true =>
      simp only [q] at h1
      rw [if_pos rfl]
      exact ⟨B, io1, r, s1, ok1, env.mono st1, h1⟩
    | false =>
      simp only [q] at h1
      rw [if_neg Bool.false_ne_true]
      exact h1.here (g := v1) r1 ok1
theorem or_to {ta : TE} (σ : SL) (H : Hp) (Q : VK) (h : rdE X.K xi W (den cf gl (.or2 ia ib)) σ H Q) : tOrT X.K (rdE X.K xi W (den cf gl ia)) (rdE X.K xi W (den cf gl ib)) σ H Q := by
  obtain ⟨B, io, r, st, ok, env, h⟩ := h
  simp only [den] at h
  refine ⟨B, io, r, st, ok, env, Post.split h fun x s1 v1 H1 io1 _ r1 ok1 st1 h1 => ?_⟩
  cases q : truth s1 x with
  | none => simp only [q] at h1; exact h1.elim
  | some k =>
    refine ⟨k, truth_view ok1 r1 q, ?_⟩
    cases k with
    | true =>
      simp only [q] at h1
      rw [if_pos rfl]
      exact h1.here (g := v1) r1 ok1
    | false =>
      simp only [q] at h1
      rw [if_neg Bool.false_ne_true]
      exact ⟨B, io1, r, s1, ok1, env.mono st1, h1⟩
theorem e_and (ha : PE X a (rdE X.K xi W (den cf gl ia))) (hb : PE X (.BoolOp .And (b :: rest) pos) (rdE X.K xi W (den cf gl ib))) : PE X (.BoolOp .And (a :: b :: rest) pos) (rdE X.K xi W (den cf gl (.and2 ia ib))) :=
  PE.imp (pe_andT ha hb) fun σ H Q h => and_to (ta := rdE X.K xi W (den cf gl ia)) σ H Q h
theorem e_or (ha : PE X a (rdE X.K xi W (den cf gl ia))) (hb : PE X (.BoolOp .Or (b :: rest) pos) (rdE X.K xi W (den cf gl ib))) : PE X (.BoolOp .Or (a :: b :: rest) pos) (rdE X.K xi W (den cf gl (.or2 ia ib))) :=
  PE.imp (pe_orT ha hb) fun σ H Q h => or_to (ta := rdE X.K xi W (den cf gl ia)) σ H Q h

/-- the test's outcome -/
theorem Post.test {B io : List Addr} {σ : SL} {H : Hp} {f : Res D} {Q : Bool → Hp → Prop} (h : Post K xi W RepT B σ H io (f.bind fun x s => .of s (truth s x)) Q) :
    Post K xi W (RepE K B) B σ H io f fun v H1 => ∃ k, TruV K v H1 k ∧ Q k H1 := by
  refine Post.split h fun x s1 v1 H1 io1 _ r1 ok1 st1 h1 => ?_
  obtain ⟨k, e, h1⟩ := Post.of h1
  exact ⟨k, truth_view ok1 r1 e, h1.here (g := k) rfl ok1⟩
theorem t_plain (ha : PE X a (rdE X.K xi W (den cf gl ia))) (hp : ∀ whole, isTrue a X.env whole = (do let v ← whole; standAt a.pos; holding [v] (truthy v))) : PT X a (rdT X.K xi W (denT cf gl ia)) := by
  refine PT.imp (pt_truth ha hp) fun σ H Q h => ?_
  obtain ⟨B, io, r, st, ok, env, h⟩ := h
  exact ⟨B, io, r, st, ok, env, Post.test h⟩
theorem t_not (ha : PT X a (rdT X.K xi W (denT cf gl ia))) : PT X (.UnaryOp .Not a pos) (rdT X.K xi W (denT cf gl (.nott ia))) := by
  refine PT.imp (pt_not ha) fun σ H Q h => ?_
  obtain ⟨B, io, r, st, ok, env, h⟩ := h
  refine ⟨B, io, r, st, ok, env, ?_⟩
  have e : denT cf gl (.nott ia) r st = (denT cf gl ia r st).bind fun b s => .ok (!b) s := by
    simp only [denT, den]
    cases den cf gl ia r st with
    | ok x s =>
      simp only [Res.bind]
      cases truth s x <;> rfl
    | _ => rfl
  rw [e] at h
  exact Post.split h fun b s1 b' H1 io1 _ r1 ok1 st1 h1 => by cases r1; exact h1.here (g := !b) rfl ok1
theorem denT_and (r : DEnv) (st : Store) : denT cf gl (.and2 ia ib) r st = (denT cf gl ia r st).bind fun k s => if k = true then denT cf gl ib r s else .ok false s := by
  simp only [denT, den]
  cases den cf gl ia r st with
  | ok x s =>
    simp only [Res.bind]
    cases q : truth s x with
    | none => rfl
    | some k =>
      cases k with
      | true => rfl
      | false => simp only [Res.of, Res.bind, q, if_neg Bool.false_ne_true]
  | _ => rfl
theorem denT_or (r : DEnv) (st : Store) : denT cf gl (.or2 ia ib) r st = (denT cf gl ia r st).bind fun k s => if k = true then .ok true s else denT cf gl ib r s := by
  simp only [denT, den]
  cases den cf gl ia r st with
  | ok x s =>
    simp only [Res.bind]
    cases q : truth s x with
    | none => rfl
    | some k =>
      cases k with
      | true => simp only [Res.of, Res.bind, q, if_pos]
      | false => rfl
  | _ => rfl
theorem PW.imp {X : Cx} {e : Expr} {t t' : TT} (h : PW X e t) (i : ∀ σ H Q, t' σ H Q → t σ H Q) : PW X e t' := ⟨fun wh pins s σ H Q I q => h.run wh pins s σ H Q I (i σ H Q q)⟩
theorem w_and (ha : PT X a (rdT X.K xi W (denT cf gl ia))) (hb : PW X (.BoolOp .And (b :: rest) pos) (rdT X.K xi W (denT cf gl ib))) : PW X (.BoolOp .And (a :: b :: rest) pos) (rdT X.K xi W (denT cf gl (.and2 ia ib))) := by
  refine PW.imp (pw_and ha hb) fun σ H Q h => ?_
  obtain ⟨B, io, r, st, ok, env, h⟩ := h
  rw [denT_and] at h
  refine ⟨B, io, r, st, ok, env, Post.split h fun k s1 k' H1 io1 _ r1 ok1 st1 h1 => ?_⟩
  cases r1
  cases k with
  | true => rw [if_pos rfl] at h1 ⊢; exact ⟨B, io1, r, s1, ok1, env.mono st1, h1⟩
  | false => rw [if_neg Bool.false_ne_true] at h1 ⊢; exact h1.here (g := false) rfl ok1
theorem w_or (ha : PT X a (rdT X.K xi W (denT cf gl ia))) (hb : PW X (.BoolOp .Or (b :: rest) pos) (rdT X.K xi W (denT cf gl ib))) : PW X (.BoolOp .Or (a :: b :: rest) pos) (rdT X.K xi W (denT cf gl (.or2 ia ib))) := by
  refine PW.imp (pw_or ha hb) fun σ H Q h => ?_
  obtain ⟨B, io, r, st, ok, env, h⟩ := h
  rw [denT_or] at h
  refine ⟨B, io, r, st, ok, env, Post.split h fun k s1 k' H1 io1 _ r1 ok1 st1 h1 => ?_⟩
  cases r1
  cases k with
  | true => rw [if_pos rfl] at h1 ⊢; exact h1.here (g := true) rfl ok1
  | false => rw [if_neg Bool.false_ne_true] at h1 ⊢; exact ⟨B, io1, r, s1, ok1, env.mono st1, h1⟩
theorem e_ifx (hc : PT X c (rdT X.K xi W (denT cf gl ic))) (ha : PE X a (rdE X.K xi W (den cf gl ia))) (hb : PE X b (rdE X.K xi W (den cf gl ib))) : PE X (.IfExp c a b pos) (rdE X.K xi W (den cf gl (.ifx ic ia ib))) := by
  refine PE.imp (pe_ifExp hc ha hb) fun σ H Q h => ?_
  obtain ⟨B, io, r, st, ok, env, h⟩ := h
  have e : den cf gl (.ifx ic ia ib) r st = (denT cf gl ic r st).bind fun k s => if k = true then den cf gl ia r s else den cf gl ib r s := by
    simp only [denT, den]
    cases den cf gl ic r st with
    | ok x s =>
      simp only [Res.bind]
      cases q : truth s x with
      | none => rfl
      | some k => cases k <;> rfl
    | _ => rfl
  rw [e] at h
  refine ⟨B, io, r, st, ok, env, Post.split h fun k s1 k' H1 io1 _ r1 ok1 st1 h1 => ?_⟩
  cases r1
  cases k with
  | true => rw [if_pos rfl] at h1 ⊢; exact ⟨B, io1, r, s1, ok1, env.mono st1, h1⟩
  | false => rw [if_neg Bool.false_ne_true] at h1 ⊢; exact ⟨B, io1, r, s1, ok1, env.mono st1, h1⟩

/-! ### argument lists -/
theorem a_nil : PA X [] (rdA X.K xi W (dens cf gl [])) := PA.imp pa_nil fun σ H Q h => by
  obtain ⟨B, io, r, st, ok, env, h⟩ := h
  simp only [dens] at h
  exact h.here (g := []) rfl ok
theorem a_cons {es : List Expr} {ies : List Ex} (ha : PE X a (rdE X.K xi W (den cf gl ia))) (hr : PA X es (rdA X.K xi W (dens cf gl ies))) (hs : nonStar a = true) : PA X (a :: es) (rdA X.K xi W (dens cf gl (ia :: ies))) := by
  refine PA.imp (pa_cons ha hr (starOne hs)) fun σ H Q h => ?_
  obtain ⟨B, io, r, st, ok, env, h⟩ := h
  simp only [dens] at h
  refine ⟨B, io, r, st, ok, env, Post.split h fun x s1 v1 H1 io1 _ r1 ok1 st1 h1 => ?_⟩
  refine ⟨B, io1, r, s1, ok1, env.mono st1, Post.split h1 fun ys s2 vs H2 io2 _ r2 ok2 st2 h2 => ?_⟩
  exact h2.here (g := v1 :: vs) ⟨v1, vs, rfl, RV.mono st2 _ _ r1, r2⟩ ok2

/-! ### operations -/
theorem e_bin {o : Op} {bop : Operator} {r2 : R2} (ho : OpR X (binaryOp bop) r2) (hr : OkR2 X.K r2 o) (ha : PE X a (rdE X.K xi W (den cf gl ia))) (hb : PE X b (rdE X.K xi W (den cf gl ib))) : PE X (.BinOp a bop b pos) (rdE X.K xi W (den cf gl (.op o [ia, ib]))) :=
  PE.imp (pe_op ho ha hb) fun σ H Q h => run2 hr σ H Q h
theorem e_cmp {o : Op} {cop : CmpOp} {r2 : R2} (ho : OpR X (compareOp cop) r2) (hr : OkR2 X.K r2 o) (ha : PE X a (rdE X.K xi W (den cf gl ia))) (hb : PE X b (rdE X.K xi W (den cf gl ib))) (hm : behindInMarks cop b = false) : PE X (.Compare a [cop] [b] pos) (rdE X.K xi W (den cf gl (.op o [ia, ib]))) :=
  PE.imp (pe_cmpR ho ha hb hm) fun σ H Q h => run2 hr σ H Q h
def isCop : Op → Bool
  | .eq | .ne | .lt | .le | .gt | .ge | .memb | .nmemb | .isB | .nisB => true
  | _ => false
theorem bl_two {o : Op} {d x y : D} {st : Store} (h : isCop o = true) (e : opD st o [x, y] = some d) : ∃ k, d = .bl k := by
  have key : ∀ (q : Option Bool) (f : Bool → Bool), q.map (fun c => D.bl (f c)) = some d → ∃ k, d = .bl k := fun q f e => by
    cases q <;> cases e
    exact ⟨_, rfl⟩
  cases o <;> first | (cases h; done) | exact key _ id e | exact key _ (!·) e | skip
  all_goals (cases x <;> try (simp only [opD] at e; cases e; done))
  all_goals (cases y <;> try (simp only [opD] at e; cases e; done))
  all_goals (simp only [opD] at e; cases e; exact ⟨_, rfl⟩)
theorem chn_read {o1 o2 : Op} {r1 r2 : R2} (k1 : OkR2 X.K r1 o1) (k2 : OkR2 X.K r2 o2) (σ : SL) (H : Hp) (Q : VK) (h : rdE X.K xi W (den cf gl (.chn o1 o2 ia ib ic)) σ H Q) : tChain r1 r2 (rdE X.K xi W (den cf gl ia)) (rdE X.K xi W (den cf gl ib)) (rdE X.K xi W (den cf gl ic)) σ H Q := by
  obtain ⟨B, io, r, st, ok, env, h⟩ := h
  simp only [den] at h
  refine ⟨B, io, r, st, ok, env, Post.split h fun x s1 v1 H1 io1 _ q1 ok1 st1 h1 => ?_⟩
  refine ⟨B, io1, r, s1, ok1, env.mono st1, Post.split h1 fun y s2 v2 H2 io2 _ q2 ok2 st2 h2 => ?_⟩
  cases q : opD s2 o1 [x, y] with
  | none => rw [q] at h2; exact h2.elim
  | some d =>
    rw [q] at h2
    refine k1 ok2 (RV.mono st2 _ _ q1) q2 q fun v H3 rv ok3 st3 => ?_
    cases d with
    | bl k =>
      cases rv
      refine ⟨k, rfl, ?_⟩
      cases k with
      | true =>
        rw [if_pos rfl]
        refine ⟨B, io2, r, s2, ok3, ((env.mono st1).mono st2).mono st3, Post.split (Post.from ok3 st3 h2) fun z s4 v4 H4 io4 _ q4 ok4 st4 h4 => ?_⟩
        cases q' : opD s4 o2 [y, z] with
        | none => rw [q'] at h4; exact h4.elim
        | some d' =>
          rw [q'] at h4
          cases d' with
          | bl k' => exact k2 ok4 (RV.mono st4 _ _ (RV.mono st3 _ _ q2)) q4 q' fun v H5 rv ok5 st5 => h4 v H5 io4 rv ok5 st5
          | _ => exact h4.elim
      | false =>
        rw [if_neg Bool.false_ne_true]
        exact h2 _ H3 io2 rfl ok3 st3
    | _ => exact h2.elim
theorem e_chn {o1 o2 : Op} {c1 c2 : CmpOp} {r1 r2 : R2} {c : Expr} (ho1 : OpR X (compareOp c1) r1) (k1 : OkR2 X.K r1 o1) (ho2 : OpR X (compareOp c2) r2) (k2 : OkR2 X.K r2 o2) (ha : PE X a (rdE X.K xi W (den cf gl ia))) (hb : PE X b (rdE X.K xi W (den cf gl ib))) (hc : PE X c (rdE X.K xi W (den cf gl ic))) (hm : lastMarks [c1, c2] [b, c] = false) :
    PE X (.Compare a [c1, c2] [b, c] pos) (rdE X.K xi W (den cf gl (.chn o1 o2 ia ib ic))) := PE.imp (pe_chain ho1 ho2 ha hb hc hm) fun σ H Q h => chn_read k1 k2 σ H Q h
theorem chn_bl {o1 o2 : Op} {r : DEnv} {st s1 : Store} {d : D} (e : den cf gl (.chn o1 o2 ia ib ic) r st = .ok d s1) : ∃ k, d = .bl k := by
  simp only [den] at e
  cases q1 : den cf gl ia r st with
  | ok x s2 =>
    rw [q1] at e
    simp only [Res.bind] at e
    cases q2 : den cf gl ib r s2 with
    | ok y s3 =>
      rw [q2] at e
      simp only [Res.bind] at e
      split at e
      · cases q3 : den cf gl ic r s3 with
        | ok z s4 =>
          rw [q3] at e
          simp only [Res.bind] at e
          split at e
          · cases e; exact ⟨_, rfl⟩
          · cases e
        | _ => rw [q3] at e; cases e
      · cases e; exact ⟨_, rfl⟩
      · cases e
    | _ => rw [q2] at e; cases e
  | _ => rw [q1] at e; cases e
theorem t_chn {o1 o2 : Op} {c1 c2 : CmpOp} {r1 r2 : R2} {c : Expr} (ho1 : OpR X (compareOp c1) r1) (k1 : OkR2 X.K r1 o1) (ho2 : OpR X (compareOp c2) r2) (k2 : OkR2 X.K r2 o2) (ha : PE X a (rdE X.K xi W (den cf gl ia))) (hb : PE X b (rdE X.K xi W (den cf gl ib))) (hc : PE X c (rdE X.K xi W (den cf gl ic))) (hm : lastMarks [c1, c2] [b, c] = false) :
    PT X (.Compare a [c1, c2] [b, c] pos) (rdT X.K xi W (denT cf gl (.chn o1 o2 ia ib ic))) := by
  refine PT.imp (pt_chain ho1 ho2 ha hb hc hm) fun σ H Q h => ?_
  refine chn_read k1 k2 σ H _ ?_
  obtain ⟨B, io, r, st, ok, env, h⟩ := h
  refine ⟨B, io, r, st, ok, env, ?_⟩
  refine Post.split h fun x s1 v1 H1 io1 e1 r1 ok1 st1 h1 => ?_
  obtain ⟨k, rfl⟩ := chn_bl e1
  cases r1
  exact ⟨k, rfl, h1.here (g := k) rfl ok1⟩
theorem t_cmp {o : Op} {cop : CmpOp} {r2 : R2} (ho : OpR X (compareOp cop) r2) (hr : OkR2 X.K r2 o) (hc : isCop o = true) (ha : PE X a (rdE X.K xi W (den cf gl ia))) (hb : PE X b (rdE X.K xi W (den cf gl ib))) (hm : behindInMarks cop b = false) : PT X (.Compare a [cop] [b] pos) (rdT X.K xi W (denT cf gl (.op o [ia, ib]))) := by
  refine PT.imp (pt_cmpR ho ha hb hm) fun σ H Q h => ?_
  refine run2 hr σ H _ ?_
  obtain ⟨B, io, r, st, ok, env, h⟩ := h
  refine ⟨B, io, r, st, ok, env, ?_⟩
  have g : ∀ d s1, den cf gl (.op o [ia, ib]) r st = .ok d s1 → ∃ k, d = .bl k := fun d s1 e => by
    simp only [den] at e
    rw [dens_two] at e
    cases q1 : den cf gl ia r st with
    | ok x s2 =>
      rw [q1] at e
      simp only [Res.bind] at e
      cases q2 : den cf gl ib r s2 with
      | ok y s3 =>
        rw [q2] at e
        simp only [Res.bind] at e
        cases q3 : opD s3 o [x, y] with
        | some d' =>
          rw [q3] at e
          cases e
          exact bl_two hc q3
        | none => rw [q3] at e; cases e
      | _ => rw [q2] at e; cases e
    | _ => rw [q1] at e; cases e
  refine Post.split h fun x s1 v1 H1 io1 e1 r1 ok1 st1 h1 => ?_
  obtain ⟨k, rfl⟩ := g x s1 e1
  cases r1
  exact ⟨k, rfl, h1.here (g := k) rfl ok1⟩
theorem e_neg (ha : PE X a (rdE X.K xi W (den cf gl ia))) : PE X (.UnaryOp .USub a pos) (rdE X.K xi W (den cf gl (.op .neg [ia]))) :=
  PE.imp (pe_un un_neg ha) fun σ H Q h => run1 ok_neg σ H Q h
theorem to_one {o : Op} {t : TE} {f : D → V → Hp → VK → Prop} (σ : SL) (H : Hp) (Q : VK) (h : rdE X.K xi W (den cf gl (.op o [ia])) σ H Q) (g : V → Hp → Prop)
    (hg : ∀ {B io : List Addr} {H1 : Hp} {s1 : Store} {x d : D} {v : V}, StOk X.K H1 io B s1 → RV X.K H1 io B x v → opD s1 o [x] = some d → Fin X.K H1 io B s1 d Q → g v H1) : rdE X.K xi W (den cf gl ia) σ H g := by
  obtain ⟨B, io, r, st, ok, env, h⟩ := h
  simp only [den] at h
  rw [dens_one] at h
  refine ⟨B, io, r, st, ok, env, Post.split h fun x s1 v1 H1 io1 _ rv1 ok1 st1 h1 => ?_⟩
  obtain ⟨d, e, f⟩ := Post.op ok1 h1
  exact hg ok1 rv1 e f
theorem isN_fin {B io : List Addr} {H1 : Hp} {s1 : Store} {x d : D} {v : V} {Q : VK} (ok1 : StOk X.K H1 io B s1) (r1 : RV X.K H1 io B x v) (e : opD s1 .isN [x] = some d) (f : Fin X.K H1 io B s1 d Q) : Q (.bl (decide (v = .non))) H1 := by
  simp only [opD] at e; cases e
  rw [rv_non r1]
  exact Fin.bl ok1 f
theorem notN_fin {B io : List Addr} {H1 : Hp} {s1 : Store} {x d : D} {v : V} {Q : VK} (ok1 : StOk X.K H1 io B s1) (r1 : RV X.K H1 io B x v) (e : opD s1 .notN [x] = some d) (f : Fin X.K H1 io B s1 d Q) : Q (.bl (!decide (v = .non))) H1 := by
  simp only [opD] at e; cases e
  rw [rv_non r1]
  exact Fin.bl ok1 f
theorem e_isN {j : Nat} {p2 : Pos} (ha : PE X a (rdE X.K xi W (den cf gl ia))) : PE X (.Compare a [.Is] [.Constant .none j p2] pos) (rdE X.K xi W (den cf gl (.op .isN [ia]))) := by
  refine PE.imp (pe_cmpR op_isN ha pe_non (nomark _)) fun σ H Q h => ?_
  exact to_one (t := rdE X.K xi W (den cf gl ia)) (f := fun _ _ _ _ => True) σ H Q h _ fun ok1 r1 e f => ⟨rfl, isN_fin ok1 r1 e f⟩
theorem e_notN {j : Nat} {p2 : Pos} (ha : PE X a (rdE X.K xi W (den cf gl ia))) : PE X (.Compare a [.IsNot] [.Constant .none j p2] pos) (rdE X.K xi W (den cf gl (.op .notN [ia]))) := by
  refine PE.imp (pe_cmpR op_notN ha pe_non (nomark _)) fun σ H Q h => ?_
  exact to_one (t := rdE X.K xi W (den cf gl ia)) (f := fun _ _ _ _ => True) σ H Q h _ fun ok1 r1 e f => ⟨rfl, notN_fin ok1 r1 e f⟩
theorem isN_bl {o : Op} (ho : o = .isN ∨ o = .notN) {r : DEnv} {st s1 : Store} {d : D} (e : den cf gl (.op o [ia]) r st = .ok d s1) : ∃ k, d = .bl k := by
  simp only [den] at e
  rw [dens_one] at e
  cases q1 : den cf gl ia r st with
  | ok x s2 =>
    rw [q1] at e
    simp only [Res.bind] at e
    rcases ho with rfl | rfl <;> (simp only [opD, Res.of] at e; cases e; exact ⟨_, rfl⟩)
  | _ => rw [q1] at e; cases e
theorem t_none {o : Op} {cop : CmpOp} {j : Nat} {p2 : Pos} {r2 : R2} (ho : OpR X (compareOp cop) r2) (hm : ∀ b, behindInMarks cop b = false) (ha : PE X a (rdE X.K xi W (den cf gl ia))) (hO : o = .isN ∨ o = .notN)
    (hr : ∀ (σ : SL) (H : Hp) (Q : VK), rdE X.K xi W (den cf gl (.op o [ia])) σ H Q → tOp r2 (rdE X.K xi W (den cf gl ia)) (tC .non) σ H Q) : PT X (.Compare a [cop] [.Constant .none j p2] pos) (rdT X.K xi W (denT cf gl (.op o [ia]))) := by
  refine PT.imp (pt_cmpR ho ha pe_non (hm _)) fun σ H Q h => hr σ H _ ?_
  obtain ⟨B, io, r, st, ok, env, h⟩ := h
  refine ⟨B, io, r, st, ok, env, Post.split h fun x s1 v1 H1 io1 e1 r1 ok1 st1 h1 => ?_⟩
  obtain ⟨k, rfl⟩ := isN_bl hO e1
  cases r1
  exact ⟨k, rfl, h1.here (g := k) rfl ok1⟩
theorem t_isN {j : Nat} {p2 : Pos} (ha : PE X a (rdE X.K xi W (den cf gl ia))) : PT X (.Compare a [.Is] [.Constant .none j p2] pos) (rdT X.K xi W (denT cf gl (.op .isN [ia]))) :=
  t_none op_isN (fun b => nomark b) ha (.inl rfl) fun σ H Q h => to_one (t := rdE X.K xi W (den cf gl ia)) (f := fun _ _ _ _ => True) σ H Q h _ fun ok1 r1 e f => ⟨rfl, isN_fin ok1 r1 e f⟩
theorem t_notN {j : Nat} {p2 : Pos} (ha : PE X a (rdE X.K xi W (den cf gl ia))) : PT X (.Compare a [.IsNot] [.Constant .none j p2] pos) (rdT X.K xi W (denT cf gl (.op .notN [ia]))) :=
  t_none op_notN (fun b => nomark b) ha (.inr rfl) fun σ H Q h => to_one (t := rdE X.K xi W (den cf gl ia)) (f := fun _ _ _ _ => True) σ H Q h _ fun ok1 r1 e f => ⟨rfl, notN_fin ok1 r1 e f⟩

/-! ### displays, subscripts, slices, built-in calls -/
variable {es : List Expr} {ies : List Ex}
theorem e_tup {k : Nat} (ha : PA X es (rdA X.K xi W (dens cf gl ies))) : PE X (.Tuple es k pos) (rdE X.K xi W (den cf gl (.op .tup ies))) := by
  refine PE.imp (pe_tup ha) fun σ H Q h => runA (rA := fun xs H Q => xs.length ≤ sizeLine ∧ ∀ p, H p = none → Q (.ref p) (upd H p (.tup xs))) ?_ σ H Q h
  intro B io H st ds d vs Q ok r e f
  have e' : (if ds.length ≤ sizeLine then some (D.tup ds) else none) = some d := by
    cases ds <;> exact e
  split at e'
  · rename_i hl
    cases e'
    exact ⟨by rw [r.length]; exact hl, fun p hp => Fin.tup ok r f hp⟩
  · cases e'
theorem e_lst (ha : PA X es (rdA X.K xi W (dens cf gl ies))) : PE X (.List es pos) (rdE X.K xi W (den cf gl (.op .lst ies))) := by
  refine PE.imp (pe_lst ha) fun σ H Q h => runA (rA := fun xs H Q => xs.length ≤ sizeLine ∧ ∀ p, H p = none → Q (.ref p) (upd H p (.lst xs))) ?_ σ H Q h
  intro B io H st ds d vs Q ok r e f
  have e' : (if ds.length ≤ sizeLine then some (D.lst ds) else none) = some d := by
    cases ds <;> exact e
  split at e'
  · rename_i hl
    cases e'
    exact ⟨by rw [r.length]; exact hl, fun p hp => Fin.lst ok r f hp⟩
  · cases e'
theorem e_star {p : Pos} {k : Nat} (ha : PE X a (rdE X.K xi W (den cf gl ia))) (hr : PA X es (rdA X.K xi W (dens cf gl ies))) (hs : starEach (.Starred a p :: es) X.env = (true, eval a X.env) :: starEach es X.env) : PE X (.Tuple (.Starred a p :: es) k pos) (rdE X.K xi W (den cf gl (.star ia ies))) := by
  refine PE.imp (pe_tup (StX.pa_star ha hr hs)) fun σ H Q h => ?_
  obtain ⟨B, io, r, st, ok, env, h⟩ := h
  simp only [den] at h
  refine ⟨B, io, r, st, ok, env, Post.split h fun x s1 v1 H1 io1 _ r1 ok1 st1 h1 => ?_⟩
  cases x with
  | tup xs =>
    obtain ⟨q, vs, rfl, t, rr⟩ := r1
    refine ⟨q, vs, rfl, .inl t.sq, B, io1, r, s1, ok1, env.mono st1, Post.split h1 fun ds s2 ws H2 io2 _ r2 ok2 st2 h2 => ?_⟩
    split at h2
    · rename_i hl
      have rv := RVs.append (RVs.mono st2 _ _ rr) r2
      exact ⟨by rw [rv.length]; exact hl, fun p hp => Fin.tup ok2 rv (fun v H' r k s => h2 v H' io2 r k s) hp⟩
    · exact h2.elim
  | _ => exact h1.elim
theorem RVs.rev {K : PySem.W.Frag} {H : Hp} {io B : List Addr} : ∀ {ds : List D} {vs : List V}, RVs K H io B ds vs → RVs K H io B ds.reverse vs.reverse
  | [], _, h => by cases h; exact rfl
  | d :: ds, _, h => by
    obtain ⟨v, r, rfl, h1, h2⟩ := h
    rw [List.reverse_cons, List.reverse_cons]
    exact RVs.append (RVs.rev h2) ⟨v, [], rfl, h1, rfl⟩
theorem e_rev {k : Nat} {p1 p2 p3 : Pos} (ha : PE X a (rdE X.K xi W (den cf gl ia))) : PE X (.Subscript a (.Slice none none (some (.UnaryOp .USub (.Constant (.int 1) k p1) p2)) p3) pos) (rdE X.K xi W (den cf gl (.op .rev [ia]))) := by
  refine PE.imp (pe_revL ha) fun σ H Q h => ?_
  obtain ⟨B, io, r, st, ok, env, h⟩ := h
  simp only [den] at h
  rw [dens_one] at h
  refine ⟨B, io, r, st, ok, env, Post.split h fun x s1 v1 H1 io1 _ r1 ok1 st1 h1 => ?_⟩
  obtain ⟨d, e, f⟩ := Post.op ok1 h1
  cases q : isLst s1 x with
  | none => simp [opD, q] at e
  | some xs =>
    simp only [opD, q] at e; cases e
    obtain ⟨p, vs, rfl, hs, rr⟩ := lst_view ok1 r1 q
    exact ⟨p, vs, rfl, hs, fun l hl => Fin.lst ok1 rr.rev f hl⟩
theorem e_idx (ha : PE X a (rdE X.K xi W (den cf gl ia))) (hb : PE X b (rdE X.K xi W (den cf gl ib))) (hs : nonSlice b = true) : PE X (.Subscript a b pos) (rdE X.K xi W (den cf gl (.op .idx [ia, ib]))) :=
  PE.imp (pe_ix ix_idx ha hb (plainIx hs)) fun σ H Q h => run2 ok_idx σ H Q h
/-- f(..), f a built-in function that the module leaves as it is -/
theorem e_blt {x : Str} {idS : String} {o : Op} {p : Pos} {rA : List V → Hp → VK → Prop} (hc : CallR X (.builtin idS) rA) (hr : OkA X.K rA o) (hg : Gl X x) (hm : X.mg x = none) (hv : bootBuiltins x = some (.builtin idS)) (ha : PA X (a :: es) (rdA X.K xi W (dens cf gl ies)))
    (hn : x ≠ "__name__") (hdb : (x == ("__debug__" : Str)) = false) (h1 : nonStar a = true) (h2 : es.all nonStar = true) : PE X (.Call (.Name x p) (a :: es) [] pos) (rdE X.K xi W (den cf gl (.op o ies))) :=
  PE.imp (pe_callB hc hg hm hv ha hn hdb (starOne h1) (starAll h2)) fun σ H Q h => runA hr σ H Q h
theorem e_typ {x : Str} {T : String} {o : Op} {p : Pos} {rA : List V → Hp → VK → Prop} (hc : CallR X (.type T) rA) (hr : OkA X.K rA o) (hg : Gl X x) (hm : X.mg x = none) (hv : bootBuiltins x = some (.type T)) (ha : PA X (a :: es) (rdA X.K xi W (dens cf gl ies)))
    (hn : x ≠ "__name__") (hdb : (x == ("__debug__" : Str)) = false) (h1 : nonStar a = true) (h2 : es.all nonStar = true) : PE X (.Call (.Name x p) (a :: es) [] pos) (rdE X.K xi W (den cf gl (.op o ies))) :=
  PE.imp (pe_callTy hc hg hm hv ha hn hdb (starOne h1) (starAll h2)) fun σ H Q h => runA hr σ H Q h
theorem e_imp {x : Str} {idS : String} {o : Op} {p : Pos} {rA : List V → Hp → VK → Prop} (hc : CallR X (.builtin idS) rA) (hr : OkA X.K rA o) (hg : Gl X x) (hm : X.mg x = some (.builtin idS)) (ha : PA X (a :: es) (rdA X.K xi W (dens cf gl ies)))
    (hdb : (x == ("__debug__" : Str)) = false) (h1 : nonStar a = true) (h2 : es.all nonStar = true) : PE X (.Call (.Name x p) (a :: es) [] pos) (rdE X.K xi W (den cf gl (.op o ies))) :=
  PE.imp (pe_callBfun hc hg hm ha hdb (starOne h1) (starAll h2)) fun σ H Q h => runA hr σ H Q h
theorem e_isi {n : Nat} {x y : Str} {p p2 : Pos} (hn5 : n < 5) (hg : Gl X x) (hm : X.mg x = none) (hx : x = ("isinstance" : Str)) (hgy : Gl X y) (hmy : X.mg y = none) (hvy : bootBuiltins y = some (.type (tyN n))) (hny : y ≠ "__name__") (hdy : (y == ("__debug__" : Str)) = false)
    (ha : PE X a (rdE X.K xi W (den cf gl ia))) (h1 : nonStar a = true) : PE X (.Call (.Name x p) [a, .Name y p2] [] pos) (rdE X.K xi W (den cf gl (.op (.isi n) [ia]))) := by
  subst hx
  have hA : PA X [a, .Name y p2] (tCons (rdE X.K xi W (den cf gl ia)) (tCons (tC (.ty (tyN n))) tNil)) := pa_cons ha (pa_cons (pe_bltn hgy hmy hvy rfl hny hdy) pa_nil) (starOne h1)
  refine PE.imp (pe_callB call_isi hg hm boot_isinstance hA (by decide) (by decide) (starOne h1) rfl) fun σ H Q h => ?_
  refine to_one (t := rdE X.K xi W (den cf gl ia)) (f := fun _ _ _ _ => True) σ H Q h _ fun {B io H1 s1 x d v} ok1 r1 e f => ?_
  simp only [opD] at e; cases e
  exact isi_of hn5 ok1 r1 (Fin.bl ok1 f)
end
end L3

set_option maxHeartbeats 2000000
namespace L3
open L2 PySem PySem.Spec PyProof.Rows

/-! ### the store at a call's end -/
section
variable {K : PySem.W.Frag} {H : Hp} {io ex B : List Addr} {st : Store}
theorem notin_left {a : Addr} {l m : List Addr} (h : a ∉ l ++ m) : a ∉ l := fun z => h (List.mem_append_left _ z)
theorem Tp.shr {a : Addr} {vs : List V} (t : Tp K H (io ++ ex) B a vs) : Tp K H io B a vs := by
  rcases t with t | ⟨r, h1, h2⟩
  · exact .inl t
  · exact .inr ⟨r, notin_left h1, h2⟩
theorem Lr.shr {a : Addr} {vs : List V} (t : Lr K H (io ++ ex) B a vs) : Lr K H io B a vs := by
  rcases t with t | ⟨r, h1, h2⟩
  · exact .inl t
  · exact .inr ⟨r, notin_left h1, h2⟩
mutual
theorem RV.shr : ∀ (d : D) (v : V), d.pure = true → RV K H (io ++ ex) B d v → RV K H io B d v
  | .non, _, _, h => h
  | .bl _, _, _, h => h
  | .int _, _, _, h => h
  | .str _, _, _, h => h
  | .tup xs, _, p, h => by
    obtain ⟨a, vs, e, t, r⟩ := h
    exact ⟨a, vs, e, t.shr, RVs.shr xs vs (by simpa [D.pure] using p) r⟩
  | .lst xs, _, p, h => by
    obtain ⟨a, vs, e, ⟨t1, t2, t3⟩, r⟩ := h
    exact ⟨a, vs, e, ⟨t1, notin_left t2, t3⟩, RVs.shr xs vs (by simpa [D.pure] using p) r⟩
  | .loc n, _, p, _ => by simp [D.pure] at p
  | .scr ns, _, _, h => by
    obtain ⟨a, e, t⟩ := h
    exact ⟨a, e, t.shr⟩
theorem RVs.shr : ∀ (ds : List D) (vs : List V), pureAll ds = true → RVs K H (io ++ ex) B ds vs → RVs K H io B ds vs
  | [], _, _, h => h
  | d :: ds, _, p, h => by
    obtain ⟨v, r, e, h1, h2⟩ := h
    simp only [pureAll, Bool.and_eq_true] at p
    exact ⟨v, r, e, RV.shr d v p.1 h1, RVs.shr ds r p.2 h2⟩
end
mutual
theorem RV.fz (ok : StOk K H (io ++ ex) B st) : ∀ (d d' : D) (v : V), fz io.length st d = some d' → RV K H (io ++ ex) B d v → RV K H io B d' v
  | .non, _, _, e, h => by simp only [L3.fz] at e; cases e; exact h
  | .bl _, _, _, e, h => by simp only [L3.fz] at e; cases e; exact h
  | .int _, _, _, e, h => by simp only [L3.fz] at e; cases e; exact h
  | .str _, _, _, e, h => by simp only [L3.fz] at e; cases e; exact h
  | .scr ns, _, _, e, h => by
    simp only [L3.fz] at e; cases e
    obtain ⟨a, e, t⟩ := h
    exact ⟨a, e, t.shr⟩
  | .tup xs, _, _, e, h => by
    simp only [L3.fz] at e
    obtain ⟨a, vs, e1, t, r⟩ := h
    cases q : fzs io.length st xs with
    | none => rw [q] at e; cases e
    | some ys =>
      rw [q] at e; cases e
      exact ⟨a, vs, e1, t.shr, RVs.fz ok xs ys vs q r⟩
  | .lst xs, _, _, e, h => by
    simp only [L3.fz] at e
    obtain ⟨a, vs, e1, ⟨t1, t2, t3⟩, r⟩ := h
    cases q : fzs io.length st xs with
    | none => rw [q] at e; cases e
    | some ys =>
      rw [q] at e; cases e
      exact ⟨a, vs, e1, ⟨t1, notin_left t2, t3⟩, RVs.fz ok xs ys vs q r⟩
  | .loc n, _, _, e, h => by
    simp only [L3.fz] at e
    obtain ⟨a, e1, q⟩ := h
    split at e
    · rename_i hn
      cases e
      rw [List.getElem?_append_left hn] at q
      exact ⟨a, e1, q⟩
    · rename_i hn
      cases q2 : st[n]? with
      | none => rw [q2] at e; cases e
      | some xs =>
        rw [q2] at e; cases e
        obtain ⟨p, c, vs, h1, h2, h3⟩ := ok.cont n xs q2
        rw [q] at h1; cases h1
        have nd := ok.nd
        rw [List.nodup_append] at nd
        obtain ⟨n1, n2, n3⟩ := nd
        have hm : a ∈ io ++ ex := List.mem_of_getElem? q
        refine ⟨a, vs, e1, ⟨h2, fun z => ?_, fun z => n3 a hm a z rfl⟩, RVs.shr xs vs p h3⟩
        rw [List.getElem?_append_right (Nat.le_of_not_lt hn)] at q
        rw [List.nodup_append] at n1
        exact n1.2.2 a z a (List.mem_of_getElem? q) rfl
theorem RVs.fz (ok : StOk K H (io ++ ex) B st) : ∀ (ds ds' : List D) (vs : List V), fzs io.length st ds = some ds' → RVs K H (io ++ ex) B ds vs → RVs K H io B ds' vs
  | [], _, _, e, h => by simp only [L3.fzs] at e; cases e; exact h
  | d :: ds, _, _, e, h => by
    obtain ⟨v, r, e1, h1, h2⟩ := h
    simp only [L3.fzs] at e
    split at e
    · rename_i y ys q1 q2
      cases e
      exact ⟨v, r, e1, RV.fz ok d y v q1 h1, RVs.fz ok ds ys r q2 h2⟩
    · cases e
end
theorem StOk.cutBack (ok : StOk K H (io ++ ex) B st) : StOk K H io B (st.take io.length) := by
  refine ⟨?_, ?_, fun n xs h => ?_, ok.bt⟩
  · have := ok.len
    rw [List.length_append] at this
    rw [List.length_take]; omega
  · refine ok.nd.sublist ?_
    exact List.Sublist.append (List.sublist_append_left io ex) (List.Sublist.refl B)
  · have hn : n < io.length := by
      have h2 := (List.getElem?_eq_some_iff.mp h).1
      rw [List.length_take] at h2; omega
    rw [List.getElem?_take_of_lt hn] at h
    obtain ⟨p, a, vs, h1, h2, h3⟩ := ok.cont n xs h
    rw [List.getElem?_append_left hn] at h1
    exact ⟨p, a, vs, h1, h2, RVs.shr xs vs p h3⟩
end

section
variable {K : PySem.W.Frag} {xi : XI} {W : WX} {B io : List Addr} {σ : SL} {H : Hp} {st : Store} {Q : VK}
theorem Stp.back {io' : List Addr} {H' : Hp} (s : Stp io H io' H') : Stp io H io H' := ⟨s.fr, [], by simp, fun a h => by cases h⟩
theorem Post.unafter {σ' : SL} {f : Res D} (ok : StOk K H io B st) (h : Post K xi W (RepE K B) B σ H io (after st f) Q) : Post K xi (fun c d _ H => WE W σ c d H) (RepE K B) B σ' H io f Q := by
  cases f with
  | stuck => exact h
  | ok d s2 =>
    intro v H' io' r ok2 s
    obtain ⟨ex, rfl, hex⟩ := s.ext
    simp only [after] at h
    rw [← ok.len] at h
    cases q : fz io.length s2 d with
    | none => rw [q] at h; exact h.elim
    | some d' =>
      rw [q] at h
      exact h v H' io (RV.fz ok2 d d' v q r) ok2.cutBack s.back
  | exc c x s2 =>
    intro cls dd H' io' e ok2 s
    obtain ⟨ex, rfl, hex⟩ := s.ext
    simp only [after] at h
    rw [← ok.len] at h
    cases q : fz io.length s2 x with
    | none => rw [q] at h; exact h.elim
    | some x' =>
      rw [q] at h
      refine h cls dd H' io ?_ ok2.cutBack s.back
      obtain ⟨e1, e2⟩ := e
      refine ⟨e1, ?_⟩
      cases qf : xi.fld c with
      | none => trivial
      | some f =>
        rw [qf] at e2
        obtain ⟨dx, v, h1, h2, h3, h4⟩ := e2
        exact ⟨dx, v, h1, h2, notin_left h3, RV.fz ok2 x x' v q h4⟩
theorem Post.unafterR {σ' : SL} {f : Res D} (ok : StOk K H io B st) (h : Post K xi W (RepE K B) B σ H io (afterR st f) Q) : Post K xi (fun c d _ H => WE W σ c d H) (RepE K B) B σ' H io f Q := by
  cases f with
  | stuck => exact h
  | ok d s2 =>
    intro v H' io' r ok2 s
    obtain ⟨ex, rfl, hex⟩ := s.ext
    cases d with
    | loc n =>
      simp only [afterR] at h
      rw [← ok.len] at h
      by_cases hn : io.length ≤ n
      · rw [if_pos hn] at h
        cases q : s2[n]? with
        | none => rw [q] at h; exact h.elim
        | some xs =>
          rw [q] at h
          obtain ⟨a, rfl, ha⟩ := r
          obtain ⟨p, c, vs, h1, h2, h3⟩ := ok2.cont n xs q
          rw [ha] at h1; cases h1
          have ha' := ha
          rw [List.getElem?_append_right hn] at ha'
          have hax : a ∈ ex := List.mem_of_getElem? ha'
          have nd := ok2.nd
          rw [List.nodup_append] at nd
          obtain ⟨n1, n2, n3⟩ := nd
          have n1' := n1
          rw [List.nodup_append] at n1'
          have haio : a ∉ io := fun z => n1'.2.2 a z a hax rfl
          have haB : a ∉ B := fun z => n3 a (List.mem_of_getElem? ha) a z rfl
          have cb := ok2.cutBack
          have hs : Stp io H' (io ++ [a]) H' → True := fun _ => trivial
          -- what the older lists hold does not name a
          have aux : ∀ (ds : List D) (ws : List V), pureAll ds = true → RVs K H' (io ++ ex) B ds ws → RVs K H' (io ++ [a]) B ds ws := by
            have tr : ∀ c, c ∉ io ++ ex → c ∉ io ++ [a] := fun c hc z => by
              rcases List.mem_append.mp z with z | z
              · exact hc (List.mem_append_left _ z)
              · have : c = a := by simpa using z
                subst this
                exact hc (List.mem_append_right _ hax)
            have big : (∀ (d : D) (w : V), d.pure = true → RV K H' (io ++ ex) B d w → RV K H' (io ++ [a]) B d w) ∧ True := ⟨fun d w pd hd => by
              have key : ∀ (n : Nat) (d : D) (w : V), sizeOf d ≤ n → d.pure = true → RV K H' (io ++ ex) B d w → RV K H' (io ++ [a]) B d w := by
                intro n
                induction n with
                | zero => intro d w hs; cases d <;> simp at hs
                | succ n ih =>
                  have ihs : ∀ (ds : List D) (ws : List V), sizeOf ds ≤ n → pureAll ds = true → RVs K H' (io ++ ex) B ds ws → RVs K H' (io ++ [a]) B ds ws := by
                    intro ds
                    induction ds with
                    | nil => intro ws _ _ h; exact h
                    | cons d ds ih2 =>
                      intro ws hs p h
                      obtain ⟨v, r, e, h1, h2⟩ := h
                      simp only [pureAll, Bool.and_eq_true] at p
                      simp at hs
                      exact ⟨v, r, e, ih d v (by omega) p.1 h1, ih2 r (by omega) p.2 h2⟩
                  intro d w hs pd hd
                  cases d with
                  | tup xs =>
                    obtain ⟨c, vs, e, t, r⟩ := hd
                    simp at hs
                    refine ⟨c, vs, e, ?_, ihs xs vs (by omega) (by simpa [D.pure] using pd) r⟩
                    rcases t with t | ⟨t1, t2, t3⟩
                    · exact .inl t
                    · exact .inr ⟨t1, tr c t2, t3⟩
                  | lst xs =>
                    obtain ⟨c, vs, e, ⟨t1, t2, t3⟩, r⟩ := hd
                    simp at hs
                    exact ⟨c, vs, e, ⟨t1, tr c t2, t3⟩, ihs xs vs (by omega) (by simpa [D.pure] using pd) r⟩
                  | scr ms =>
                    obtain ⟨c, e, t⟩ := hd
                    refine ⟨c, e, ?_⟩
                    rcases t with t | ⟨t1, t2, t3⟩
                    · exact .inl t
                    · exact .inr ⟨t1, tr c t2, t3⟩
                  | loc m => simp [D.pure] at pd
                  | _ => exact hd
              exact key (sizeOf d) d w (Nat.le_refl _) pd hd, trivial⟩
            intro ds
            induction ds with
            | nil => intro ws _ h; exact h
            | cons d ds ih =>
              intro ws p h
              obtain ⟨v, r, e, h1, h2⟩ := h
              simp only [pureAll, Bool.and_eq_true] at p
              exact ⟨v, r, e, big.1 d v p.1 h1, ih r p.2 h2⟩
          refine h (.ref a) H' (io ++ [a]) ⟨a, rfl, ?_⟩ ⟨?_, ?_, fun m ys hm => ?_, ok2.bt⟩ ⟨s.fr, [a], rfl, fun c hc => ?_⟩
          · rw [List.getElem?_append_right (Nat.le_refl _)]
            simp
          · rw [List.length_append, List.length_append, List.length_take]
            have := ok2.len
            rw [List.length_append] at this
            simp; omega
          · rw [List.nodup_append]
            refine ⟨?_, n2, fun c hc e he => ?_⟩
            · rw [List.nodup_append]
              exact ⟨n1'.1, by simp, fun c hc e he => by
                have : e = a := by simpa using he
                subst this
                exact fun z => haio (z ▸ hc)⟩
            · rcases List.mem_append.mp hc with z | z
              · exact n3 c (List.mem_append_left _ z) e he
              · have : c = a := by simpa using z
                subst this
                exact n3 c (List.mem_append_right _ hax) e he
          · by_cases hm2 : m < io.length
            · have hl : (s2.take io.length).length = io.length := by
                rw [List.length_take]
                have := ok2.len
                rw [List.length_append] at this
                omega
              rw [List.getElem?_append_left (by omega), List.getElem?_take_of_lt hm2] at hm
              obtain ⟨p', c, ws, k1, k2, k3⟩ := ok2.cont m ys hm
              refine ⟨p', c, ws, ?_, k2, aux ys ws p' k3⟩
              rw [List.getElem?_append_left hm2] at k1 ⊢
              exact k1
            · have hl : (s2.take io.length).length = io.length := by
                rw [List.length_take]
                have := ok2.len
                rw [List.length_append] at this
                omega
              rw [List.getElem?_append_right (by omega), hl] at hm
              have hm3 : m = io.length := by
                have := (List.getElem?_eq_some_iff.mp hm).1
                simp at this; omega
              subst hm3
              simp at hm
              subst hm
              refine ⟨p, a, vs, ?_, h2, aux xs vs p h3⟩
              rw [List.getElem?_append_right (Nat.le_refl _)]
              simp
          · have : c = a := by simpa using hc
            subst this
            exact hex c hax
      · rw [if_neg hn] at h; exact h.elim
    | _ => exact h.elim
  | exc c x s2 => exact Post.unafter (f := .exc c x s2) ok h
end

/-! ### an own def's promise -/
def spOf (K : PySem.W.Frag) (xi : XI) (cf : Nat → List D → Store → Res D) (j np : Nat) : Sp := fun vs H Q E => vs.length = np ∧ ∃ B io st ds σ, StOk K H io B st ∧ RVs K H io B ds vs ∧ Post K xi (fun c d _ H => E c d H) (RepE K B) B σ H io (cf j ds st) Q

section
variable {xi : XI} {W : WX} {cf : Nat → List D → Store → Res D} {gl : Nat → Option D} {X : Cx} {a b c : Expr} {ia ib ic : Ex} {pos p : Pos} {es : List Expr} {ies iks : List Ex} {kws : List Keyword} {k j : Nat} {f : Addr} {fd : FuncData} {ps : List Str} {x : Str}

theorem dens_len : ∀ {ies : List Ex} {r : DEnv} {st s1 : Store} {ds : List D}, dens cf gl ies r st = .ok ds s1 → ds.length = ies.length
  | [], _, _, _, _, e => by simp only [dens] at e; cases e; rfl
  | i :: ies, r, st, s1, ds, e => by
    simp only [dens] at e
    cases q1 : den cf gl i r st with
    | ok d s2 =>
      rw [q1] at e
      simp only [Res.bind] at e
      cases q2 : dens cf gl ies r s2 with
      | ok ds' s3 =>
        rw [q2] at e
        cases e
        simp [dens_len q2]
      | _ => rw [q2] at e; cases e
    | _ => rw [q1] at e; cases e
theorem pa_len {es : List Expr} {ies : List Ex} (h : ies.length = es.length) (ha : PA X es (rdA X.K xi W (dens cf gl ies))) : PA X es (rdA X.K xi W (dens cf gl ies)) := ha

theorem e_call (F : FnG X.prog X.w X.K X.mg X.base k f fd ps (spOf X.K xi cf j ps.length)) (hg : X.A.guards = some []) (hr : Room k X.A) (gx : Gl X x) (hm : X.mg x = some (.ref f)) (hk : PySem.W.keepIn X.K (.ref f) = true) (hb : Binds X.K fd ps []) (tk : Takes X W)
    (ha : PA X (a :: es) (rdA X.K xi W (dens cf gl ies))) (hl : ies.length = ps.length) (hdb : (x == ("__debug__" : Str)) = false) (h1 : nonStar a = true) (h2 : es.all nonStar = true) : PE X (.Call (.Name x p) (a :: es) [] pos) (rdE X.K xi W (den cf gl (.call j ies []))) := by
  refine PE.imp (pe_callG F hg hr gx hm hk hb tk ha hdb (starOne h1) (starAll h2)) fun σ H Q h => ?_
  obtain ⟨B, io, r, st, ok, env, h⟩ := h
  simp only [den] at h
  refine ⟨B, io, r, st, ok, env, Post.splitF ok .refl h fun ds s1 vs H1 io1 e1 rv1 ok1 st1 h1 => ?_⟩
  simp only [dens, Res.bind, List.append_nil] at h1
  exact ⟨by rw [rv1.length, dens_len e1, hl], B, io1, s1, ds, σ, ok1, rv1, Post.from ok1 st1 (Post.unafter (σ' := σ) ok h1)⟩
theorem e_callr (F : FnG X.prog X.w X.K X.mg X.base k f fd ps (spOf X.K xi cf j ps.length)) (hg : X.A.guards = some []) (hr : Room k X.A) (gx : Gl X x) (hm : X.mg x = some (.ref f)) (hk : PySem.W.keepIn X.K (.ref f) = true) (hb : Binds X.K fd ps []) (tk : Takes X W)
    (ha : PA X (a :: es) (rdA X.K xi W (dens cf gl ies))) (hl : ies.length = ps.length) (hdb : (x == ("__debug__" : Str)) = false) (h1 : nonStar a = true) (h2 : es.all nonStar = true) : PE X (.Call (.Name x p) (a :: es) [] pos) (rdE X.K xi W (den cf gl (.callr j ies []))) := by
  refine PE.imp (pe_callG F hg hr gx hm hk hb tk ha hdb (starOne h1) (starAll h2)) fun σ H Q h => ?_
  obtain ⟨B, io, r, st, ok, env, h⟩ := h
  simp only [den] at h
  refine ⟨B, io, r, st, ok, env, Post.splitF ok .refl h fun ds s1 vs H1 io1 e1 rv1 ok1 st1 h1 => ?_⟩
  simp only [dens, Res.bind, List.append_nil] at h1
  exact ⟨by rw [rv1.length, dens_len e1, hl], B, io1, s1, ds, σ, ok1, rv1, Post.from ok1 st1 (Post.unafterR (σ' := σ) ok h1)⟩
theorem e_call0 (F : FnG X.prog X.w X.K X.mg X.base k f fd [] (spOf X.K xi cf j 0)) (hg : X.A.guards = some []) (hr : Room k X.A) (gx : Gl X x) (hm : X.mg x = some (.ref f)) (hk : PySem.W.keepIn X.K (.ref f) = true) (hb : Binds X.K fd [] []) (tk : Takes X W)
    (hdb : (x == ("__debug__" : Str)) = false) : PE X (.Call (.Name x p) [] [] pos) (rdE X.K xi W (den cf gl (.call j [] []))) := by
  refine PE.imp (pe_callG0 F hg hr gx hm hk hb tk hdb) fun σ H Q h => ?_
  obtain ⟨B, io, r, st, ok, env, h⟩ := h
  simp only [den, dens, Res.bind, List.append_nil] at h
  exact ⟨rfl, B, io, st, [], σ, ok, rfl, Post.unafter ok h⟩
/-- by keywords -/
theorem k_nil : PK X [] (rdA X.K xi W (dens cf gl [])) := ⟨fun pos pins s σ H Q I h => pk_nil.run pos pins s σ H Q I (by
  obtain ⟨B, io, r, st, ok, env, h⟩ := h
  simp only [dens] at h
  exact h.here (g := []) rfl ok)⟩
theorem k_cons {nm : Option Str} {kp : Pos} (ha : PE X a (rdE X.K xi W (den cf gl ia))) (hr : PK X kws (rdA X.K xi W (dens cf gl iks))) : PK X (⟨nm, a, kp⟩ :: kws) (rdA X.K xi W (dens cf gl (ia :: iks))) := ⟨fun pos pins s σ H Q I h => (pk_cons ha hr).run pos pins s σ H Q I (by
  obtain ⟨B, io, r, st, ok, env, h⟩ := h
  simp only [dens] at h
  refine ⟨B, io, r, st, ok, env, Post.split h fun x s1 v1 H1 io1 _ r1 ok1 st1 h1 => ?_⟩
  refine ⟨B, io1, r, s1, ok1, env.mono st1, Post.split h1 fun ys s2 vs H2 io2 _ r2 ok2 st2 h2 => ?_⟩
  exact h2.here (g := v1 :: vs) ⟨v1, vs, rfl, RV.mono st2 _ _ r1, r2⟩ ok2)⟩
def kwNames : List Keyword → List (Option Str)
  | [] => []
  | ⟨n, _, _⟩ :: r => n :: kwNames r
theorem kw_names {env : Env} : ∀ {kws : List Keyword} {ns : List Str}, kwNames kws = ns.map some → (backToKw pos (keywordEach kws env)).all (·.1.isSome) = true ∧ (backToKw pos (keywordEach kws env)).filterMap (·.1) = ns ∧ (backToKw pos (keywordEach kws env)).any (·.1.isNone) = false
  | [], [], _ => ⟨rfl, rfl, rfl⟩
  | [], _ :: _, h => by cases h
  | ⟨n, v, q⟩ :: r, [], h => by cases h
  | ⟨n, v, q⟩ :: r, m :: ns, h => by
    simp only [kwNames, List.map_cons, List.cons.injEq] at h
    obtain ⟨rfl, h⟩ := h
    obtain ⟨h1, h2, h3⟩ := kw_names (env := env) (kws := r) h
    refine ⟨?_, ?_, ?_⟩
    · show (true && (backToKw pos (keywordEach r env)).all (·.1.isSome)) = true
      rw [h1]; rfl
    · show m :: (backToKw pos (keywordEach r env)).filterMap (·.1) = _
      rw [h2]
    · show (false || (backToKw pos (keywordEach r env)).any (·.1.isNone)) = false
      rw [h3]; rfl
theorem e_callk {n : Nat} (F : FnG X.prog X.w X.K X.mg X.base k f fd ps (spOf X.K xi cf j ps.length)) (hg : X.A.guards = some []) (hr : Room k X.A) (gx : Gl X x) (hm : X.mg x = some (.ref f)) (hk : PySem.W.keepIn X.K (.ref f) = true) (hb : KB X.K fd ps n) (tk : Takes X W)
    (ha : PA X (a :: es) (rdA X.K xi W (dens cf gl ies))) (hkw : PK X kws (rdA X.K xi W (dens cf gl iks))) (hn : ies.length = n) (hle : n ≤ ps.length) (hl : iks.length = ps.length - n) (hns : kwNames kws = (ps.drop n).map some)
    (hdb : (x == ("__debug__" : Str)) = false) (h1 : nonStar a = true) (h2 : es.all nonStar = true) : PE X (.Call (.Name x p) (a :: es) kws pos) (rdE X.K xi W (den cf gl (.call j ies iks))) := by
  obtain ⟨k1, k2, k3⟩ := kw_names (pos := pos) (env := X.env) hns
  have hst : (backTo pos (starEach (a :: es) X.env)).any (·.1) = false := starAll (by rw [List.all_cons, h1, h2]; rfl)
  refine PE.imp (pe_callGK F hg hr gx hm hk hb tk ha hkw k1 k2 hdb (starOne h1) (by rw [hst, k3]; rfl)) fun σ H Q h => ?_
  obtain ⟨B, io, r, st, ok, env, h⟩ := h
  simp only [den] at h
  refine ⟨B, io, r, st, ok, env, Post.splitF ok .refl h fun ds s1 vs H1 io1 e1 rv1 ok1 st1 h1 => ?_⟩
  refine ⟨B, io1, r, s1, ok1, env.mono st1, Post.splitF ok1 st1 h1 fun zs s2 ws H2 io2 e2 rv2 ok2 st2 h2 => ?_⟩
  have l1 := dens_len e1
  have l2 := dens_len e2
  refine ⟨by rw [rv1.length]; omega, by rw [rv2.length]; omega, by rw [List.length_append, rv1.length, rv2.length]; omega, B, io2, s2, ds ++ zs, σ, ok2, RVs.append (RVs.mono st2 _ _ rv1) rv2, Post.from ok2 (st1.trans ok1 st2) (Post.unafter (σ' := σ) ok h2)⟩
theorem e_callk0 (F : FnG X.prog X.w X.K X.mg X.base k f fd ps (spOf X.K xi cf j ps.length)) (hg : X.A.guards = some []) (hr : Room k X.A) (gx : Gl X x) (hm : X.mg x = some (.ref f)) (hk : PySem.W.keepIn X.K (.ref f) = true) (hb : KB X.K fd ps 0) (tk : Takes X W)
    (hkw : PK X kws (rdA X.K xi W (dens cf gl iks))) (hl : iks.length = ps.length) (hns : kwNames kws = ps.map some)
    (hdb : (x == ("__debug__" : Str)) = false) : PE X (.Call (.Name x p) [] kws pos) (rdE X.K xi W (den cf gl (.call j [] iks))) := by
  obtain ⟨k1, k2, k3⟩ := kw_names (pos := pos) (env := X.env) hns
  refine PE.imp (pe_callGK0 F hg hr gx hm hk hb tk hkw k1 k2 hdb (by rw [k3]; rfl)) fun σ H Q h => ?_
  obtain ⟨B, io, r, st, ok, env, h⟩ := h
  simp only [den, dens, Res.bind] at h
  refine ⟨B, io, r, st, ok, env, Post.splitF ok .refl (show Post X.K xi W (RepE X.K B) B σ H io ((dens cf gl iks r st).bind fun zs s => after st (cf j ([] ++ zs) s)) Q from h) fun zs s2 ws H2 io2 e2 rv2 ok2 st2 h2 => ?_⟩
  refine ⟨rfl, by rw [rv2.length, dens_len e2]; exact hl, by rw [List.nil_append, rv2.length, dens_len e2]; exact hl, B, io2, s2, zs, σ, ok2, rv2, Post.from ok2 st2 (Post.unafter (σ' := σ) ok h2)⟩

/-! ### slices -/
theorem dens_three {ia ib ic : Ex} (r : DEnv) (st : Store) {β : Type} (k : List D → Store → Res β) : (dens cf gl [ia, ib, ic] r st).bind k = (den cf gl ia r st).bind fun x s1 => (den cf gl ib r s1).bind fun y s2 => (den cf gl ic r s2).bind fun z s3 => k [x, y, z] s3 := by
  simp only [dens]
  cases den cf gl ia r st with
  | ok x s1 =>
    simp only [Res.bind]
    cases den cf gl ib r s1 with
    | ok y s2 =>
      simp only [Res.bind]
      cases den cf gl ic r s2 <;> rfl
    | _ => rfl
  | _ => rfl
theorem e_cut00 {p2 : Pos} (ha : PE X a (rdE X.K xi W (den cf gl ia))) : PE X (.Subscript a (.Slice none none none p2) pos) (rdE X.K xi W (den cf gl (.op (.cut false false) [ia]))) := by
  refine PE.imp (pe_slice sl_cut ha po_none po_none) fun σ H Q h => ?_
  refine to_one (t := rdE X.K xi W (den cf gl ia)) (f := fun _ _ _ _ => True) σ H Q h _ fun ok1 r1 e f => ?_
  simp only [opD] at e
  exact ok_cut ok1 r1 e f
theorem e_cut10 {p2 : Pos} (ha : PE X a (rdE X.K xi W (den cf gl ia))) (hb : PE X b (rdE X.K xi W (den cf gl ib))) : PE X (.Subscript a (.Slice (some b) none none p2) pos) (rdE X.K xi W (den cf gl (.op (.cut true false) [ia, ib]))) := by
  refine PE.imp (pe_slice sl_cut ha (po_some hb) po_none) fun σ H Q h => ?_
  obtain ⟨B, io, r, st, ok, env, h⟩ := h
  simp only [den] at h
  rw [dens_two] at h
  refine ⟨B, io, r, st, ok, env, Post.split h fun x s1 v1 H1 io1 _ r1 ok1 st1 h1 => ?_⟩
  refine ⟨B, io1, r, s1, ok1, env.mono st1, Post.split h1 fun y s2 v2 H2 io2 _ r2' ok2 st2 h2 => ?_⟩
  obtain ⟨d, e, f⟩ := Post.op ok2 h2
  cases y <;> try (simp only [opD] at e; cases e; done)
  cases r2'
  exact ⟨_, rfl, ok_cut ok2 (RV.mono st2 _ _ r1) e f⟩
theorem e_cut01 {p2 : Pos} (ha : PE X a (rdE X.K xi W (den cf gl ia))) (hb : PE X b (rdE X.K xi W (den cf gl ib))) : PE X (.Subscript a (.Slice none (some b) none p2) pos) (rdE X.K xi W (den cf gl (.op (.cut false true) [ia, ib]))) := by
  refine PE.imp (pe_slice sl_cut ha po_none (po_some hb)) fun σ H Q h => ?_
  obtain ⟨B, io, r, st, ok, env, h⟩ := h
  simp only [den] at h
  rw [dens_two] at h
  refine ⟨B, io, r, st, ok, env, Post.split h fun x s1 v1 H1 io1 _ r1 ok1 st1 h1 => ?_⟩
  refine ⟨B, io1, r, s1, ok1, env.mono st1, Post.split h1 fun y s2 v2 H2 io2 _ r2' ok2 st2 h2 => ?_⟩
  obtain ⟨d, e, f⟩ := Post.op ok2 h2
  cases y <;> try (simp only [opD] at e; cases e; done)
  cases r2'
  exact ⟨_, rfl, ok_cut ok2 (RV.mono st2 _ _ r1) e f⟩
mutual
/-- no call stands in it -/
def noEx : Ex → Bool
  | .var _ => true
  | .con _ => true
  | .glo _ => true
  | .op _ es => noExs es
  | _ => false
def noExs : List Ex → Bool
  | [] => true
  | e :: es => noEx e && noExs es
end
mutual
theorem noEx_den : ∀ (i : Ex) (r : DEnv) (st : Store) (c : Nat) (x : D) (s : Store), noEx i = true → den cf gl i r st ≠ .exc c x s
  | .var i, r, st, c, x, s, _, e => by
    simp only [den] at e
    split at e <;> cases e
  | .con d, r, st, c, x, s, _, e => by simp only [den] at e; cases e
  | .glo j, r, st, c, x, s, _, e => by
    simp only [den] at e
    cases q : gl j <;> rw [q] at e <;> cases e
  | .op o es, r, st, c, x, s, h, e => by
    simp only [den] at e
    cases q : dens cf gl es r st with
    | stuck => rw [q] at e; cases e
    | ok ds s1 =>
      rw [q] at e
      simp only [Res.bind] at e
      cases q2 : opD s1 o ds <;> rw [q2] at e <;> cases e
    | exc c' x' s' => exact noExs_dens es r st _ _ _ (by simpa [noEx] using h) q
  | .nott _, _, _, _, _, _, h, _ => by simp [noEx] at h
  | .and2 _ _, _, _, _, _, _, h, _ => by simp [noEx] at h
  | .or2 _ _, _, _, _, _, _, h, _ => by simp [noEx] at h
  | .ifx _ _ _, _, _, _, _, _, h, _ => by simp [noEx] at h
  | .call _ _ _, _, _, _, _, _, h, _ => by simp [noEx] at h
  | .callr _ _ _, _, _, _, _, _, h, _ => by simp [noEx] at h
  | .comp _ _ _ _ _, _, _, _, _, _, h, _ => by simp [noEx] at h
  | .comp2 _ _ _ _ _ _ _, _, _, _, _, _, h, _ => by simp [noEx] at h
  | .ref _, _, _, _, _, _, h, _ => by simp [noEx] at h
  | .star _ _, _, _, _, _, _, h, _ => by simp [noEx] at h
theorem noExs_dens : ∀ (is : List Ex) (r : DEnv) (st : Store) (c : Nat) (x : D) (s : Store), noExs is = true → dens cf gl is r st ≠ .exc c x s
  | [], r, st, c, x, s, _, e => by simp only [dens] at e; cases e
  | i :: is, r, st, c, x, s, h, e => by
    simp only [noExs, Bool.and_eq_true] at h
    simp only [dens] at e
    cases q : den cf gl i r st with
    | stuck => rw [q] at e; cases e
    | exc c' x' s' => exact noEx_den i r st _ _ _ h.1 q
    | ok d s1 =>
      rw [q] at e
      simp only [Res.bind] at e
      cases q2 : dens cf gl is r s1 with
      | stuck => rw [q2] at e; cases e
      | ok ds s2 => rw [q2] at e; cases e
      | exc c' x' s' => exact noExs_dens is r s1 _ _ _ h.2 q2
end
theorem e_cut11 {p2 : Pos} (ha : PE X a (rdE X.K xi W (den cf gl ia))) (hb : PE X b (rdE X.K xi W (den cf gl ib))) (hc : PE X c (rdE X.K xi W (den cf gl ic))) (hno : noEx ic = true) : PE X (.Subscript a (.Slice (some b) (some c) none p2) pos) (rdE X.K xi W (den cf gl (.op (.cut true true) [ia, ib, ic]))) := by
  refine PE.imp (pe_slice sl_cut ha (po_some hb) (po_some hc)) fun σ H Q h => ?_
  obtain ⟨B, io, r, st, ok, env, h⟩ := h
  simp only [den] at h
  rw [dens_three] at h
  refine ⟨B, io, r, st, ok, env, Post.split h fun x s1 v1 H1 io1 _ r1 ok1 st1 h1 => ?_⟩
  refine ⟨B, io1, r, s1, ok1, env.mono st1, Post.split h1 fun y s2 v2 H2 io2 _ r2' ok2 st2 h2 => ?_⟩
  have key : ∃ i, y = .int i := by
    cases q : den cf gl ic r s2 with
    | stuck => rw [q] at h2; exact h2.elim
    | ok z s3 =>
      rw [q] at h2
      obtain ⟨d, e, _⟩ := Post.of h2
      cases y <;> try (cases z <;> simp only [opD] at e <;> cases e; done)
      exact ⟨_, rfl⟩
    | exc c' x' s' => exact absurd q (noEx_den ic r s2 _ _ _ hno)
  obtain ⟨i, rfl⟩ := key
  cases r2'
  refine ⟨_, rfl, B, io2, r, s2, ok2, (env.mono st1).mono st2, Post.split h2 fun z s3 v3 H3 io3 _ r3 ok3 st3 h3 => ?_⟩
  obtain ⟨d, e, f⟩ := Post.op ok3 h3
  cases z <;> try (simp only [opD] at e; cases e; done)
  cases r3
  exact ⟨_, rfl, ok_cut ok3 (RV.mono st3 _ _ (RV.mono st2 _ _ r1)) e f⟩
end
end L3

set_option maxHeartbeats 2000000
/-! ### zip over a list and a tuple in any mix -/
namespace L3
open L2 PySem PySem.Spec PyProof.Rows
/-- true: a tuple; false: a list -/
def SqZ (K : PySem.W.Frag) (H : Hp) : Bool → Addr → List V → Prop
  | true, a, xs => SqT K H a xs
  | false, a, xs => SqL K H a xs
def itZ : Bool → Heap → Addr → Addr → Nat → Prop
  | true, h, it, l, i => h.IsTupleIter it l i
  | false, h, it, l, i => h.IsListIter it l i
def isZ : Bool → Heap → Addr → Array Value → Prop
  | true, h, l, xs => h.IsTuple l xs
  | false, h, l, xs => h.IsList l xs
def oZ : Bool → Addr → Obj
  | true, l => { cls := .type "tuple_iterator", data := .fields #[.ref l, .int 0 0] }
  | false, l => { cls := .type "list_iterator", data := .fields #[.ref l, .int 0 0] }
def ItZ (K : PySem.W.Frag) (k1 k2 : Bool) (a b : Addr) : It where
  go i H := ∃ (us vs : List V) (u v : V), SqZ K H k1 a us ∧ SqZ K H k2 b vs ∧ us[i]? = some u ∧ vs[i]? = some v
  yld i H p H' := ∃ T u v, p = .ref T ∧ H T = none ∧ H' = upd H T (.tup [u, v]) ∧ (∀ us, SqZ K H k1 a us → us[i]? = some u) ∧ ∀ vs, SqZ K H k2 b vs → vs[i]? = some v
  stop i H := ∃ us vs : List V, SqZ K H k1 a us ∧ SqZ K H k2 b vs ∧ i ≤ us.length ∧ i ≤ vs.length ∧ (i = us.length ∨ i = vs.length)
section
variable {prog : Program} {w : World} {A : Around} {X : Cx} {pins : List (Addr × Obj)} {σ : SL} {H : Hp} {s : Shared} {k : Bool}
theorem drawsZ (hh : A.handled = none) (it l : Addr) (hne : l ≠ it) (items : Array Value) : Draws prog w A it [it, l] items.size (fun i v => items[i]? = some v) (fun i h => itZ k h it l i ∧ isZ k h l items) := by
  cases k
  · exact Draws.list hh it l hne items
  · exact Draws.tuple hh it l hne items
theorem beginsZ (l : Addr) (items : Array Value) : Begins (.ref l) (oZ k l) fun h => isZ k h l items := by
  cases k
  · exact begins_list l items
  · exact begins_tuple l items
theorem itZ_new {h : Heap} {it l : Addr} (e : h.get? it = some (oZ k l)) : itZ k h it l 0 := by
  cases k <;> exact ⟨_, e, rfl, rfl⟩
theorem itZ.at {h h' : Heap} {it l : Addr} {i : Nat} (x : itZ k h it l i) (e : ∀ o, h.get? it = some o → h'.get? it = some o) : itZ k h' it l i := by
  cases k
  · exact Heap.IsListIter.at x e
  · exact Heap.IsTupleIter.at x e
theorem itZ.has {h : Heap} {it l : Addr} {i : Nat} (x : itZ k h it l i) : ∃ o, h.get? it = some o ∧ ∀ v, o.data ≠ .cell v := by
  cases k
  · obtain ⟨o, e, _, d⟩ := x
    exact ⟨o, e, fun v q => by rw [d] at q; cases q⟩
  · obtain ⟨o, e, _, d⟩ := x
    exact ⟨o, e, fun v q => by rw [d] at q; cases q⟩
theorem Inv.seqZ (I : Inv X pins σ H s) {a : Addr} {us : List V} (h : SqZ X.K H k a us) : ∃ its : List Value, Vals us its ∧ isZ k s.heap a its.toArray ∧ a < s.heap.objs.size := by
  cases k
  · obtain ⟨its, rv, p, _⟩ := I.list h
    exact ⟨its, rv, p.isList, p.lt⟩
  · obtain ⟨its, rv, p, _⟩ := I.tuple h
    obtain ⟨o, e, _⟩ := id p
    exact ⟨its, rv, (show s.heap.IsTuple a its.toArray from p), Heap.lt_size e⟩
theorem Inv.injZ (I : Inv X pins σ H s) {a : Addr} {us vs : List V} (h : SqZ X.K H k a us) (h' : SqZ X.K H k a vs) : us = vs := by
  cases k
  · exact I.list_inj h h'
  · exact I.tuple_inj h h'
end
theorem sepZ {z ti tt j1 j2 a b : Addr} (D : ZipApart z ti tt j1 j2 a b) : ZipSep2 z ti tt j1 j2 [j1, a] [j2, b] where
  TIz := D.TIz
  TOz := D.TOz
  TITO := D.TITO
  TIi1 := D.TIi1
  mem1 := by simp
  zf1 := by simp [D.i1z.symm, D.l1z.symm]
  Tf1 := by simp [D.TOi1, D.l1TO.symm]
  TIi2 := D.TIi2
  mem2 := by simp
  zf2 := by simp [D.i2z.symm, D.l2z.symm]
  Tf2 := by simp [D.TOi2, D.l2TO.symm]
  sep1_2 := by simp [D.i12, D.l2i1.symm]
  sep2_1 := by simp [D.i12.symm, D.l1i2.symm]
theorem five {c z t1 t2 j1 j2 : Addr} (h : c ∈ [z, t1, t2, j1, j2]) : c = z ∨ c = t1 ∨ c = t2 ∨ c = j1 ∨ c = j2 := by simpa using h
theorem not5 {c z t1 t2 j1 j2 : Addr} (h : c ∉ [z, t1, t2, j1, j2]) : c ≠ z ∧ c ≠ t1 ∧ c ≠ t2 ∧ c ≠ j1 ∧ c ≠ j2 := by simpa using h
/-- both rows as they stand at each turn, their items in a new pair -/
theorem turnZ {P : Program} {w : World} {K : PySem.W.Frag} {elts : List Expr} {kk : Nat} {tpos : Pos} {k1 k2 : Bool} {a b z ti tt j1 j2 : Addr} (D : ZipApart z ti tt j1 j2 a b) :
    Turn P w K (.Tuple elts kk tpos) (ItZ K k1 k2 a b) [z, ti, tt, j1, j2] z (fun i h => (IsZip h z ti tt .none ∧ IsPair h ti (.ref j1) (.ref j2)) ∧ (∃ p q, IsPair h tt p q) ∧ itZ k1 h j1 a i ∧ itZ k2 h j2 b i) := by
  constructor
  · exact List.mem_cons_self
  · rintro i h ⟨⟨e1, e2⟩, ⟨p, q, e3⟩, e4, e5⟩ c hc
    rcases five hc with rfl | rfl | rfl | rfl | rfl
    · exact ⟨_, e1, fun v q => nomatch q⟩
    · exact ⟨_, e2, fun v q => nomatch q⟩
    · exact ⟨_, e3, fun v q => nomatch q⟩
    · exact e4.has
    · exact e5.has
  · rintro i h h' ⟨⟨e1, e2⟩, ⟨p, q, e3⟩, e4, e5⟩ kp
    exact ⟨⟨kp z (by simp) _ e1, kp ti (by simp) _ e2⟩, ⟨p, q, kp tt (by simp) _ e3⟩, e4.at (kp j1 (by simp)), e5.at (kp j2 (by simp))⟩
  · intro X hP hw hK hc i pins s σ H E I hf st hg
    subst hP hw hK
    obtain ⟨⟨e1, e2⟩, ⟨p0, q0, e3⟩, e4, e5⟩ := st
    obtain ⟨us, vs, u, v, su, sv, hu, hv⟩ := hg
    obtain ⟨its1, rv1, is1, _⟩ := Inv.seqZ I su
    obtain ⟨its2, rv2, is2, _⟩ := Inv.seqZ I sv
    obtain ⟨m1, hm1, rm1⟩ := rv1.get hu
    obtain ⟨m2, hm2, rm2⟩ := rv2.get hv
    have l1 : i < its1.toArray.size := by rw [List.size_toArray]; exact (List.getElem?_eq_some_iff.mp hm1).1
    have l2 : i < its2.toArray.size := by rw [List.size_toArray]; exact (List.getElem?_eq_some_iff.mp hm2).1
    have hzl : z < s.heap.objs.size := Heap.lt_size e1
    have hin : X.A.in1.handled = none := I.ok.hd hc
    refine wpAny_pyNext_zipD2_item (sepZ D) (drawsZ (k := k1) hin j1 a D.l1i1 its1.toArray) (drawsZ (k := k2) hin j2 b D.l2i2 its2.toArray) e1 e2 e3 ⟨e4, is1⟩ ⟨e5, is2⟩ l1 l2 fun y1 y2 h' tk g1 g2 z' t' q1 q2 hT hsz kp => ?_
    have w1 : y1 = m1 := by rw [List.getElem?_toArray] at g1; exact Option.some.inj (g1.symm.trans hm1)
    have w2 : y2 = m2 := by rw [List.getElem?_toArray] at g2; exact Option.some.inj (g2.symm.trans hm2)
    subst w1 w2
    refine ⟨_, rfl, wpAny_letOwnedTupleGo_zip (s := { s with heap := h', toks := tk }) z' fun h2 z2 sb => ?_⟩
    have up : ∀ c o, c ≠ z → c ≠ tt → c ≠ j1 → c ≠ j2 → s.heap.get? c = some o → h2.get? c = some o := fun c o n1 n2 n3 n4 e => (sb.2 c n1).trans (kp c o n1 n2 n3 n4 e)
    have hT2 : h2.get? s.heap.objs.size = some { cls := .type "tuple", data := .seq #[y1, y2] } := (sb.2 _ (Nat.ne_of_gt hzl)).trans hT
    have new : ObjOk X.prog X.w (upd H s.heap.objs.size (.tup [u, v])) h2 s.heap.objs.size (.tup [u, v]) := ⟨(show 2 ≤ sizeLine by decide), [y1, y2], .cons rm1 (.cons rm2 .nil), _, hT2, rfl, _, rfl⟩
    have I1 : Inv X pins σ (upd H s.heap.objs.size (.tup [u, v])) { s with heap := h2, toks := tk } := I.turnedNew (t' := tk) (ch := [z, ti, tt, j1, j2]) (fun c o hb e => by
      obtain ⟨n1, n2, n3, n4, n5⟩ := not5 hb
      exact up c o n1 n3 n4 n5 e) hf (Nat.le_refl _) new
    refine ⟨.ref s.heap.objs.size, _, I1, rfl, ⟨_, u, v, rfl, I.hok.fresh (Nat.le_refl _), rfl, fun l hl => by rw [Inv.injZ I hl su]; exact hu, fun l hl => by rw [Inv.injZ I hl sv]; exact hv⟩, ⟨⟨z2, up _ _ D.TIz D.TITO D.TIi1 D.TIi2 e2⟩, ⟨y1, y2, (sb.2 _ D.TOz).trans t'⟩, q1.1.at fun o e => (sb.2 _ D.i1z).trans e, q2.1.at fun o e => (sb.2 _ D.i2z).trans e⟩, fun c hcm => ?_⟩
    have hlt : c < s.heap.objs.size := by
      rcases five hcm with rfl | rfl | rfl | rfl | rfl
      · exact hzl
      · exact Heap.lt_size e2
      · exact Heap.lt_size e3
      · obtain ⟨_, e, _⟩ := e4.has; exact Heap.lt_size e
      · obtain ⟨_, e, _⟩ := e5.has; exact Heap.lt_size e
    rw [upd_ne (Nat.ne_of_lt hlt)]
    exact (hf c hcm).1
  · intro X hP hw hK hc i pins s σ H E I hf st hg
    subst hP hw hK
    obtain ⟨⟨e1, e2⟩, ⟨p0, q0, e3⟩, e4, e5⟩ := st
    obtain ⟨us, vs, su, sv, b1, b2, hend⟩ := hg
    obtain ⟨its1, rv1, is1, _⟩ := Inv.seqZ I su
    obtain ⟨its2, rv2, is2, _⟩ := Inv.seqZ I sv
    have hin : X.A.in1.handled = none := I.ok.hd hc
    have l1 : us.length = its1.toArray.size := by rw [List.size_toArray]; exact rv1.length
    have l2 : vs.length = its2.toArray.size := by rw [List.size_toArray]; exact rv2.length
    rw [l1] at b1 hend
    rw [l2] at b2 hend
    refine wpAny_pyNext_zipD2_end (sepZ D) (drawsZ (k := k1) hin j1 a D.l1i1 its1.toArray) (drawsZ (k := k2) hin j2 b D.l2i2 its2.toArray) e1 e2 e3 ⟨e4, is1⟩ ⟨e5, is2⟩ b1 b2 hend fun h' tk kp => ⟨rfl, I.turnedL (t' := tk) (ch := [z, ti, tt, j1, j2]) (fun c o hb e => ?_) hf⟩
    obtain ⟨n1, n2, n3, n4, n5⟩ := not5 hb
    exact kp c o n1 n3 n4 n5 e
  · exact fun A i s Q E st h => wpAny_pyIter_zip st.1.1 h
def iZipZ (K : PySem.W.Frag) (ta : TA) : TI := fun σ H R => ta σ H fun ws H1 => ∃ (k1 k2 : Bool) (a b : Addr) (us vs : List V), ws = [.ref a, .ref b] ∧ SqZ K H1 k1 a us ∧ SqZ K H1 k2 b vs ∧ R (ItZ K k1 k2 a b) H1
theorem pi_zipZ {X : Cx} {e e2 : Expr} {ta : TA} {p pos tpos : Pos} {elts : List Expr} {kk : Nat} (hg : Gl X "zip") (hm : X.mg "zip" = none) (ha : PA X [e, e2] ta) (h1 : nonStar e = true) (h2 : nonStar e2 = true) :
    PI X (.Tuple elts kk tpos) (.Call (.Name "zip" p) [e, e2] [] pos) (iZipZ X.K ta) := by
  constructor
  intro pins s σ H R I h
  refine Call_ (ld_blt I hg hm PyProof.Rows.boot_zip (PyProof.Rows.callWith_type1 (thn (ha.run pos pins s σ H _ I h) fun ms s1 ⟨ws, H1, I1, r1, q1⟩ => ?_) (starOne h1) (starAll (by rw [List.all_cons, h2]; rfl))))
  obtain ⟨k1, k2, a, b, us, vs, rfl, su, sv, q⟩ := q1
  obtain ⟨m1, m2, rfl, ru, rv⟩ : ∃ m1 m2, ms = [m1, m2] ∧ RelV (.ref a) m1 ∧ RelV (.ref b) m2 := by
    cases r1 with
    | cons r rr =>
      cases rr with
      | cons r' rr =>
        cases rr
        exact ⟨_, _, rfl, r, r'⟩
  cases ru
  cases rv
  obtain ⟨its1, rv1, is1, lt1⟩ := Inv.seqZ I1 su
  obtain ⟨its2, rv2, is2, lt2⟩ := Inv.seqZ I1 sv
  refine zip_begins2 (beginsZ (k := k1) a its1.toArray) (beginsZ (k := k2) b its2.toArray) is1 is2 fun h' z' t1 t2 o1 o2 hsz kp => wpAny_pyIter_zip z' ?_
  refine ⟨s1.heap.objs.size + 4, [s1.heap.objs.size + 4, s1.heap.objs.size + 2, s1.heap.objs.size + 3, s1.heap.objs.size, s1.heap.objs.size + 1], _, _, H1, rfl, I1.kept (t' := s1.toks) kp, turnZ (PySem.W.ktu_apart s1.heap.objs.size a b lt1 lt2), ⟨⟨z', t1⟩, ⟨_, _, t2⟩, itZ_new o1, itZ_new o2⟩, fun c hcm => ?_, q⟩
  have hle : s1.heap.objs.size ≤ c := by
    rcases five hcm with rfl | rfl | rfl | rfl | rfl <;> omega
  exact I1.fpOk hle (I1.hok.fresh hle)
end L3
/-! ### enumerate over a list or a tuple -/
namespace L3
open L2 PySem PySem.Spec PyProof.Rows
set_option maxHeartbeats 4000000 in
theorem meets_enum1 {v : Value} {o : Obj} {H : Heap → Prop} (B : Begins v o H) :
    Meets (Builtin.«enumerate.__new__» ⟨[.type "enumerate", v], []⟩) (fun _ R s => H s.heap ∧
      R (.ok (.ret (.ref (s.heap.push o).objs.size))) { s with heap := (s.heap.push o).push { cls := .type "enumerate", data := .fields #[.none, .bool false, .ref s.heap.objs.size, rawInt 0, .none, .none] } }) :=
  .of_wp fun prog w A R s h => by
    obtain ⟨hp, g, d, tk, os⟩ := s; obtain ⟨h1, h⟩ := h
    have hsub := sub_enumerate
    have q1 : ∀ {A' : Around} {E : Value → Shared → Prop} {Q : Value → Shared → Prop}, Q (.ref hp.objs.size) ⟨hp.push o, g, d, tk, os⟩ → wpAny (model prog w) A' (pyIter v) Q E ⟨hp, g, d, tk, os⟩ :=
      fun q => B.iter prog w _ _ ⟨hp, g, d, tk, os⟩ _ h1 q
    wp_walk using q1
    refine wpAny_stack_any fun st => wpAny_pure ?_
    split
    · rename_i c _ _ _ _ _
      cases (c == Value.type "enumerate")
      · wp_walk using q1
        exact ⟨_, rfl, h⟩
      · wp_walk using q1
        exact ⟨_, rfl, h⟩
    · wp_walk using q1
      exact ⟨_, rfl, h⟩
section
variable {prog : Program} {w : World} {A : Around} {E : Value → Shared → Prop} {s : Shared}
theorem enum_begins1 {v : Value} {o : Obj} {H : Heap → Prop} {Q : Value → Shared → Prop} (B : Begins v o H) (h1 : H s.heap)
    (h : ∀ h', IsEnum h' (s.heap.objs.size + 1) s.heap.objs.size 0 .none → h'.get? s.heap.objs.size = some o → h'.objs.size = s.heap.objs.size + 2 →
      (∀ b o, s.heap.get? b = some o → h'.get? b = some o) → Q (.ref (s.heap.objs.size + 1)) { s with heap := h' }) :
    wpAny (model prog w) A (call (.type "enumerate") [v]) Q E s := by
  refine callType_new F.called_enumerate (by decide) (F.typeCall_enumerate_1 _) (F.newCall_enumerate_1 _) (fun obj => F.args_object_init_2 obj _) F.entry_enumerate_new
    (meets_enum1 B) ⟨h1, ?_⟩
  have hz : (s.heap.push o).objs.size = s.heap.objs.size + 1 := Heap.size_push ..
  show _ ∧ _
  rw [hz]
  have he : IsEnum ((s.heap.push o).push { cls := .type "enumerate", data := .fields #[.none, .bool false, .ref s.heap.objs.size, rawInt 0, .none, .none] }) (s.heap.objs.size + 1) s.heap.objs.size 0 .none := by
    have := Heap.get?_push_size (s.heap.push o) (o := { cls := .type "enumerate", data := .fields #[.none, .bool false, .ref s.heap.objs.size, rawInt 0, .none, .none] }) rfl
    rw [hz] at this; exact this
  refine ⟨⟨_, he, rfl⟩, h _ he (Heap.get?_push_of_some _ (Heap.get?_push_size _ B.free)) (by rw [Heap.size_push, hz]) fun b o x => Heap.get?_push_of_some _ (Heap.get?_push_of_some _ x)⟩
end
def IteZ (K : PySem.W.Frag) (k : Bool) (a : Addr) : It :=
  ⟨fun i H => ∃ (xs : List V) (x : V), SqZ K H k a xs ∧ xs[i]? = some x, fun i H v H' => ∃ T x, v = .ref T ∧ H T = none ∧ H' = upd H T (.tup [.int (i : Nat), x]) ∧ ∀ xs, SqZ K H k a xs → xs[i]? = some x, fun i H => ∃ xs : List V, SqZ K H k a xs ∧ i = xs.length⟩
theorem turn_enumZ {P : Program} {w : World} {K : PySem.W.Frag} {elts : List Expr} {kk : Nat} {tpos : Pos} (k : Bool) (a e it : Addr) (hne : e ≠ it) (hia : a ≠ it) (hea : e ≠ a) :
    Turn P w K (.Tuple elts kk tpos) (IteZ K k a) [e, it] e (fun i h => (∃ old, IsEnum h e it ((i : Nat) : Int) old) ∧ itZ k h it a i) where
  mem := by simp
  obj := fun i h st b hb => by
    obtain ⟨⟨old, he⟩, hi⟩ := st
    have e' : b = e ∨ b = it := by simpa using hb
    rcases e' with z | z
    · rw [z]; exact ⟨_, he, fun v q => nomatch q⟩
    · rw [z]; exact hi.has
  keep := fun i h h' st k => let ⟨⟨old, he⟩, hi⟩ := st; ⟨⟨old, k e (by simp) _ he⟩, hi.at fun o q => k it (by simp) o q⟩
  item := by
    intro X hP hw hK hc i pins s σ H E I hf st hg
    subst hP hw hK
    obtain ⟨⟨old, he⟩, hit⟩ := st
    obtain ⟨xs, x, hq, hx⟩ := hg
    obtain ⟨its, rv, p, hz⟩ := Inv.seqZ I hq
    obtain ⟨u, hu, ru⟩ := rv.get hx
    have hel : e < s.heap.objs.size := Heap.lt_size he
    have hil : it < s.heap.objs.size := by obtain ⟨_, q, _⟩ := hit.has; exact Heap.lt_size q
    have hin : X.A.in1.handled = none := I.ok.hd hc
    have l1 : i < its.toArray.size := by rw [List.size_toArray]; exact (List.getElem?_eq_some_iff.mp hu).1
    refine wpAny_pyNext_enum_itemC (drawsZ (k := k) hin it a hia its.toArray) he ⟨hit, p⟩ l1 hne (by simp [hne, hea]) fun y h' tk hy ho hst' hT hsz hk => ?_
    have w1 : y = u := by rw [List.getElem?_toArray] at hy; exact Option.some.inj (hy.symm.trans hu)
    subst w1
    refine ⟨_, rfl, wpAny_letOwnedTupleGo_enum (s := { s with heap := h', toks := tk + 1 }) ho fun h'' he' sb => ?_⟩
    have hT2 : h''.get? s.heap.objs.size = some { cls := .type "tuple", data := .seq #[.int i tk, y] } := (sb.2 _ (Nat.ne_of_gt hel)).trans hT
    have new : ObjOk X.prog X.w (upd H s.heap.objs.size (.tup [.int (i : Nat), x])) h'' s.heap.objs.size (.tup [.int (i : Nat), x]) :=
      ⟨by show 2 ≤ sizeLine; decide, [.int i tk, y], .cons ⟨_, rfl⟩ (.cons ru .nil), ⟨_, hT2, rfl, _, rfl⟩⟩
    have I1 : Inv X pins σ (upd H s.heap.objs.size (.tup [.int (i : Nat), x])) { s with heap := h'', toks := tk + 1 } :=
      I.turnedNew (t' := tk + 1) (ch := [e, it]) (fun b ob hb q => (sb.2 b (fun z => hb (by simp [z]))).trans (hk b ob (fun z => hb (by simp [z])) (fun z => hb (by simp [z])) q)) hf (Nat.le_refl _) new
    refine ⟨.ref s.heap.objs.size, _, I1, rfl, ⟨_, x, rfl, I.hok.fresh (Nat.le_refl _), rfl, fun ys hy => by rw [Inv.injZ I hy hq]; exact hx⟩, ⟨⟨y, ?_⟩, hst'.1.at fun o q => (sb.2 it (Ne.symm hne)).trans q⟩, fun b hb => ?_⟩
    · have e1 : ((i + 1 : Nat) : Int) = (i : Int) + 1 := by omega
      rw [e1]; exact he'
    · have hb' : b < s.heap.objs.size := by
        have e' : b = e ∨ b = it := by simpa using hb
        rcases e' with z | z
        · rw [z]; exact hel
        · rw [z]; exact hil
      rw [upd_ne (Nat.ne_of_lt hb')]
      exact (hf b hb).1
  done := by
    intro X hP hw hK hc i pins s σ H E I hf st hg
    subst hP hw hK
    obtain ⟨⟨old, he⟩, hit⟩ := st
    obtain ⟨xs, hq, hx⟩ := hg
    obtain ⟨its, rv, p, hz⟩ := Inv.seqZ I hq
    have hin : X.A.in1.handled = none := I.ok.hd hc
    have hl := rv.length
    have l1 : i = its.toArray.size := by rw [List.size_toArray, hx]; exact hl
    subst l1
    exact wpAny_pyNext_enum_endD (drawsZ (k := k) hin it a hia its.toArray) he ⟨hit, p⟩ fun h' hk => ⟨rfl, I.turnedL (t' := s.toks) (ch := [e, it]) (fun c o hb e' => hk c o (fun z => hb (by simp [z])) e') hf⟩
  self := fun A i s Q E st h => let ⟨⟨_, he⟩, _⟩ := st; wpAny_pyIter_enum he h
def iEnumZ (K : PySem.W.Frag) (ta : TA) : TI := fun σ H R => ta σ H fun vs H1 => ∃ (k : Bool) (a : Addr) (xs : List V), vs = [.ref a] ∧ SqZ K H1 k a xs ∧ R (IteZ K k a) H1
theorem pi_enumZ {X : Cx} {e : Expr} {ta : TA} {p pos tpos : Pos} {elts : List Expr} {kk : Nat} (hg : Gl X "enumerate") (hm : X.mg "enumerate" = none) (ha : PA X [e] ta) (hs : starEach [e] X.env = [(false, eval e X.env)] := by rfl) :
    PI X (.Tuple elts kk tpos) (.Call (.Name "enumerate" p) [e] [] pos) (iEnumZ X.K ta) := by
  refine ⟨fun pins s σ H R I h => ?_⟩
  refine Call_ (ld_blt I hg hm boot_enumerate (PyProof.Rows.callWith_type1 (thn (ha.run pos pins s σ H _ I h) fun us s1 ⟨vs, H1, I1, r1, q1⟩ => ?_) hs rfl))
  obtain ⟨k, a, xs, ex, hq, q⟩ := q1
  subst ex
  cases r1 with
  | cons r rr =>
    cases rr
    cases r
    obtain ⟨its, rv, p', hz⟩ := Inv.seqZ I1 hq
    refine enum_begins1 (beginsZ (k := k) a its.toArray) p' fun h' he hit hsz hk => wpAny_pyIter_enum he ?_
    have I2 : Inv X pins σ H1 { s1 with heap := h' } := I1.kept (t' := s1.toks) hk
    refine ⟨s1.heap.objs.size + 1, [s1.heap.objs.size + 1, s1.heap.objs.size], _, _, H1, rfl, I2, turn_enumZ k a (s1.heap.objs.size + 1) s1.heap.objs.size (Nat.succ_ne_self _) (Nat.ne_of_lt hz) (fun z => by subst z; exact absurd hz (Nat.not_lt.mpr (Nat.le_succ _))), ⟨⟨.none, he⟩, itZ_new hit⟩, fun b hb => ?_, q⟩
    have e' : b = s1.heap.objs.size + 1 ∨ b = s1.heap.objs.size := by simpa using hb
    have hle : s1.heap.objs.size ≤ b := by
      rcases e' with z | z
      · rw [z]; exact Nat.le_add_right _ _
      · rw [z]; exact Nat.le_refl _
    exact I1.fpOk hle (I1.hok.fresh hle)
end L3

set_option maxHeartbeats 2000000
namespace L3
open L2 PySem PySem.Spec PyProof.Rows

/-! ### what is walked -/
/-- as Stp, but for the reserved addresses -/
structure StpR (B io : List Addr) (H : Hp) (io' : List Addr) (H' : Hp) : Prop where
  fr : ∀ b o, b ∉ io → b ∉ B → H b = some o → H' b = some o
  ext : ∃ ex, io' = io ++ ex ∧ ∀ a ∈ ex, H a = none
section
variable {K : PySem.W.Frag} {H H' H1 H2 : Hp} {io io' io1 io2 B : List Addr}
theorem Stp.toR (s : Stp io H io' H') : StpR B io H io' H' := ⟨fun b o h _ => s.fr b o h, s.ext⟩
theorem StpR.mem {a : Addr} (s : StpR B io H io' H') (h : H a ≠ none) (ha : a ∉ io) : a ∉ io' := by
  obtain ⟨_, ex, rfl, n⟩ := s
  intro z
  rcases List.mem_append.mp z with z | z
  · exact ha z
  · exact h (n a z)
theorem StpR.get {n : Nat} {a : Addr} (s : StpR B io H io' H') (h : io[n]? = some a) : io'[n]? = some a := by
  obtain ⟨_, ex, rfl, _⟩ := s
  rw [List.getElem?_append_left (List.getElem?_eq_some_iff.mp h).1]
  exact h
theorem StpR.trans {st1 : Store} (a : StpR B io H io1 H1) (ok : StOk K H1 io1 B st1) (b : Stp io1 H1 io2 H2) : StpR B io H io2 H2 := by
  obtain ⟨f1, e1, rfl, n1⟩ := a
  obtain ⟨f2, e2, rfl, n2⟩ := b
  have nn : ∀ b o, b ∉ io → H b = some o → b ∉ io ++ e1 := fun b o hb h z => by
    rcases List.mem_append.mp z with z | z
    · exact hb z
    · rw [n1 b z] at h; cases h
  refine ⟨fun b o hb hB h => f2 b o (nn b o hb h) (f1 b o hb hB h), e1 ++ e2, by simp, fun c hc => ?_⟩
  rcases List.mem_append.mp hc with hc | hc
  · exact n1 c hc
  · have hn := n2 c hc
    cases q : H c with
    | none => rfl
    | some o =>
      by_cases hb : c ∈ io
      · obtain ⟨vs, h⟩ := ok.sets (List.mem_append_left e1 hb)
        rw [hn] at h; cases h
      · by_cases hB : c ∈ B
        · exact absurd hn (ok.bt c hB)
        · rw [f1 c o hb hB q] at hn; cases hn
theorem StpR.poke {D0 : Addr} {o : HO} (hD : D0 ∈ B) (s : StpR B io H io' H') : StpR B io H io' (upd H' D0 o) :=
  ⟨fun b u hb hB h => by rw [upd_ne (fun e => hB (by rw [e]; exact hD))]; exact s.fr b u hb hB h, s.ext⟩
theorem Tp.monoR {a : Addr} {vs : List V} (t : Tp K H io B a vs) (s : StpR B io H io' H') : Tp K H' io' B a vs := by
  rcases t with t | ⟨r, h1, h2⟩
  · exact .inl t
  · obtain ⟨o, ho⟩ := rdSome r
    exact .inr ⟨rdKeep r fun o h => s.fr a o h1 h2 h, s.mem (by rw [ho]; simp) h1, h2⟩
theorem Ls.monoR {a : Addr} {vs : List V} (t : Ls H io B a vs) (s : StpR B io H io' H') : Ls H' io' B a vs := by
  obtain ⟨r, h1, h2⟩ := t
  exact ⟨s.fr a _ h1 h2 r, s.mem (by rw [r]; simp) h1, h2⟩
theorem Lr.monoR {a : Addr} {vs : List V} (t : Lr K H io B a vs) (s : StpR B io H io' H') : Lr K H' io' B a vs := by
  rcases t with t | ⟨r, h1, h2⟩
  · exact .inl t
  · obtain ⟨o, ho⟩ := rdSome r
    exact .inr ⟨rdKeep r fun o h => s.fr a o h1 h2 h, s.mem (by rw [ho]; simp) h1, h2⟩
mutual
theorem RV.monoR (s : StpR B io H io' H') : ∀ (d : D) (v : V), RV K H io B d v → RV K H' io' B d v
  | .non, _, h => h
  | .bl _, _, h => h
  | .int _, _, h => h
  | .str _, _, h => h
  | .tup xs, _, h => by
    obtain ⟨a, vs, e, t, r⟩ := h
    exact ⟨a, vs, e, t.monoR s, RVs.monoR s xs vs r⟩
  | .lst xs, _, h => by
    obtain ⟨a, vs, e, t, r⟩ := h
    exact ⟨a, vs, e, t.monoR s, RVs.monoR s xs vs r⟩
  | .loc n, _, h => by
    obtain ⟨a, e, q⟩ := h
    exact ⟨a, e, s.get q⟩
  | .scr ns, _, h => by
    obtain ⟨a, e, q⟩ := h
    exact ⟨a, e, q.monoR s⟩
theorem RVs.monoR (s : StpR B io H io' H') : ∀ (ds : List D) (vs : List V), RVs K H io B ds vs → RVs K H' io' B ds vs
  | [], _, h => h
  | d :: ds, _, h => by
    obtain ⟨v, r, e, h1, h2⟩ := h
    exact ⟨v, r, e, RV.monoR s d v h1, RVs.monoR s ds r h2⟩
end
end
/-- the iterator J yields the items xs while the lists ns stay as they are -/
def Walk (K : PySem.W.Frag) (B : List Addr) (H1 : Hp) (io1 : List Addr) (s1 : Store) (ns : List Nat) (J : It) (xs : List D) : Prop :=
  ∀ (i : Nat) (H' : Hp) (io' : List Addr) (st' : Store), StOk K H' io' B st' → StpR B io1 H1 io' H' → still ns s1 st' →
    (i < xs.length → J.go i H' ∧ ∀ x H'', J.yld i H' x H'' → StOk K H'' io' B st' ∧ Stp io' H' io' H'' ∧ ∃ d, xs[i]? = some d ∧ RV K H'' io' B d x) ∧ (i = xs.length → J.stop i H')
def RepI (K : PySem.W.Frag) (B : List Addr) : List D × List Nat × Store → It → Hp → List Addr → Prop := fun a J H1 io1 =>
  ∀ B', (B' = B ∨ ∃ p, H1 p = none ∧ B' = p :: B) → Walk K B' H1 io1 a.2.2 a.2.1 J a.1
section
variable (K : PySem.W.Frag) (xi : XI) (W : WX) (cf : Nat → List D → Store → Res D) (gl : Nat → Option D)
noncomputable def denI (k : IK) (its : List Ex) (r : DEnv) (st : Store) : Res (List D × List Nat × Store) := (dens cf gl its r st).bind fun ds s1 => .of s1 ((itemsOf s1 k ds).map fun xs => (xs, walked k ds, s1))
def rdI (f : DEnv → Store → Res (List D × List Nat × Store)) : TI := fun σ H R => ∃ B io r st, StOk K H io B st ∧ EnvOk K H io B r σ ∧ Post K xi W (RepI K B) B σ H io (f r st) R
end
theorem PI.imp {X : Cx} {tg e : Expr} {t t' : TI} (h : PI X tg e t) (i : ∀ σ H Q, t' σ H Q → t σ H Q) : PI X tg e t' := ⟨fun pins s σ H Q I q => h.run pins s σ H Q I (i σ H Q q)⟩

section
variable {K : PySem.W.Frag} {H1 : Hp} {io1 B : List Addr} {s1 : Store}
theorem RV.ext {d : D} {v : V} {B' : List Addr} (hB : B' = B ∨ ∃ p, H1 p = none ∧ B' = p :: B) (h : RV K H1 io1 B d v) : RV K H1 io1 B' d v := by
  rcases hB with rfl | ⟨p, hp, rfl⟩
  · exact h
  · exact RV.resv hp d v h
theorem walk_lst {a : Addr} {vs : List V} {d : D} {xs : List D} (h : RV K H1 io1 B d (.ref a)) (ok : StOk K H1 io1 B s1) (e : isLst s1 d = some xs) : RepI K B (xs, walked .seq [d], s1) (Itl K a) H1 io1 := by
  intro B' hB i H' io' st' ok' s hst
  have hd : RV K H' io' B' d (.ref a) := RV.monoR s _ _ (RV.ext hB h)
  have e' : isLst st' d = some xs := by
    cases d with
    | loc n =>
      have := hst n (by simp [walked])
      show st'[n]? = some xs
      rw [this]; exact e
    | _ => exact e
  obtain ⟨a', vs, ea, hs, r⟩ := lst_view ok' hd e'
  cases ea
  refine ⟨fun hi => ?_, fun hi => ⟨vs, hs, by rw [r.length]; exact Nat.le_of_eq hi.symm⟩⟩
  obtain ⟨v, h1, h2⟩ := RVs.get r (List.getElem?_eq_getElem hi)
  refine ⟨⟨vs, v, hs, h1⟩, fun x H'' hy => ?_⟩
  obtain ⟨rfl, hx⟩ := hy
  have : v = x := Option.some.inj (h1.symm.trans (hx vs hs))
  subst this
  exact ⟨ok', .refl, _, List.getElem?_eq_getElem hi, h2⟩
theorem walk_tup {a : Addr} {vs : List V} {xs : List D} (h : RV K H1 io1 B (.tup xs) (.ref a)) (ok : StOk K H1 io1 B s1) : RepI K B (xs, walked .seq [.tup xs], s1) (Itt K a) H1 io1 := by
  intro B' hB i H' io' st' ok' s hst
  have hd : RV K H' io' B' (.tup xs) (.ref a) := RV.monoR s _ _ (RV.ext hB h)
  obtain ⟨a', vs, ea, hs, r⟩ := hd
  cases ea
  refine ⟨fun hi => ?_, fun hi => ⟨vs, hs.sq, by rw [r.length]; exact Nat.le_of_eq hi.symm⟩⟩
  obtain ⟨v, h1, h2⟩ := RVs.get r (List.getElem?_eq_getElem hi)
  refine ⟨⟨vs, v, hs.sq, h1⟩, fun x H'' hy => ?_⟩
  obtain ⟨rfl, hx⟩ := hy
  have : v = x := Option.some.inj (h1.symm.trans (hx vs hs.sq))
  subst this
  exact ⟨ok', .refl, _, List.getElem?_eq_getElem hi, h2⟩
theorem walk_rng {lo : Int} {n : Nat} {ns : List Nat} : RepI K B ((List.range n).map (fun k : Nat => D.int (lo + k)), ns, s1) (Itr lo n) H1 io1 := by
  intro B' hB i H' io' st' ok' s hst
  refine ⟨fun hi => ?_, fun hi => ?_⟩
  · have hi' : i < n := by simpa using hi
    refine ⟨hi', fun x H'' hy => ?_⟩
    obtain ⟨rfl, rfl⟩ := hy
    refine ⟨ok', .refl, .int (lo + i), ?_, rfl⟩
    simp [hi']
  · show n ≤ i
    simp at hi; omega
theorem walk_rngC {lo c : Int} {n : Nat} {ns : List Nat} : RepI K B ((List.range n).map (fun k : Nat => D.int (lo + (k : Int) * c)), ns, s1) (Itc lo c n) H1 io1 := by
  intro B' hB i H' io' st' ok' s hst
  refine ⟨fun hi => ?_, fun hi => ?_⟩
  · have hi' : i < n := by simpa using hi
    refine ⟨hi', fun x H'' hy => ?_⟩
    obtain ⟨rfl, rfl⟩ := hy
    refine ⟨ok', .refl, (.int (lo + (i : Int) * c)), ?_, rfl⟩
    simp [hi']
  · show n ≤ i
    simp at hi; omega
end

section
variable {K : PySem.W.Frag} {H1 : Hp} {io1 B : List Addr} {s1 : Store}
theorem lst_still {d : D} {xs : List D} {st' : Store} {ns : List Nat} (e : isLst s1 d = some xs) (h : still ns s1 st') (hn : ∀ n, d = .loc n → n ∈ ns) : isLst st' d = some xs := by
  cases d with
  | loc n =>
    have := h n (hn n rfl)
    show st'[n]? = some xs
    rw [this]; exact e
  | _ => exact e
/-- the pairs of two rows at i -/
theorem pair_at {xs ys : List D} {i : Nat} (hi : i < ((xs.zip ys).map fun p => D.tup [p.1, p.2]).length) : ∃ x y, xs[i]? = some x ∧ ys[i]? = some y ∧ ((xs.zip ys).map fun p => D.tup [p.1, p.2])[i]? = some (.tup [x, y]) := by
  rw [List.length_map, List.length_zip] at hi
  have h1 : i < xs.length := by omega
  have h2 : i < ys.length := by omega
  refine ⟨xs[i], ys[i], List.getElem?_eq_getElem h1, List.getElem?_eq_getElem h2, ?_⟩
  rw [List.getElem?_map, List.getElem?_zip_eq_some (z := (xs[i], ys[i])) |>.mpr ⟨List.getElem?_eq_getElem h1, List.getElem?_eq_getElem h2⟩]
  rfl
theorem pair_new {H' : Hp} {io' : List Addr} {st' : Store} {T : Addr} {x y : D} {v w : V} {B' : List Addr} (ok : StOk K H' io' B' st') (hT : H' T = none) (h1 : RV K H' io' B' x v) (h2 : RV K H' io' B' y w) : StOk K (upd H' T (.tup [v, w])) io' B' st' ∧ Stp io' H' io' (upd H' T (.tup [v, w])) ∧ RV K (upd H' T (.tup [v, w])) io' B' (.tup [x, y]) (.ref T) :=
  ⟨ok.new hT, Stp.new_tup hT, RV.newTup ok hT (show RVs K H' io' B' [x, y] [v, w] from ⟨v, [w], rfl, h1, w, [], rfl, h2, rfl⟩)⟩
theorem walk_zipL {a b : Addr} {da db : D} {xs ys : List D} (ha : RV K H1 io1 B da (.ref a)) (hb : RV K H1 io1 B db (.ref b)) (ea : isLst s1 da = some xs) (eb : isLst s1 db = some ys) : RepI K B ((xs.zip ys).map (fun p => D.tup [p.1, p.2]), locsOf [da, db], s1) (Itz K a b) H1 io1 := by
  intro B' hB i H' io' st' ok' s hst
  have ea' := lst_still ea hst (fun n q => by subst q; simp [locsOf])
  have eb' := lst_still eb hst (fun n q => by subst q; cases da <;> simp [locsOf])
  obtain ⟨a', vs, e1, t1, r1⟩ := lst_view ok' (RV.monoR s _ _ (RV.ext hB ha)) ea'
  obtain ⟨b', ws, e2, t2, r2⟩ := lst_view ok' (RV.monoR s _ _ (RV.ext hB hb)) eb'
  cases e1; cases e2
  refine ⟨fun hi => ?_, fun hi => ⟨vs, ws, t1, t2, ?_⟩⟩
  · obtain ⟨x, y, hx, hy, hp⟩ := pair_at hi
    obtain ⟨v, v1, v2⟩ := RVs.get r1 hx
    obtain ⟨w, w1, w2⟩ := RVs.get r2 hy
    refine ⟨⟨vs, ws, v, w, t1, t2, v1, w1⟩, fun z H'' hz => ?_⟩
    obtain ⟨T, v', w', rfl, hT, rfl, g1, g2⟩ := hz
    have q1 : v = v' := Option.some.inj (v1.symm.trans (g1 vs t1))
    have q2 : w = w' := Option.some.inj (w1.symm.trans (g2 ws t2))
    subst q1; subst q2
    obtain ⟨o1, o2, o3⟩ := pair_new ok' hT v2 w2
    exact ⟨o1, o2, _, hp, o3⟩
  · have hi' : i = ((xs.zip ys).map fun p => D.tup [p.1, p.2]).length := hi
    rw [List.length_map, List.length_zip] at hi'
    rw [r1.length, r2.length]
    omega
theorem walk_zipT {a b : Addr} {xs ys : List D} {ns : List Nat} (ha : RV K H1 io1 B (.tup xs) (.ref a)) (hb : RV K H1 io1 B (.tup ys) (.ref b)) : RepI K B ((xs.zip ys).map (fun p => D.tup [p.1, p.2]), ns, s1) (RZ.ItzT K a b) H1 io1 := by
  intro B' hB i H' io' st' ok' s hst
  obtain ⟨a', vs, e1, t1, r1⟩ := RV.monoR s _ _ (RV.ext hB ha)
  obtain ⟨b', ws, e2, t2, r2⟩ := RV.monoR s _ _ (RV.ext hB hb)
  cases e1; cases e2
  refine ⟨fun hi => ?_, fun hi => ⟨vs, ws, t1.sq, t2.sq, ?_⟩⟩
  · obtain ⟨x, y, hx, hy, hp⟩ := pair_at hi
    obtain ⟨v, v1, v2⟩ := RVs.get r1 hx
    obtain ⟨w, w1, w2⟩ := RVs.get r2 hy
    refine ⟨⟨vs, ws, v, w, t1.sq, t2.sq, v1, w1⟩, fun z H'' hz => ?_⟩
    obtain ⟨T, v', w', rfl, hT, rfl, g1, g2⟩ := hz
    have q1 : v = v' := Option.some.inj (v1.symm.trans (g1 vs t1.sq))
    have q2 : w = w' := Option.some.inj (w1.symm.trans (g2 ws t2.sq))
    subst q1; subst q2
    obtain ⟨o1, o2, o3⟩ := pair_new ok' hT v2 w2
    exact ⟨o1, o2, _, hp, o3⟩
  · have hi' : i = ((xs.zip ys).map fun p => D.tup [p.1, p.2]).length := hi
    rw [List.length_map, List.length_zip] at hi'
    rw [r1.length, r2.length]
    omega
def tupB : D → Bool
  | .tup _ => true
  | _ => false
theorem seqZ_view {K : PySem.W.Frag} {H : Hp} {io B : List Addr} {st : Store} {d : D} {a : Addr} {xs : List D} (ok : StOk K H io B st) (h : RV K H io B d (.ref a)) (e : isSeq st d = some xs) : ∃ vs, SqZ K H (tupB d) a vs ∧ RVs K H io B xs vs := by
  cases d with
  | tup ys =>
    cases e
    obtain ⟨a', vs, ea, t, r⟩ := h
    cases ea
    exact ⟨vs, t.sq, r⟩
  | lst ys =>
    obtain ⟨a', vs, ea, t, r⟩ := lst_view ok h (show isLst st (.lst ys) = some xs from e)
    cases ea
    exact ⟨vs, t, r⟩
  | loc n =>
    obtain ⟨a', vs, ea, t, r⟩ := lst_view ok h (show isLst st (.loc n) = some xs from e)
    cases ea
    exact ⟨vs, t, r⟩
  | scr ns =>
    obtain ⟨a', vs, ea, t, r⟩ := lst_view ok h (show isLst st (.scr ns) = some xs from e)
    cases ea
    exact ⟨vs, t, r⟩
  | _ => cases e
theorem seq_still {d : D} {xs : List D} {s1 st' : Store} {ns : List Nat} (e : isSeq s1 d = some xs) (h : still ns s1 st') (hn : ∀ n, d = .loc n → n ∈ ns) : isSeq st' d = some xs := by
  cases d with
  | loc n =>
    show st'[n]? = some xs
    rw [h n (hn n rfl)]; exact e
  | _ => exact e
theorem walk_zipZ {a b : Addr} {da db : D} {xs ys : List D} (ha : RV K H1 io1 B da (.ref a)) (hb : RV K H1 io1 B db (.ref b)) (ea : isSeq s1 da = some xs) (eb : isSeq s1 db = some ys) : RepI K B ((xs.zip ys).map (fun p => D.tup [p.1, p.2]), locsOf [da, db], s1) (ItZ K (tupB da) (tupB db) a b) H1 io1 := by
  intro B' hB i H' io' st' ok' s hst
  have m1 : ∀ n, da = .loc n → n ∈ locsOf [da, db] := fun n q => by subst q; simp [locsOf]
  have m2 : ∀ n, db = .loc n → n ∈ locsOf [da, db] := fun n q => by
    subst q
    cases da <;> simp [locsOf]
  obtain ⟨vs, t1, r1⟩ := seqZ_view ok' (RV.monoR s _ _ (RV.ext hB ha)) (seq_still ea hst m1)
  obtain ⟨ws, t2, r2⟩ := seqZ_view ok' (RV.monoR s _ _ (RV.ext hB hb)) (seq_still eb hst m2)
  refine ⟨fun hi => ?_, fun hi => ⟨vs, ws, t1, t2, ?_⟩⟩
  · obtain ⟨x, y, hx, hy, hp⟩ := pair_at hi
    obtain ⟨v, v1, v2⟩ := RVs.get r1 hx
    obtain ⟨w, w1, w2⟩ := RVs.get r2 hy
    refine ⟨⟨vs, ws, v, w, t1, t2, v1, w1⟩, fun z H'' hz => ?_⟩
    obtain ⟨T, v', w', rfl, hT, rfl, g1, g2⟩ := hz
    have q1 : v = v' := Option.some.inj (v1.symm.trans (g1 vs t1))
    have q2 : w = w' := Option.some.inj (w1.symm.trans (g2 ws t2))
    subst q1; subst q2
    obtain ⟨o1, o2, o3⟩ := pair_new ok' hT v2 w2
    exact ⟨o1, o2, _, hp, o3⟩
  · have hi' : i = ((xs.zip ys).map fun p => D.tup [p.1, p.2]).length := hi
    rw [List.length_map, List.length_zip] at hi'
    rw [r1.length, r2.length]
    omega
theorem walk_enum {a : Addr} {da : D} {xs : List D} (ha : RV K H1 io1 B da (.ref a)) (ea : isSeq s1 da = some xs) : RepI K B ((xs.zipIdx).map (fun p => D.tup [.int (p.2 : Nat), p.1]), locsOf [da], s1) (IteZ K (tupB da) a) H1 io1 := by
  intro B' hB i H' io' st' ok' s hst
  have m1 : ∀ n, da = .loc n → n ∈ locsOf [da] := fun n q => by subst q; simp [locsOf]
  obtain ⟨vs, t1, r1⟩ := seqZ_view ok' (RV.monoR s _ _ (RV.ext hB ha)) (seq_still ea hst m1)
  refine ⟨fun hi => ?_, fun hi => ⟨vs, t1, ?_⟩⟩
  · have hi' : i < ((xs.zipIdx).map (fun p => D.tup [.int (p.2 : Nat), p.1])).length := hi
    rw [List.length_map, List.length_zipIdx] at hi'
    have hx := List.getElem?_eq_getElem hi'
    obtain ⟨v, v1, v2⟩ := RVs.get r1 hx
    refine ⟨⟨vs, v, t1, v1⟩, fun z H'' hz => ?_⟩
    obtain ⟨T, v', rfl, hT, rfl, g1⟩ := hz
    have q1 : v = v' := Option.some.inj (v1.symm.trans (g1 vs t1))
    subst q1
    obtain ⟨o1, o2, o3⟩ := pair_new (x := .int (i : Nat)) (v := .int (i : Nat)) ok' hT rfl v2
    refine ⟨o1, o2, _, ?_, o3⟩
    show ((xs.zipIdx).map (fun p => D.tup [.int (p.2 : Nat), p.1]))[i]? = _
    rw [List.getElem?_map, List.getElem?_zipIdx, hx]
    simp
  · have hi' : i = ((xs.zipIdx).map (fun p => D.tup [.int (p.2 : Nat), p.1])).length := hi
    rw [List.length_map, List.length_zipIdx] at hi'
    rw [hi']
    exact r1.length.symm

end
section
variable {xi : XI} {W : WX} {cf : Nat → List D → Store → Res D} {gl : Nat → Option D} {X : Cx} {tg a b : Expr} {ia ib : Ex} {pos p : Pos}
/-- a list or a tuple, walked -/
def iSeq (K : PySem.W.Frag) (tl : TE) : TI := fun σ H R => tl σ H fun x H1 => ∃ a, x = .ref a ∧ (((∃ xs, SqL K H1 a xs) ∧ R (Itl K a) H1) ∨ ((∃ xs, SqT K H1 a xs) ∧ R (Itt K a) H1))
theorem pi_seq {l : Expr} {tl : TE} (hl : PE X l tl) : PI X tg l (iSeq X.K tl) := by
  constructor
  intro pins s σ H R I h
  refine thn (hl.run pins s σ H _ I h) fun v s1 ⟨x, H1, I1, r1, a, ea, q⟩ => ?_
  subst ea
  cases r1
  have I2 : ∀ o : Obj, Inv X pins σ H1 { s1 with heap := s1.heap.push o } := fun o => I1.kept (t' := s1.toks) fun b u e => Heap.get?_push_of_some _ e
  have fp : ∀ b ∈ [s1.heap.objs.size], FpOk X pins H1 b := fun b hb => by
    obtain rfl : b = s1.heap.objs.size := by simpa using hb
    exact I1.fpOk (Nat.le_refl _) (I1.hok.fresh (Nat.le_refl _))
  rcases q with ⟨⟨xs, hq⟩, q⟩ | ⟨⟨xs, hq⟩, q⟩
  · obtain ⟨its, rv, pl, _⟩ := I1.list hq
    exact wpAny_pyIter_list pl.isList ⟨_, [s1.heap.objs.size], _, _, H1, rfl, I2 _, turn_list a _, ⟨_, Heap.get?_push_size _ rfl, rfl, rfl⟩, fp, q⟩
  · obtain ⟨its, rv, pl, _⟩ := I1.tuple hq
    exact wpAny_pyIter_tuple (show s1.heap.IsTuple a its.toArray from pl) ⟨_, [s1.heap.objs.size], _, _, H1, rfl, I2 _, turn_tuple a _, ⟨_, Heap.get?_push_size _ rfl, rfl, rfl⟩, fp, q⟩
theorem i_seq (ha : PE X a (rdE X.K xi W (den cf gl ia))) : PI X tg a (rdI X.K xi W (denI cf gl .seq [ia])) := by
  refine PI.imp (pi_seq ha) fun σ H R h => ?_
  obtain ⟨B, io, r, st, ok, env, h⟩ := h
  simp only [denI] at h
  rw [dens_one] at h
  refine ⟨B, io, r, st, ok, env, Post.split h fun x s1 v1 H1 io1 _ r1 ok1 st1 h1 => ?_⟩
  obtain ⟨⟨xs, ns, s1'⟩, e, h1⟩ := Post.of h1
  cases q : itemsOf s1 .seq [x] with
  | none => rw [q] at e; cases e
  | some ys =>
    rw [q] at e; cases e
    have q' : isSeq s1 x = some xs := q
    cases x with
    | tup ys =>
      cases q'
      obtain ⟨a, vs, rfl, t, rr⟩ := id r1
      exact ⟨a, rfl, .inr ⟨⟨vs, t.sq⟩, h1.here (g := Itt X.K a) (walk_tup (vs := vs) r1 ok1) ok1⟩⟩
    | lst ys =>
      obtain ⟨a, vs, rfl, t, rr⟩ := lst_view ok1 r1 (show isLst s1 (.lst ys) = some xs from q')
      exact ⟨a, rfl, .inl ⟨⟨vs, t⟩, h1.here (g := Itl X.K a) (walk_lst (vs := vs) r1 ok1 q') ok1⟩⟩
    | loc n =>
      obtain ⟨a, vs, rfl, t, rr⟩ := lst_view ok1 r1 (show isLst s1 (.loc n) = some xs from q')
      exact ⟨a, rfl, .inl ⟨⟨vs, t⟩, h1.here (g := Itl X.K a) (walk_lst (vs := vs) r1 ok1 q') ok1⟩⟩
    | scr n =>
      obtain ⟨a, vs, rfl, t, rr⟩ := lst_view ok1 r1 (show isLst s1 (.scr n) = some xs from q')
      exact ⟨a, rfl, .inl ⟨⟨vs, t⟩, h1.here (g := Itl X.K a) (walk_lst (vs := vs) r1 ok1 q') ok1⟩⟩
    | _ => cases q'
theorem i_zip {elts : List Expr} {kk : Nat} {tpos : Pos} (ha : PE X a (rdE X.K xi W (den cf gl ia))) (hb : PE X b (rdE X.K xi W (den cf gl ib))) (hg : Gl X "zip") (hm : X.mg "zip" = none) (h1 : nonStar a = true) (h2 : nonStar b = true) : PI X (.Tuple elts kk tpos) (.Call (.Name "zip" p) [a, b] [] pos) (rdI X.K xi W (denI cf gl .zip [ia, ib])) := by
  refine PI.imp (pi_zipZ hg hm (a_cons ha (a_cons hb a_nil h2) h1) h1 h2) fun σ H R h => ?_
  obtain ⟨B, io, r, st, ok, env, h⟩ := h
  refine ⟨B, io, r, st, ok, env, Post.split (k := fun ds s1 => .of s1 ((itemsOf s1 .zip ds).map fun xs => (xs, walked .zip ds, s1))) h fun ds s1 vs H1 io1 e1 r1 ok1 st1 h1 => ?_⟩
  have hl := dens_len e1
  obtain ⟨⟨xs, ns, s1'⟩, e, h1⟩ := Post.of h1
  match ds, hl with
  | [x, y], _ =>
    obtain ⟨v, w, rfl, rv, rw'⟩ := RVs.two r1
    cases q : itemsOf s1 .zip [x, y] with
    | none => rw [q] at e; cases e
    | some zs =>
      rw [q] at e; cases e
      simp only [itemsOf] at q
      split at q
      · rename_i xs ys q1 q2
        cases q
        obtain ⟨a, _, rfl, _⟩ := seq_view ok1 rv q1
        obtain ⟨b, _, rfl, _⟩ := seq_view ok1 rw' q2
        obtain ⟨us, t1, _⟩ := seqZ_view ok1 rv q1
        obtain ⟨ws, t2, _⟩ := seqZ_view ok1 rw' q2
        exact ⟨tupB x, tupB y, a, b, us, ws, rfl, t1, t2, h1.here (g := ItZ X.K (tupB x) (tupB y) a b) (walk_zipZ rv rw' q1 q2) ok1⟩
      · cases q
theorem i_enum {elts : List Expr} {kk : Nat} {tpos : Pos} (ha : PE X a (rdE X.K xi W (den cf gl ia))) (hg : Gl X "enumerate") (hm : X.mg "enumerate" = none) (h1 : nonStar a = true) : PI X (.Tuple elts kk tpos) (.Call (.Name "enumerate" p) [a] [] pos) (rdI X.K xi W (denI cf gl .enum [ia])) := by
  refine PI.imp (pi_enumZ hg hm (a_cons ha a_nil h1) (starOne h1)) fun σ H R h => ?_
  obtain ⟨B, io, r, st, ok, env, h⟩ := h
  refine ⟨B, io, r, st, ok, env, Post.split (k := fun ds s1 => .of s1 ((itemsOf s1 .enum ds).map fun xs => (xs, walked .enum ds, s1))) h fun ds s1 vs H1 io1 e1 r1 ok1 st1 h1 => ?_⟩
  have hl := dens_len e1
  obtain ⟨⟨xs, ns, s1'⟩, e, h1⟩ := Post.of h1
  match ds, hl with
  | [x], _ =>
    obtain ⟨v, rfl, rv⟩ := RVs.one r1
    cases q : itemsOf s1 .enum [x] with
    | none => rw [q] at e; cases e
    | some zs =>
      rw [q] at e; cases e
      simp only [itemsOf] at q
      cases q1 : isSeq s1 x with
      | none => rw [q1] at q; cases q
      | some ys =>
        rw [q1] at q; cases q
        obtain ⟨a, _, rfl, _⟩ := seq_view ok1 rv q1
        obtain ⟨us, t1, _⟩ := seqZ_view ok1 rv q1
        exact ⟨tupB x, a, us, rfl, t1, h1.here (g := IteZ X.K (tupB x) a) (walk_enum rv q1) ok1⟩
theorem i_rng1 (ha : PE X a (rdE X.K xi W (den cf gl ia))) (hg : Gl X "range") (hm : X.mg "range" = none) (h1 : nonStar a = true) : PI X tg (.Call (.Name "range" p) [a] [] pos) (rdI X.K xi W (denI cf gl .rng [ia])) := by
  refine PI.imp (pi_range1 hg hm (a_cons ha a_nil h1) (starOne h1)) fun σ H R h => ?_
  obtain ⟨B, io, r, st, ok, env, h⟩ := h
  refine ⟨B, io, r, st, ok, env, Post.split (k := fun ds s1 => .of s1 ((itemsOf s1 .rng ds).map fun xs => (xs, walked .rng ds, s1))) h fun ds s1 vs H1 io1 e1 r1 ok1 st1 h1 => ?_⟩
  have hl := dens_len e1
  obtain ⟨⟨xs, ns, s1'⟩, e, h1⟩ := Post.of h1
  match ds, hl with
  | [x], _ =>
    obtain ⟨j, rfl⟩ : ∃ j, x = .int j := by
      cases x with
      | int j => exact ⟨j, rfl⟩
      | _ => simp [itemsOf] at e
    obtain ⟨v, rfl, rv⟩ := RVs.one r1
    cases rv
    simp only [itemsOf] at e
    split at e
    · rename_i hj
      simp at e
      obtain ⟨rfl, rfl, rfl⟩ := e
      refine ⟨j, rfl, hj.1, hj.2, h1.here (g := Itr 0 j.toNat) ?_ ok1⟩
      have := walk_rng (K := X.K) (H1 := H1) (io1 := io1) (B := B) (s1 := s1) (lo := 0) (n := j.toNat) (ns := walked .rng [.int j])
      simp only [Int.zero_add] at this
      exact this
    · simp at e
theorem i_rng2 (ha : PE X a (rdE X.K xi W (den cf gl ia))) (hb : PE X b (rdE X.K xi W (den cf gl ib))) (hg : Gl X "range") (hm : X.mg "range" = none) (h1 : nonStar a = true) (h2 : nonStar b = true) : PI X tg (.Call (.Name "range" p) [a, b] [] pos) (rdI X.K xi W (denI cf gl .rng [ia, ib])) := by
  refine PI.imp (pi_range2 hg hm (a_cons ha (a_cons hb a_nil h2) h1) (by rw [starOne h1, starOne h2]; rfl) (starOne h2)) fun σ H R h => ?_
  obtain ⟨B, io, r, st, ok, env, h⟩ := h
  refine ⟨B, io, r, st, ok, env, Post.split (k := fun ds s1 => .of s1 ((itemsOf s1 .rng ds).map fun xs => (xs, walked .rng ds, s1))) h fun ds s1 vs H1 io1 e1 r1 ok1 st1 h1 => ?_⟩
  have hl := dens_len e1
  obtain ⟨⟨xs, ns, s1'⟩, e, h1⟩ := Post.of h1
  match ds, hl with
  | [x, y], _ =>
    obtain ⟨i, j, rfl, rfl⟩ : ∃ i j, x = .int i ∧ y = .int j := by
      cases x with
      | int i =>
        cases y with
        | int j => exact ⟨i, j, rfl, rfl⟩
        | _ => simp [itemsOf] at e
      | _ => cases y <;> simp [itemsOf] at e
    obtain ⟨v, w, rfl, rv, rw'⟩ := RVs.two r1
    cases rv; cases rw'
    simp only [itemsOf] at e
    split at e
    · rename_i hj
      simp at e
      obtain ⟨rfl, rfl, rfl⟩ := e
      exact ⟨i, j, rfl, ⟨hj.1.1, hj.1.2, hj.2.1, hj.2.2⟩, h1.here (g := Itr i (j - i).toNat) walk_rng ok1⟩
    · simp at e
theorem i_rng3 {c : Expr} {ic : Ex} (ha : PE X a (rdE X.K xi W (den cf gl ia))) (hb : PE X b (rdE X.K xi W (den cf gl ib))) (hc : PE X c (rdE X.K xi W (den cf gl ic))) (hg : Gl X "range") (hm : X.mg "range" = none) (h1 : nonStar a = true) (h2 : nonStar b = true) (h3 : nonStar c = true) : PI X tg (.Call (.Name "range" p) [a, b, c] [] pos) (rdI X.K xi W (denI cf gl .rng [ia, ib, ic])) := by
  refine PI.imp (pi_range3 hg hm (a_cons ha (a_cons hb (a_cons hc a_nil h3) h2) h1) (by rw [starOne h1, starOne h2, starOne h3]) (by rw [starOne h2, starOne h3]; rfl)) fun σ H R h => ?_
  obtain ⟨B, io, r, st, ok, env, h⟩ := h
  refine ⟨B, io, r, st, ok, env, Post.split (k := fun ds s1 => .of s1 ((itemsOf s1 .rng ds).map fun xs => (xs, walked .rng ds, s1))) h fun ds s1 vs H1 io1 e1 r1 ok1 st1 h1 => ?_⟩
  have hl := dens_len e1
  obtain ⟨⟨xs, ns, s1'⟩, e, h1⟩ := Post.of h1
  match ds, hl with
  | [x, y, z], _ =>
    obtain ⟨i, j, l, rfl, rfl, rfl⟩ : ∃ i j l, x = .int i ∧ y = .int j ∧ z = .int l := by
      cases x with
      | int i =>
        cases y with
        | int j =>
          cases z with
          | int l => exact ⟨i, j, l, rfl, rfl, rfl⟩
          | _ => simp [itemsOf] at e
        | _ => cases z <;> simp [itemsOf] at e
      | _ => cases y <;> cases z <;> simp [itemsOf] at e
    obtain ⟨v, r2, rfl, rv, w, r3, rfl, rw', u, r4, rfl, ru, rn⟩ := r1
    cases rv; cases rw'; cases ru; cases rn
    simp only [itemsOf] at e
    split at e
    · rename_i hj
      simp at e
      obtain ⟨rfl, rfl, rfl⟩ := e
      obtain ⟨h1', h2', rfl⟩ := hj
      exact ⟨i, j, -1, (i - j).toNat, rfl, RgC.neg h1'.1 h1'.2 h2'.1 h2'.2, h1.here (g := Itc i (-1) (i - j).toNat) walk_rngC ok1⟩
    · simp at e
end

/-! ### wiped slots -/
theorem wipe_get (σ : SL) (j : Nat) : ∀ vs : List Nat, (wipe σ vs)[j]? = if j ∈ vs then (σ[j]?).map (fun _ => none) else σ[j]?
  | [] => by simp [wipe]
  | v :: vs => by
    have ih := wipe_get σ j vs
    show ((wipe σ vs).set v none)[j]? = _
    rw [List.getElem?_set]
    by_cases h : v = j
    · subst h
      rw [wipe_length]
      simp
      split
      · rename_i hl; simp [hl]
      · rename_i hl; simp [List.getElem?_eq_none (Nat.le_of_not_lt hl)]
    · rw [if_neg h, ih]
      have : (j ∈ v :: vs) ↔ j ∈ vs := by simp [Ne.symm h]
      simp only [this]
theorem wipeD_get (r : DEnv) (j : Nat) : ∀ vs : List Nat, (wipeD r vs)[j]? = if j ∈ vs then (r[j]?).map (fun _ => none) else r[j]?
  | [] => by simp [wipeD]
  | v :: vs => by
    have ih := wipeD_get r j vs
    have hl : (wipeD r vs).length = r.length := by
      clear ih
      induction vs with
      | nil => rfl
      | cons w ws ih => simp [wipeD, ih]
    show ((wipeD r vs).set v none)[j]? = _
    rw [List.getElem?_set]
    by_cases h : v = j
    · subst h
      rw [hl]
      simp
      split
      · rename_i hl; simp [hl]
      · rename_i hl; simp [List.getElem?_eq_none (Nat.le_of_not_lt hl)]
    · rw [if_neg h, ih]
      have : (j ∈ v :: vs) ↔ j ∈ vs := by simp [Ne.symm h]
      simp only [this]
theorem wipeD_len (r : DEnv) : ∀ vs : List Nat, (wipeD r vs).length = r.length
  | [] => rfl
  | v :: vs => by simp [wipeD, wipeD_len r vs]
theorem EnvOk.wipe {K : PySem.W.Frag} {H : Hp} {io B : List Addr} {r : DEnv} {σ : SL} (e : EnvOk K H io B r σ) (vs : List Nat) : EnvOk K H io B (wipeD r vs) (L2.wipe σ vs) := by
  refine ⟨by rw [L2.wipe_length, wipeD_len]; exact e.len, fun i d h => ?_⟩
  rw [wipeD_get] at h
  rw [wipe_get]
  split at h
  · cases q : r[i]? <;> rw [q] at h <;> simp at h
  · rename_i hn
    rw [if_neg hn]
    exact e.get i d h
/-- the same slots but those at vs -/
def SameBut (vs : List Nat) (σ σ' : SL) : Prop := σ'.length = σ.length ∧ ∀ j, j ∉ vs → σ'[j]? = σ[j]?
theorem wipe_same {σ σ' : SL} {vs : List Nat} (h : SameBut vs σ σ') : wipe σ' vs = wipe σ vs := by
  apply List.ext_getElem?
  intro j
  rw [wipe_get, wipe_get]
  by_cases hj : j ∈ vs
  · rw [if_pos hj, if_pos hj]
    by_cases hl : j < σ.length
    · rw [List.getElem?_eq_getElem hl, List.getElem?_eq_getElem (by rw [h.1]; exact hl)]; rfl
    · rw [List.getElem?_eq_none (Nat.le_of_not_lt hl), List.getElem?_eq_none (by rw [h.1]; exact Nat.le_of_not_lt hl)]
  · rw [if_neg hj, if_neg hj, h.2 j hj]
theorem same_wipe (σ : SL) (vs : List Nat) : SameBut vs σ (wipe σ vs) := ⟨wipe_length σ vs, fun j hj => by rw [wipe_get, if_neg hj]⟩
theorem SameBut.set {σ σ' : SL} {vs : List Nat} {i : Nat} {v : Option V} (h : SameBut vs σ σ') (hi : i ∈ vs) : SameBut vs σ (σ'.set i v) := ⟨by rw [List.length_set]; exact h.1, fun j hj => by
  rw [List.getElem?_set_ne (fun e => by subst e; exact hj hi)]
  exact h.2 j hj⟩
theorem SameBut.wipe2 {σ σ' : SL} {vs : List Nat} (h : SameBut vs (wipe σ vs) σ') : wipe σ' vs = wipe (wipe σ vs) vs := wipe_same h
theorem wipe_wipe (σ : SL) (vs : List Nat) : wipe (wipe σ vs) vs = wipe σ vs := wipe_same (same_wipe σ vs)

/-! ### targets of a comprehension -/
section
variable {K : PySem.W.Frag}
/-- names in a row -/
def gNames : List Nat → TGs
  | [] => gNil
  | i :: is => gCons (gName i) (gNames is)
def gComp (K : PySem.W.Frag) (ts : List Nat) : TG := match ts with
  | [i] => gName i
  | ts => fun v σ H Q => gTup K ts.length (gNames ts) v σ H Q ∨ gUnl K ts.length (gNames ts) v σ H Q
theorem pg_or9 {X : Cx} {tg : Expr} {g1 g2 : TG} (h1 : PG X tg g1) (h2 : PG X tg g2) : PG X tg (fun v σ H Q => g1 v σ H Q ∨ g2 v σ H Q) :=
  ⟨fun pins s σ H v u Q I r h => h.elim (h1.run pins s σ H v u Q I r) (h2.run pins s σ H v u Q I r)⟩
theorem setAll_ok {H : Hp} {io B : List Addr} {vs : List Nat} {σ0 : SL} {Q : SL → Hp → Prop} : ∀ {ts : List Nat} {xs : List D} {ws : List V} {r r' : DEnv} {σ : SL}, setAll ts xs r = some r' → RVs K H io B xs ws → EnvOk K H io B r σ → SameBut vs σ0 σ → (∀ t ∈ ts, t ∈ vs) →
    (∀ σ2, EnvOk K H io B r' σ2 → SameBut vs σ0 σ2 → Q σ2 H) → gNames ts ws σ H Q
  | [], xs, ws, r, r', σ, e, _, _, _, _, _ => by cases xs <;> simp [setAll] at e
  | [i], [], ws, r, r', σ, e, _, _, _, _, _ => by simp [setAll] at e
  | [i], [x], ws, r, r', σ, e, h, env, sb, hm, q => by
    simp only [setAll] at e; cases e
    obtain ⟨v, rfl, hv⟩ := RVs.one h
    exact ⟨v, [], rfl, rfl, q _ (env.set hv) (sb.set (hm i (by simp)))⟩
  | [i], x :: y :: xs, ws, r, r', σ, e, _, _, _, _, _ => by simp [setAll] at e
  | i :: j :: ts, [], ws, r, r', σ, e, _, _, _, _, _ => by simp [setAll] at e
  | i :: j :: ts, x :: xs, ws, r, r', σ, e, h, env, sb, hm, q => by
    simp only [setAll] at e
    obtain ⟨v, rest, rfl, hv, hr⟩ := h
    exact ⟨v, rest, rfl, setAll_ok (ts := j :: ts) e hr (env.set hv) (sb.set (hm i (by simp))) (fun t ht => hm t (List.mem_cons_of_mem _ ht)) q⟩
theorem setAll_len : ∀ {ts : List Nat} {xs : List D} {r r' : DEnv}, setAll ts xs r = some r' → xs.length = ts.length
  | [], xs, _, _, e => by cases xs <;> simp [setAll] at e
  | [i], [], _, _, e => by simp [setAll] at e
  | [i], [x], _, _, _ => rfl
  | [i], x :: y :: xs, _, _, e => by simp [setAll] at e
  | i :: j :: ts, [], _, _, e => by simp [setAll] at e
  | i :: j :: ts, x :: xs, r, r', e => by
    simp only [setAll] at e
    simp [setAll_len (ts := j :: ts) e]
theorem bind_ok {H : Hp} {io B : List Addr} {ts : List Nat} {x : D} {v : V} {r r' : DEnv} {σ σ0 : SL} {Q : SL → Hp → Prop} (e : bindC ts x r = some r') (h : RV K H io B x v) (env : EnvOk K H io B r σ) (sb : SameBut ts σ0 σ)
    (q : ∀ σ2, EnvOk K H io B r' σ2 → SameBut ts σ0 σ2 → Q σ2 H) : gComp K ts v σ H Q := by
  match ts, e with
  | [i], e =>
    simp only [bindC] at e; cases e
    exact q _ (env.set h) (sb.set (by simp))
  | [], e =>
    simp only [bindC] at e
    cases x <;> simp [setAll] at e
  | i :: j :: ts, e =>
    simp only [bindC] at e
    cases x <;> try (simp at e; done)
    · rename_i xs
      obtain ⟨a, vs, rfl, t, rr⟩ := h
      refine .inl ⟨a, vs, rfl, t.sq, ?_, setAll_ok e rr env sb (fun t ht => ht) q⟩
      rw [rr.length]
      exact setAll_len e
    · rename_i xs
      obtain ⟨a, vs, rfl, t, rr⟩ := h
      refine .inr ⟨a, vs, rfl, .inl (.inl t.1), ?_, setAll_ok e rr env sb (fun t ht => ht) q⟩
      rw [rr.length]
      exact setAll_len e
end

/-! ### comprehensions -/
section
variable {K : PySem.W.Frag} {H : Hp} {io B : List Addr}
/-- a reserved object changes -/
theorem Tp.poke {D0 a : Addr} {o : HO} {vs : List V} (hD : D0 ∈ B) (t : Tp K H io B a vs) : Tp K (upd H D0 o) io B a vs := by
  rcases t with t | ⟨r, h1, h2⟩
  · exact .inl t
  · exact .inr ⟨rdKeep r fun o h => by rw [upd_ne (fun e => by subst e; exact h2 hD)]; exact h, h1, h2⟩
theorem Lr.poke {D0 a : Addr} {o : HO} {vs : List V} (hD : D0 ∈ B) (t : Lr K H io B a vs) : Lr K (upd H D0 o) io B a vs := by
  rcases t with t | ⟨r, h1, h2⟩
  · exact .inl t
  · exact .inr ⟨rdKeep r fun o h => by rw [upd_ne (fun e => by subst e; exact h2 hD)]; exact h, h1, h2⟩
mutual
theorem RV.poke {D0 : Addr} {o : HO} (hD : D0 ∈ B) : ∀ (d : D) (v : V), RV K H io B d v → RV K (upd H D0 o) io B d v
  | .non, _, h => h
  | .bl _, _, h => h
  | .int _, _, h => h
  | .str _, _, h => h
  | .tup xs, _, h => by
    obtain ⟨a, vs, e, t, r⟩ := h
    exact ⟨a, vs, e, t.poke hD, RVs.poke hD xs vs r⟩
  | .lst xs, _, h => by
    obtain ⟨a, vs, e, ⟨t1, t2, t3⟩, r⟩ := h
    exact ⟨a, vs, e, ⟨by rw [upd_ne (fun e => by subst e; exact t3 hD)]; exact t1, t2, t3⟩, RVs.poke hD xs vs r⟩
  | .loc n, _, h => h
  | .scr ns, _, h => by
    obtain ⟨a, e, t⟩ := h
    exact ⟨a, e, t.poke hD⟩
theorem RVs.poke {D0 : Addr} {o : HO} (hD : D0 ∈ B) : ∀ (ds : List D) (vs : List V), RVs K H io B ds vs → RVs K (upd H D0 o) io B ds vs
  | [], _, h => h
  | d :: ds, _, h => by
    obtain ⟨v, r, e, h1, h2⟩ := h
    exact ⟨v, r, e, RV.poke hD d v h1, RVs.poke hD ds r h2⟩
end
theorem StOk.notB {st : Store} (s : StOk K H io B st) {a : Addr} (h : a ∈ io) : a ∉ B := fun z => by
  have nd := s.nd
  rw [List.nodup_append] at nd
  exact nd.2.2 a h a z rfl
theorem StOk.poke {D0 : Addr} {o : HO} {st : Store} (hD : D0 ∈ B) (s : StOk K H io B st) : StOk K (upd H D0 o) io B st := by
  refine ⟨s.len, s.nd, fun n xs h => ?_, fun b hb => ?_⟩
  · obtain ⟨q, a, vs, h1, h2, h3⟩ := s.cont n xs h
    have : a ≠ D0 := fun e => by subst e; exact s.notB (List.mem_of_getElem? h1) hD
    exact ⟨q, a, vs, h1, by rw [upd_ne this]; exact h2, RVs.poke hD xs vs h3⟩
  · by_cases e : b = D0
    · subst e; rw [upd_same]; simp
    · rw [upd_ne e]; exact s.bt b hb
end
theorem compL_noexc {ns : List Nat} {body : D → Store → Res (Option D)} : ∀ (xs : List D) (st : Store) (c : Nat) (x : D) (s : Store), compL ns body xs st ≠ .exc c x s
  | [], st, c, x, s, e => by simp only [compL] at e; cases e
  | y :: ys, st, c, x, s, e => by
    simp only [compL] at e
    split at e
    · split at e
      · rename_i y' s1 _ _
        cases q : compL ns body ys s1 with
        | stuck => rw [q] at e; cases e
        | ok zs s2 => rw [q] at e; cases e
        | exc c' x' s' => exact compL_noexc ys s1 _ _ _ q
      · cases e
    · cases e
theorem stillB_iff {ns : List Nat} {a b : Store} (h : stillB ns a b = true) : still ns a b := by
  unfold stillB at h
  exact @of_decide_eq_true _ (Classical.propDecidable _) h

section
variable {xi : XI} {W : WX} {cf : Nat → List D → Store → Res D} {gl : Nat → Option D} {X : Cx} {elt tg iter : Expr} {ifs : List Expr} {scope : Scope} {own : List (Str × Nat)} {pos : Pos} {k : IK} {its : List Ex} {ic ie : Ex} {ts : List Nat}
abbrev WF : WX := fun _ _ _ _ => False
theorem tl_of {α : Type} {i : Nat} : ∀ {xs : List α} {x : α}, xs[i]? = some x → xs.drop i = x :: xs.drop (i + 1) := fun {xs x} h => by
  obtain ⟨hl, e⟩ := List.getElem?_eq_some_iff.mp h
  rw [List.drop_eq_getElem_cons hl, e]
theorem Res.bind_assoc {α β γ : Type} (f : Res α) (g : α → Store → Res β) (h : β → Store → Res γ) : (f.bind g).bind h = f.bind fun a s => (g a s).bind h := by
  cases f <;> rfl
/-- ir: the comprehension, or what goes on from its list -/
theorem comp_read {ir : Ex} (gf : List D → Store → Res D) (hir : ∀ r st, den cf gl ir r st = (den cf gl (.comp k its ts ic ie) r st).bind fun d s => match d with
      | .lst ys => gf ys s
      | _ => .stuck)
    (hfin : ∀ {B io io1 : List Addr} {σ : SL} {H H1 : Hp} {st : Store} {ys : List D} {vs : List V} {D0 : Addr} {Q : VK}, StOk X.K H io (D0 :: B) st → H D0 = some (.lst vs) → RVs X.K H io (D0 :: B) ys vs → H1 D0 = none → Stp io1 H1 io H → Post X.K xi W (RepE X.K B) B σ H1 io1 (gf ys st) Q → Q (.ref D0) H)
    (ho : own.map (·.2) = ts) (σ : SL) (H : Hp) (Q : VK) (h : rdE X.K xi W (den cf gl ir) σ H Q) : tLc (rdI X.K xi W (denI cf gl k its)) (gComp X.K ts) (rdT X.K xi WF (denT cf gl ic)) (rdE X.K xi WF (den cf gl ie)) (own.map (·.2)) σ H Q := by
  subst ho
  obtain ⟨B, io, r, st, okS, env, h⟩ := h
  generalize hbody : (fun x s1 => match bindC (own.map (·.2)) x (wipeD r (own.map (·.2))) with
      | some r' => (denT cf gl ic r' s1).bind fun k s2 => if k = true then (den cf gl ie r' s2).bind fun y s3 => .ok (some y) s3 else .ok none s2
      | none => .stuck : D → Store → Res (Option D)) = body
  have hden : den cf gl (.comp k its (own.map (·.2)) ic ie) r st = (denI cf gl k its r st).bind fun a s => (compL a.2.1 body a.1 s).bind fun ys s2 => if ys.length < sizeLine then .ok (.lst ys) s2 else .stuck := by
    simp only [den, denI]
    cases dens cf gl its r st with
    | ok ds s1 =>
      simp only [Res.bind]
      cases q : itemsOf s1 k ds with
      | none => rfl
      | some xs =>
        simp only [Option.map, Res.of, Res.bind]
        rw [← hbody]
        congr 1
        congr 1
        funext x s
        cases bindC (own.map (·.2)) x (wipeD r (own.map (·.2))) with
        | none => rfl
        | some r' =>
          simp only [denT]
          cases den cf gl ic r' s with
          | ok b s2 =>
            simp only [Res.bind]
            cases truth s2 b with
            | none => rfl
            | some k => cases k <;> rfl
          | _ => rfl
    | _ => rfl
  rw [hir, hden, Res.bind_assoc] at h
  refine ⟨B, io, r, st, okS, env, Post.split h fun a s1 J H1 io1 e1 rI ok1 stp1 h1 => ?_⟩
  obtain ⟨xs, ns, s1'⟩ := a
  have es : s1' = s1 := by
    simp only [denI] at e1
    cases q : dens cf gl its r st with
    | ok ds s2 =>
      rw [q] at e1
      simp only [Res.bind] at e1
      cases q2 : itemsOf s2 k ds with
      | none => rw [q2] at e1; cases e1
      | some ys => rw [q2] at e1; cases e1; rfl
    | _ => rw [q] at e1; cases e1
  subst es
  intro D0 hD
  have wk := rI (D0 :: B) (.inr ⟨D0, hD, rfl⟩)
  -- the whole run of the turns
  cases hrun : compL ns body xs s1' with
  | stuck => rw [hrun] at h1; exact h1.elim
  | exc c x s => exact absurd hrun (compL_noexc _ _ _ _ _)
  | ok total sf =>
    rw [hrun] at h1
    simp only [Res.bind] at h1
    have hlen : total.length < sizeLine := by
      by_cases q : total.length < sizeLine
      · exact q
      · rw [if_neg q] at h1; exact h1.elim
    rw [if_pos hlen] at h1
    simp only [Res.bind] at h1
    have env1 : EnvOk X.K H1 io1 (D0 :: B) (wipeD r (own.map (·.2))) (L2.wipe σ (own.map (·.2))) := ((env.mono stp1).resv hD).wipe _
    refine ⟨fun i m H' => m = xs.length - i ∧ i ≤ xs.length ∧ ∃ io' st' acc vs ys, StOk X.K H' io' (D0 :: B) st' ∧ Stp io1 H1 io' H' ∧ still ns s1' st' ∧ H' D0 = some (.lst vs) ∧ RVs X.K H' io' (D0 :: B) acc vs ∧ compL ns body (xs.drop i) st' = .ok ys sf ∧ acc ++ ys = total,
      ⟨xs.length, by simp, Nat.zero_le _, io1, s1', [], [], total, ok1.resv hD, Stp.new_tup hD, fun _ _ => rfl, upd_same, rfl, hrun, rfl⟩, ?_⟩
    rintro i m H' ⟨rfl, hi, io', st', acc, vs, ys, okk, sp, sl, hv, ra, hr, ht⟩
    obtain ⟨w1, w2⟩ := wk i H' io' st' okk sp.toR sl
    by_cases hlt : i < xs.length
    · obtain ⟨g, yl⟩ := w1 hlt
      refine .inr ⟨g, fun H'' => ∃ io' st' acc vs ys, StOk X.K H'' io' (D0 :: B) st' ∧ Stp io1 H1 io' H'' ∧ still ns s1' st' ∧ H'' D0 = some (.lst vs) ∧ RVs X.K H'' io' (D0 :: B) acc vs ∧ compL ns body (xs.drop (i + 1)) st' = .ok ys sf ∧ acc ++ ys = total,
        fun H'' q => ⟨xs.length - (i + 1), by omega, rfl, hlt, q⟩, fun x H'' hy => ?_⟩
      obtain ⟨ok2, sp2, d, hd, rx⟩ := yl x H'' hy
      have hio : ∀ {io2 : List Addr} {H2 : Hp} {s2 : Store}, StOk X.K H2 io2 (D0 :: B) s2 → D0 ∉ io2 := fun {io2 H2 s2} o z => o.notB z (by simp)
      rw [tl_of hd] at hr
      simp only [compL] at hr
      -- this turn's run
      have hb0 : body d st' = (match bindC (own.map (·.2)) d (wipeD r (own.map (·.2))) with
        | some r' => (denT cf gl ic r' st').bind fun k s2 => if k = true then (den cf gl ie r' s2).bind fun y s3 => .ok (some y) s3 else .ok none s2
        | none => .stuck) := by rw [← hbody]
      cases hbd : body d st' with
      | stuck => rw [hbd] at hr; cases hr
      | exc c x s => rw [hbd] at hr; cases hr
      | ok y st3 =>
        rw [hbd] at hr
        simp only at hr
        split at hr
        · rename_i hst
          rw [Bool.and_eq_true] at hst
          have hst1 := stillB_iff hst.1
          cases hrest : compL ns body (xs.drop (i + 1)) st3 with
          | stuck => rw [hrest] at hr; cases hr
          | exc c x s => rw [hrest] at hr; cases hr
          | ok zs s9 =>
            rw [hrest] at hr
            simp only [Res.bind] at hr
            injection hr with hr1 hr2
            subst hr2
            rw [hb0] at hbd
            cases hbc : bindC (own.map (·.2)) d (wipeD r (own.map (·.2))) with
            | none => rw [hbc] at hbd; cases hbd
            | some r' =>
              rw [hbc] at hbd
              simp only at hbd
              have env2 : EnvOk X.K H'' io' (D0 :: B) (wipeD r (own.map (·.2))) (L2.wipe σ (own.map (·.2))) := (env1.mono (sp.trans okk sp2))
              refine bind_ok hbc rx env2 (σ0 := L2.wipe σ (own.map (·.2))) ⟨rfl, fun _ _ => rfl⟩ fun σ2 env3 sb => ⟨?_, ?_⟩
              · rw [wipe_same sb, wipe_wipe]
              · cases htc : denT cf gl ic r' st' with
                | stuck => rw [htc] at hbd; cases hbd
                | exc c x s => rw [htc] at hbd; cases hbd
                | ok kk s2 =>
                  rw [htc] at hbd
                  simp only [Res.bind] at hbd
                  refine ⟨D0 :: B, io', r', st', ok2, env3, ?_⟩
                  rw [htc]
                  intro kk' H3 io3 ek ok3 sp3
                  cases ek
                  have spA : Stp io1 H1 io3 H3 := (sp.trans okk sp2).trans ok2 sp3
                  have hv3 : H3 D0 = some (.lst vs) := sp3.fr D0 _ (hio ok2) (sp2.fr D0 _ (hio okk) hv)
                  have ra3 : RVs X.K H3 io3 (D0 :: B) acc vs := RVs.mono sp3 _ _ (RVs.mono sp2 _ _ ra)
                  cases kk with
                  | false =>
                    rw [if_neg Bool.false_ne_true] at hbd ⊢
                    cases hbd
                    exact ⟨io3, st3, acc, vs, zs, ok3, spA, fun n hn => (hst1 n hn).trans (sl n hn), hv3, ra3, hrest, by rw [← ht, ← hr1]⟩
                  | true =>
                    rw [if_pos rfl] at hbd ⊢
                    cases hel : den cf gl ie r' s2 with
                    | stuck => rw [hel] at hbd; cases hbd
                    | exc c x s => rw [hel] at hbd; cases hbd
                    | ok y' s3 =>
                      rw [hel] at hbd
                      cases hbd
                      refine ⟨D0 :: B, io3, r', s2, ok3, env3.mono sp3, ?_⟩
                      rw [hel]
                      intro v H4 io4 rv4 ok4 sp4
                      have hv4 : H4 D0 = some (.lst vs) := sp4.fr D0 _ (hio ok3) hv3
                      have ra4 := RVs.mono sp4 _ _ ra3
                      have hacc : vs.length < sizeLine := by
                        rw [ra4.length]
                        have : acc.length ≤ total.length := by rw [← ht]; simp
                        omega
                      have hm : D0 ∈ D0 :: B := by simp
                      refine ⟨vs, hv4, hacc, io4, st3, acc ++ [y'], vs ++ [v], zs, ok4.poke hm, ?_, fun n hn => (hst1 n hn).trans (sl n hn), upd_same, RVs.poke hm _ _ (RVs.append ra4 ⟨v, [], rfl, rv4, rfl⟩), hrest, ?_⟩
                      · have sp5 := spA.trans ok3 sp4
                        refine ⟨fun b o hb hh => ?_, sp5.ext⟩
                        rw [upd_ne (fun e => by rw [e, hD] at hh; cases hh)]
                        exact sp5.fr b o hb hh
                      · rw [← ht, ← hr1]; simp
        · cases hr
    · have hie : i = xs.length := by omega
      subst hie
      refine .inl ⟨w2 rfl, ?_⟩
      rw [List.drop_length] at hr
      simp only [compL] at hr
      cases hr
      simp only [List.append_nil] at ht
      subst ht
      exact hfin okk hv ra hD sp h1
theorem e_compG {ir : Ex} (hrd : ∀ (σ : SL) (H : Hp) (Q : VK), rdE X.K xi W (den cf gl ir) σ H Q → tLc (rdI X.K xi W (denI cf gl k its)) (gComp X.K ts) (rdT X.K xi WF (denT cf gl ic)) (rdE X.K xi WF (den cf gl ie)) (own.map (·.2)) σ H Q)
    (hc : X.calm = true) (hN : X.N.Nodup) (hi : PI X tg iter (rdI X.K xi W (denI cf gl k its))) (ok : BlkOk X.N X.env.scope scope own)
    (hg : ∀ (s : Shared) (H : Hp) (C : Addr) (cl : List (Str × Addr)) (fp : List Addr), PG (X.blk s H scope (compEnvC scope cl C X.env) fp) tg (gComp X.K ts))
    (ht : ∀ (s : Shared) (H : Hp) (C : Addr) (cl : List (Str × Addr)) (fp : List Addr), PTs (X.blk s H scope (compEnvC scope cl C X.env) fp) ifs (rdT X.K xi WF (denT cf gl ic)))
    (he : ∀ (s : Shared) (H : Hp) (C : Addr) (cl : List (Str × Addr)) (fp : List Addr), PE (X.blk s H scope (compEnvC scope cl C X.env) fp) elt (rdE X.K xi WF (den cf gl ie)))
    (hs : ∀ x, foldedSetIterable iter X.env x = pure x) : PE X (.ListComp elt [⟨tg, iter, ifs, 0⟩] scope pos) (rdE X.K xi W (den cf gl ir)) := PE.imp (pe_lc hc hN hi ok hg ht he hs) hrd
theorem comp_rd (ho : own.map (·.2) = ts) (σ0 : SL) (Hh : Hp) (Qq : VK) (h0 : rdE X.K xi W (den cf gl (.comp k its ts ic ie)) σ0 Hh Qq) : tLc (rdI X.K xi W (denI cf gl k its)) (gComp X.K ts) (rdT X.K xi WF (denT cf gl ic)) (rdE X.K xi WF (den cf gl ie)) (own.map (·.2)) σ0 Hh Qq := by
  refine comp_read (gf := fun ys s => .ok (.lst ys) s) (fun r st => ?_) (fun {B io io1 σ H H1 st ys vs D0 Q} okk hv ra hD sp h => ?_) ho σ0 Hh Qq h0
  · have key : ∀ (f : Res (List D)), (f.bind fun ys s2 => if ys.length < sizeLine then Res.ok (D.lst ys) s2 else .stuck) = (f.bind fun ys s2 => if ys.length < sizeLine then Res.ok (D.lst ys) s2 else .stuck).bind fun d s => match d with
        | .lst ys => .ok (.lst ys) s
        | _ => .stuck := fun f => by
      cases f with
      | ok ys s =>
        simp only [Res.bind]
        split <;> rfl
      | _ => rfl
    simp only [den]
    cases dens cf gl its r st with
    | ok ds s1 =>
      simp only [Res.bind]
      cases itemsOf s1 k ds with
      | none => rfl
      | some xs => exact key _
    | _ => rfl
  · have nd := okk.nd
    exact h (.ref D0) H io ⟨D0, vs, rfl, ⟨hv, fun z => okk.notB z (by simp), fun z => by
        rw [List.nodup_append] at nd
        exact (List.nodup_cons.mp nd.2.1).1 z⟩, RVs.unres _ _ ra⟩ okk.unres sp
theorem compLL_noexc {ns : List Nat} {body : D → Store → Res (List D)} : ∀ (xs : List D) (st : Store) (c : Nat) (x : D) (s : Store), compLL ns body xs st ≠ .exc c x s
  | [], st, c, x, s, e => by simp only [compLL] at e; cases e
  | y :: ys, st, c, x, s, e => by
    simp only [compLL] at e
    split at e
    · split at e
      · rename_i z s1 _ _
        cases q : compLL ns body ys s1 with
        | stuck => rw [q] at e; cases e
        | ok zs s2 => rw [q] at e; cases e
        | exc c' x' s' => exact compLL_noexc ys s1 _ _ _ q
      · cases e
    · cases e
/-- two for -/
theorem comp2_read {k1 : IK} {its1 : List Ex} {ts1 : List Nat} (ho : own.map (·.2) = ts ++ ts1) (σ : SL) (H : Hp) (Q : VK) (h : rdE X.K xi W (den cf gl (.comp2 k its ts k1 its1 ts1 ie)) σ H Q) :
    tLc2 (rdI X.K xi W (denI cf gl k its)) (gComp X.K ts) (rdT X.K xi WF (denT cf gl (.con (.bl true)))) (rdI X.K xi WF (denI cf gl k1 its1)) (gComp X.K ts1) (rdT X.K xi WF (denT cf gl (.con (.bl true)))) (rdE X.K xi WF (den cf gl ie)) (own.map (·.2)) ts1 σ H Q := by
  obtain ⟨B, io, r, st, okS, env, h⟩ := h
  generalize hbody1 : (fun (r' : DEnv) x1 s3 => match bindC ts1 x1 (wipeD r' ts1) with
      | some r2 => (den cf gl ie r2 s3).bind fun y s4 => .ok (some y) s4
      | none => .stuck : DEnv → D → Store → Res (Option D)) = body1
  generalize hbody : (fun x s1 => match bindC ts x (wipeD r (ts ++ ts1)) with
      | some r' => (denI cf gl k1 its1 r' s1).bind fun a s2 => compL a.2.1 (body1 r') a.1 s2
      | none => .stuck : D → Store → Res (List D)) = body
  have hden : den cf gl (.comp2 k its ts k1 its1 ts1 ie) r st = (denI cf gl k its r st).bind fun a s => (compLL a.2.1 body a.1 s).bind fun ys s2 => if ys.length < sizeLine then .ok (.lst ys) s2 else .stuck := by
    simp only [den, denI]
    cases dens cf gl its r st with
    | ok ds s1 =>
      simp only [Res.bind]
      cases q : itemsOf s1 k ds with
      | none => rfl
      | some xs =>
        simp only [Option.map, Res.of, Res.bind]
        rw [← hbody]
        congr 1
        congr 1
        funext x s
        cases bindC ts x (wipeD r (ts ++ ts1)) with
        | none => rfl
        | some r' =>
          simp only [denI]
          cases dens cf gl its1 r' s with
          | ok ds1 s2 =>
            simp only [Res.bind]
            cases itemsOf s2 k1 ds1 with
            | none => rfl
            | some xs1 =>
              simp only [Option.map, Res.of, Res.bind]
              rw [← hbody1]
              rfl
          | _ => rfl
    | _ => rfl
  have inv : ∀ {k : IK} {its : List Ex} {r : DEnv} {st s1 : Store} {a : List D × List Nat × Store}, denI cf gl k its r st = .ok a s1 → a.2.2 = s1 := fun {k its r st s1 a} e1 => by
    simp only [denI] at e1
    cases q : dens cf gl its r st with
    | ok ds s2 =>
      rw [q] at e1
      simp only [Res.bind] at e1
      cases q2 : itemsOf s2 k ds with
      | none => rw [q2] at e1; cases e1
      | some ys => rw [q2] at e1; cases e1; rfl
    | _ => rw [q] at e1; cases e1
  rw [hden] at h
  refine ⟨B, io, r, st, okS, env, Post.split h fun a s1 J H1 io1 e1 rI ok1 stp1 h1 => ?_⟩
  obtain ⟨xs, ns, s1'⟩ := a
  have es : s1' = s1 := inv e1
  subst es
  intro D0 hD
  have wk := rI (D0 :: B) (.inr ⟨D0, hD, rfl⟩)
  cases hrun : compLL ns body xs s1' with
  | stuck => rw [hrun] at h1; exact h1.elim
  | exc c x s => exact absurd hrun (compLL_noexc _ _ _ _ _)
  | ok total sf =>
    rw [hrun] at h1
    simp only [Res.bind] at h1
    have hlen : total.length < sizeLine := by
      by_cases q : total.length < sizeLine
      · exact q
      · rw [if_neg q] at h1; exact h1.elim
    rw [if_pos hlen] at h1
    have env1 : EnvOk X.K H1 io1 (D0 :: B) (wipeD r (ts ++ ts1)) (L2.wipe σ (ts ++ ts1)) := ((env.mono stp1).resv hD).wipe _
    have hm : D0 ∈ D0 :: B := by simp
    have hio : ∀ {io2 : List Addr} {H2 : Hp} {s2 : Store}, StOk X.K H2 io2 (D0 :: B) s2 → D0 ∉ io2 := fun {io2 H2 s2} o z => o.notB z (by simp)
    refine ⟨fun i m H' => m = xs.length - i ∧ i ≤ xs.length ∧ ∃ io' st' acc vs ys, StOk X.K H' io' (D0 :: B) st' ∧ Stp io1 H1 io' H' ∧ still ns s1' st' ∧ H' D0 = some (.lst vs) ∧ RVs X.K H' io' (D0 :: B) acc vs ∧ compLL ns body (xs.drop i) st' = .ok ys sf ∧ acc ++ ys = total,
      ⟨xs.length, by simp, Nat.zero_le _, io1, s1', [], [], total, ok1.resv hD, Stp.new_tup hD, fun _ _ => rfl, upd_same, rfl, hrun, rfl⟩, ?_⟩
    rintro i m H' ⟨rfl, hi, io', st', acc, vs, ys, okk, sp, sl, hv, ra, hr, ht⟩
    obtain ⟨w1, w2⟩ := wk i H' io' st' okk sp.toR sl
    by_cases hlt : i < xs.length
    · obtain ⟨g, yl⟩ := w1 hlt
      refine .inr ⟨g, fun H'' => ∃ io' st' acc vs ys, StOk X.K H'' io' (D0 :: B) st' ∧ Stp io1 H1 io' H'' ∧ still ns s1' st' ∧ H'' D0 = some (.lst vs) ∧ RVs X.K H'' io' (D0 :: B) acc vs ∧ compLL ns body (xs.drop (i + 1)) st' = .ok ys sf ∧ acc ++ ys = total,
        fun H'' q => ⟨xs.length - (i + 1), by omega, rfl, hlt, q⟩, fun x H'' hy => ?_⟩
      obtain ⟨ok2, sp2, d, hd, rx⟩ := yl x H'' hy
      rw [tl_of hd] at hr
      simp only [compLL] at hr
      have hb0 : body d st' = (match bindC ts d (wipeD r (ts ++ ts1)) with
        | some r' => (denI cf gl k1 its1 r' st').bind fun a s2 => compL a.2.1 (body1 r') a.1 s2
        | none => .stuck) := by rw [← hbody]
      cases hbd : body d st' with
      | stuck => rw [hbd] at hr; cases hr
      | exc c x s => rw [hbd] at hr; cases hr
      | ok tot1 st3 =>
        rw [hbd] at hr
        simp only at hr
        split at hr
        · rename_i hst
          rw [Bool.and_eq_true] at hst
          have hst1 := stillB_iff hst.1
          cases hrest : compLL ns body (xs.drop (i + 1)) st3 with
          | stuck => rw [hrest] at hr; cases hr
          | exc c x s => rw [hrest] at hr; cases hr
          | ok zs s9 =>
            rw [hrest] at hr
            simp only [Res.bind] at hr
            injection hr with hr1 hr2
            subst hr2
            rw [hb0] at hbd
            cases hbc : bindC ts d (wipeD r (ts ++ ts1)) with
            | none => rw [hbc] at hbd; cases hbd
            | some r' =>
              rw [hbc] at hbd
              simp only at hbd
              have env2 : EnvOk X.K H'' io' (D0 :: B) (wipeD r (ts ++ ts1)) (L2.wipe σ (ts ++ ts1)) := (env1.mono (sp.trans okk sp2))
              rw [ho]
              refine bind_ok hbc rx env2 (σ0 := L2.wipe σ (ts ++ ts1)) ⟨rfl, fun _ _ => rfl⟩ fun σ2 env3 sb => ⟨?_, ?_⟩
              · have sb' : SameBut (ts ++ ts1) (L2.wipe σ (ts ++ ts1)) σ2 := ⟨sb.1, fun j hj => sb.2 j fun z => hj (List.mem_append_left _ z)⟩
                rw [wipe_same sb', wipe_wipe]
              · refine ⟨D0 :: B, io', r', st', ok2, env3, ?_⟩
                show Post X.K xi WF RepT (D0 :: B) σ2 H'' io' ((den cf gl (.con (.bl true)) r' st').bind fun x st' => Res.of st' (truth st' x)) _
                simp only [den, Res.bind, truth, Res.of]
                intro kk' H3 io3 ek ok3 sp3
                cases ek
                rw [if_pos rfl]
                have spA : Stp io1 H1 io3 H3 := (sp.trans okk sp2).trans ok2 sp3
                have hv3 : H3 D0 = some (.lst vs) := sp3.fr D0 _ (hio ok2) (sp2.fr D0 _ (hio okk) hv)
                have ra3 : RVs X.K H3 io3 (D0 :: B) acc vs := RVs.mono sp3 _ _ (RVs.mono sp2 _ _ ra)
                -- the inner walk
                cases hin : denI cf gl k1 its1 r' st' with
                | stuck => rw [hin] at hbd; cases hbd
                | exc c x s => rw [hin] at hbd; cases hbd
                | ok a1 s2 =>
                  rw [hin] at hbd
                  simp only [Res.bind] at hbd
                  have ea1 := inv hin
                  obtain ⟨xs1, ns1, s2'⟩ := a1
                  have es2 : s2' = s2 := ea1
                  subst es2
                  simp only at hbd
                  refine ⟨D0 :: B, io3, r', st', ok3, env3.mono sp3, ?_⟩
                  rw [hin]
                  intro J1 H4 io4 rI1 ok4 sp4
                  have wk1 := rI1 (D0 :: B) (.inl rfl)
                  have hv4 : H4 D0 = some (.lst vs) := sp4.fr D0 _ (hio ok3) hv3
                  have ra4 := RVs.mono sp4 _ _ ra3
                  have spB := spA.trans ok3 sp4
                  refine ⟨fun j m H' => m = xs1.length - j ∧ j ≤ xs1.length ∧ ∃ io' st' don vs ys, StOk X.K H' io' (D0 :: B) st' ∧ StpR (D0 :: B) io4 H4 io' H' ∧ Stp io1 H1 io' H' ∧ still ns1 s2' st' ∧ H' D0 = some (.lst vs) ∧ RVs X.K H' io' (D0 :: B) (acc ++ don) vs ∧ compL ns1 (body1 r') (xs1.drop j) st' = .ok ys st3 ∧ don ++ ys = tot1 ∧ EnvOk X.K H' io' (D0 :: B) r' σ2,
                    ⟨xs1.length, by simp, Nat.zero_le _, io4, s2', [], vs, tot1, ok4, Stp.refl.toR, spB, fun _ _ => rfl, hv4, by rw [List.append_nil]; exact ra4, hbd, rfl, (env3.mono sp3).mono sp4⟩, ?_⟩
                  rintro j m H' ⟨rfl, hj, io5, st5, don, vs5, ys5, ok5, spJ, sp5, sl5, hv5, ra5, hr5, ht5, env5⟩
                  obtain ⟨u1, u2⟩ := wk1 j H' io5 st5 ok5 spJ sl5
                  by_cases hlt1 : j < xs1.length
                  · obtain ⟨g1, yl1⟩ := u1 hlt1
                    refine .inr ⟨g1, fun H'' => ∃ io' st' don vs ys, StOk X.K H'' io' (D0 :: B) st' ∧ StpR (D0 :: B) io4 H4 io' H'' ∧ Stp io1 H1 io' H'' ∧ still ns1 s2' st' ∧ H'' D0 = some (.lst vs) ∧ RVs X.K H'' io' (D0 :: B) (acc ++ don) vs ∧ compL ns1 (body1 r') (xs1.drop (j + 1)) st' = .ok ys st3 ∧ don ++ ys = tot1 ∧ EnvOk X.K H'' io' (D0 :: B) r' σ2,
                      fun H'' q => ⟨xs1.length - (j + 1), by omega, rfl, hlt1, q⟩, fun x1 H'' hy1 => ?_⟩
                    obtain ⟨ok6, sp6, d1, hd1, rx1⟩ := yl1 x1 H'' hy1
                    rw [tl_of hd1] at hr5
                    simp only [compL] at hr5
                    have hb1 : body1 r' d1 st5 = (match bindC ts1 d1 (wipeD r' ts1) with
                      | some r2 => (den cf gl ie r2 st5).bind fun y s4 => .ok (some y) s4
                      | none => .stuck) := by rw [← hbody1]
                    cases hbd1 : body1 r' d1 st5 with
                    | stuck => rw [hbd1] at hr5; cases hr5
                    | exc c x s => rw [hbd1] at hr5; cases hr5
                    | ok oy st6 =>
                      rw [hbd1] at hr5
                      simp only at hr5
                      split at hr5
                      · rename_i hst5
                        rw [Bool.and_eq_true] at hst5
                        have hst6 := stillB_iff hst5.1
                        cases hrest1 : compL ns1 (body1 r') (xs1.drop (j + 1)) st6 with
                        | stuck => rw [hrest1] at hr5; cases hr5
                        | exc c x s => rw [hrest1] at hr5; cases hr5
                        | ok zs1 s91 =>
                          rw [hrest1] at hr5
                          simp only [Res.bind] at hr5
                          injection hr5 with hr51 hr52
                          subst hr52
                          rw [hb1] at hbd1
                          cases hbc1 : bindC ts1 d1 (wipeD r' ts1) with
                          | none => rw [hbc1] at hbd1; cases hbd1
                          | some r2 =>
                            rw [hbc1] at hbd1
                            simp only at hbd1
                            have env6 : EnvOk X.K H'' io5 (D0 :: B) (wipeD r' ts1) (L2.wipe σ2 ts1) := (env5.mono sp6).wipe _
                            refine bind_ok hbc1 rx1 env6 (σ0 := L2.wipe σ2 ts1) ⟨rfl, fun _ _ => rfl⟩ fun σ3 env7 sb1 => ⟨?_, ?_⟩
                            · rw [wipe_same sb1, wipe_wipe]
                            · refine ⟨D0 :: B, io5, r2, st5, ok6, env7, ?_⟩
                              show Post X.K xi WF RepT (D0 :: B) σ3 H'' io5 ((den cf gl (.con (.bl true)) r2 st5).bind fun x st' => Res.of st' (truth st' x)) _
                              simp only [den, Res.bind, truth, Res.of]
                              intro kk1 H7 io7 ek1 ok7 sp7
                              cases ek1
                              rw [if_pos rfl]
                              cases hel : den cf gl ie r2 st5 with
                              | stuck => rw [hel] at hbd1; cases hbd1
                              | exc c x s => rw [hel] at hbd1; cases hbd1
                              | ok y' s3 =>
                                rw [hel] at hbd1
                                cases hbd1
                                refine ⟨D0 :: B, io7, r2, st5, ok7, env7.mono sp7, ?_⟩
                                rw [hel]
                                intro v H8 io8 rv8 ok8 sp8
                                have hv7 : H7 D0 = some (.lst vs5) := sp7.fr D0 _ (hio ok6) (sp6.fr D0 _ (hio ok5) hv5)
                                have hv8 : H8 D0 = some (.lst vs5) := sp8.fr D0 _ (hio ok7) hv7
                                have ra8 := RVs.mono sp8 _ _ (RVs.mono sp7 _ _ (RVs.mono sp6 _ _ ra5))
                                have hacc : vs5.length < sizeLine := by
                                  rw [ra8.length]
                                  have l1 : (acc ++ tot1).length ≤ total.length := by rw [← ht, ← hr1]; simp
                                  have l2 : don.length ≤ tot1.length := by rw [← ht5]; simp
                                  simp only [List.length_append] at l1 ⊢
                                  omega
                                have spX := ((sp5.trans ok5 sp6).trans ok6 sp7).trans ok7 sp8
                                have spY := ((spJ.trans ok5 sp6).trans ok6 sp7).trans ok7 sp8
                                refine ⟨vs5, hv8, hacc, io8, st6, don ++ [y'], vs5 ++ [v], zs1, ok8.poke hm, spY.poke hm, ⟨fun b o hb hh => by rw [upd_ne (fun e => by rw [e, hD] at hh; cases hh)]; exact spX.fr b o hb hh, spX.ext⟩, fun n hn => (hst6 n hn).trans (sl5 n hn), upd_same, ?_, hrest1, ?_, ?_⟩
                                · rw [← List.append_assoc]
                                  exact RVs.poke hm _ _ (RVs.append ra8 ⟨v, [], rfl, rv8, rfl⟩)
                                · rw [← ht5, ← hr51]; simp
                                · have env8 := ((env5.mono sp6).mono sp7).mono sp8
                                  exact ⟨env8.len, fun i d h => let ⟨v, h1, h2⟩ := env8.get i d h; ⟨v, h1, RV.poke hm _ _ h2⟩⟩
                      · cases hr5
                  · have hie : j = xs1.length := by omega
                    subst hie
                    refine .inl ⟨u2 rfl, ?_⟩
                    rw [List.drop_length] at hr5
                    simp only [compL] at hr5
                    cases hr5
                    simp only [List.append_nil] at ht5
                    subst ht5
                    exact ⟨io5, st3, acc ++ don, vs5, zs, ok5, sp5, fun n hn => (hst1 n hn).trans (sl n hn), hv5, ra5, hrest, by rw [← ht, ← hr1, List.append_assoc]⟩
        · cases hr
    · have hie : i = xs.length := by omega
      subst hie
      refine .inl ⟨w2 rfl, ?_⟩
      rw [List.drop_length] at hr
      simp only [compLL] at hr
      cases hr
      simp only [List.append_nil] at ht
      subst ht
      have nd := okk.nd
      exact h1 (.ref D0) H' io' ⟨D0, vs, rfl, ⟨hv, fun z => okk.notB z (by simp), fun z => by
        rw [List.nodup_append] at nd
        exact (List.nodup_cons.mp nd.2.1).1 z⟩, RVs.unres _ _ ra⟩ okk.unres sp
/-- a new list of the store -/
theorem StOk.ref {K : PySem.W.Frag} {H : Hp} {io B : List Addr} {st : Store} {p : Addr} {xs : List D} {vs : List V} (ok : StOk K H io (p :: B) st) (hp : H p = some (.lst vs)) (r : RVs K H io (p :: B) xs vs) (pu : pureAll xs = true) :
    StOk K H (io ++ [p]) B (st ++ [xs]) := by
  have nd := ok.nd
  rw [List.nodup_append] at nd
  obtain ⟨n1, n2, n3⟩ := nd
  have n2' := List.nodup_cons.mp n2
  have tr : ∀ (n : Nat) (d : D) (w : V), sizeOf d ≤ n → d.pure = true → RV K H io (p :: B) d w → RV K H (io ++ [p]) B d w := by
    have ta : ∀ c, c ∉ io → c ∉ p :: B → c ∉ io ++ [p] := fun c h1 h2 z => by
      rcases List.mem_append.mp z with z | z
      · exact h1 z
      · exact h2 (by simp at z; simp [z])
    have tb : ∀ c, c ∉ p :: B → c ∉ B := fun c h z => h (List.mem_cons_of_mem _ z)
    intro n
    induction n with
    | zero => intro d w hs; cases d <;> simp at hs
    | succ n ih =>
      have ihs : ∀ (ds : List D) (ws : List V), sizeOf ds ≤ n → pureAll ds = true → RVs K H io (p :: B) ds ws → RVs K H (io ++ [p]) B ds ws := by
        intro ds
        induction ds with
        | nil => intro ws _ _ h; exact h
        | cons d ds ih2 =>
          intro ws hs pu h
          obtain ⟨v, r, e, h1, h2⟩ := h
          simp only [pureAll, Bool.and_eq_true] at pu
          simp at hs
          exact ⟨v, r, e, ih d v (by omega) pu.1 h1, ih2 r (by omega) pu.2 h2⟩
      intro d w hs pd hd
      cases d with
      | tup xs =>
        obtain ⟨c, vs, e, t, r⟩ := hd
        simp at hs
        refine ⟨c, vs, e, ?_, ihs xs vs (by omega) (by simpa [D.pure] using pd) r⟩
        rcases t with t | ⟨t1, t2, t3⟩
        · exact .inl t
        · exact .inr ⟨t1, ta c t2 t3, tb c t3⟩
      | lst xs =>
        obtain ⟨c, vs, e, ⟨t1, t2, t3⟩, r⟩ := hd
        simp at hs
        exact ⟨c, vs, e, ⟨t1, ta c t2 t3, tb c t3⟩, ihs xs vs (by omega) (by simpa [D.pure] using pd) r⟩
      | scr ms =>
        obtain ⟨c, e, t⟩ := hd
        refine ⟨c, e, ?_⟩
        rcases t with t | ⟨t1, t2, t3⟩
        · exact .inl t
        · exact .inr ⟨t1, ta c t2 t3, tb c t3⟩
      | loc m => simp [D.pure] at pd
      | _ => exact hd
  have trs : ∀ (ds : List D) (ws : List V), pureAll ds = true → RVs K H io (p :: B) ds ws → RVs K H (io ++ [p]) B ds ws := by
    intro ds
    induction ds with
    | nil => intro ws _ h; exact h
    | cons d ds ih =>
      intro ws pu h
      obtain ⟨v, r, e, h1, h2⟩ := h
      simp only [pureAll, Bool.and_eq_true] at pu
      exact ⟨v, r, e, tr (sizeOf d) d v (Nat.le_refl _) pu.1 h1, ih r pu.2 h2⟩
  refine ⟨by rw [List.length_append, List.length_append, ok.len]; rfl, ?_, fun m ys hm => ?_, fun b hb => ok.bt b (List.mem_cons_of_mem _ hb)⟩
  · rw [List.nodup_append]
    refine ⟨?_, n2'.2, fun c hc e he => ?_⟩
    · rw [List.nodup_append]
      exact ⟨n1, by simp, fun c hc e he => n3 c hc e (by simp at he; simp [he])⟩
    · rcases List.mem_append.mp hc with z | z
      · exact n3 c z e (List.mem_cons_of_mem _ he)
      · have : c = p := by simpa using z
        subst this
        exact fun q => n2'.1 (by rw [q]; exact he)
  · by_cases hl : m < st.length
    · rw [List.getElem?_append_left hl] at hm
      obtain ⟨p', c, ws, k1, k2, k3⟩ := ok.cont m ys hm
      exact ⟨p', c, ws, by rw [List.getElem?_append_left (by rw [ok.len]; exact hl)]; exact k1, k2, trs ys ws p' k3⟩
    · rw [List.getElem?_append_right (Nat.le_of_not_lt hl)] at hm
      have hm3 : m = st.length := by
        have := (List.getElem?_eq_some_iff.mp hm).1
        simp at this; omega
      subst hm3
      simp at hm
      subst hm
      refine ⟨pu, p, vs, ?_, hp, trs xs vs pu r⟩
      rw [← ok.len, List.getElem?_append_right (Nat.le_refl _)]
      simp
theorem ref_fin {B io io1 : List Addr} {σ : SL} {H : Hp} {st : Store} {ys : List D} {vs : List V} {p : Addr} {Q : VK} (ok : StOk X.K H io (p :: B) st) (hv : H p = some (.lst vs)) (r : RVs X.K H io (p :: B) ys vs) {H0 : Hp} (h0 : H0 p = none) (s : Stp io1 H0 io H)
    (h : Post X.K xi W (RepE X.K B) B σ H0 io1 (refD st (.lst ys)) Q) : Q (.ref p) H := by
  simp only [refD] at h
  split at h
  · rename_i pu
    obtain ⟨ex, e, hex⟩ := s.ext
    refine h (.ref p) H (io ++ [p]) ⟨p, rfl, ?_⟩ (ok.ref hv r pu) ⟨s.fr, ex ++ [p], by rw [e, List.append_assoc], fun a ha => ?_⟩
    · rw [← ok.len, List.getElem?_append_right (Nat.le_refl _)]; simp
    · rcases List.mem_append.mp ha with ha | ha
      · exact hex a ha
      · have : a = p := by simpa using ha
        subst this; exact h0
  · exact h.elim
/-- a comprehension as a list of the store -/
theorem refc_rd (ho : own.map (·.2) = ts) (σ0 : SL) (Hh : Hp) (Qq : VK) (h0 : rdE X.K xi W (den cf gl (.ref (.comp k its ts ic ie))) σ0 Hh Qq) : tLc (rdI X.K xi W (denI cf gl k its)) (gComp X.K ts) (rdT X.K xi WF (denT cf gl ic)) (rdE X.K xi WF (den cf gl ie)) (own.map (·.2)) σ0 Hh Qq := by
  refine comp_read (gf := fun ys s => refD s (.lst ys)) (fun r st => ?_) (fun {B io io1 σ H H1 st ys vs D0 Q} okk hv ra hD sp h => ref_fin okk hv ra hD sp h) ho σ0 Hh Qq h0
  have e : (fun (d : D) (s : Store) => refD s d) = fun d s => match d with
      | .lst ys => refD s (.lst ys)
      | _ => .stuck := by
    funext d s
    cases d <;> rfl
  rw [← e]
  rfl
/-- [..] as a list of the store -/
theorem e_refl {es : List Expr} {ies : List Ex} (ha : PA X es (rdA X.K xi W (dens cf gl ies))) : PE X (.List es pos) (rdE X.K xi W (den cf gl (.ref (.op .lst ies)))) := by
  refine PE.imp (pe_lst ha) fun σ H Q h => ?_
  obtain ⟨B, io, r, st, ok, env, h⟩ := h
  simp only [den] at h
  rw [Res.bind_assoc] at h
  refine ⟨B, io, r, st, ok, env, Post.split h fun ds s1 vs H1 io1 e1 rv1 ok1 st1 h1 => ?_⟩
  have e' : opD s1 .lst ds = (if ds.length ≤ sizeLine then some (D.lst ds) else none) := by cases ds <;> rfl
  rw [e'] at h1
  split at h1
  · rename_i hl
    refine ⟨by rw [rv1.length]; exact hl, fun p hp => ?_⟩
    exact ref_fin (H0 := H1) (ok1.resv hp) upd_same (RVs.mono (Stp.new_tup hp) _ _ (RVs.resv hp _ _ rv1)) hp (Stp.new_tup hp) h1
  · exact h1.elim
/-- one list behind another, as a list of the store -/
theorem e_refAdd {ia ib : Ex} {a b : Expr} (ha : PE X a (rdE X.K xi W (den cf gl ia))) (hb : PE X b (rdE X.K xi W (den cf gl ib))) : PE X (.BinOp a .Add b pos) (rdE X.K xi W (den cf gl (.ref (.op .add [ia, ib])))) := by
  refine PE.imp (pe_op op_addA ha hb) fun σ H Q h => ?_
  obtain ⟨B, io, r, st, ok, env, h⟩ := h
  simp only [den] at h
  rw [Res.bind_assoc, dens_two] at h
  refine ⟨B, io, r, st, ok, env, Post.split h fun x s1 v1 H1 io1 _ r1 ok1 st1 h1 => ?_⟩
  refine ⟨B, io1, r, s1, ok1, env.mono st1, Post.split h1 fun y s2 v2 H2 io2 _ r2 ok2 st2 h2 => ?_⟩
  have r1' := RV.mono st2 _ _ r1
  have lists : ∀ {xs ys : List D}, isOwn s2 x = some xs → isOwn s2 y = some ys → Post X.K xi W (RepE X.K B) B σ H2 io2 ((Res.of s2 (if xs.length + ys.length ≤ sizeLine then some (D.lst (xs ++ ys)) else none)).bind fun d st => refD st d) Q → rAdd X.K v1 v2 H2 Q := fun {xs ys} ea eb e => by
    split at e
    · rename_i hl
      obtain ⟨p, vs, rfl, hp, q1⟩ := own_view ok2 r1' ea
      obtain ⟨q, ws, rfl, hq, q2⟩ := own_view ok2 r2 eb
      exact .inl (.inr ⟨p, q, vs, ws, rfl, rfl, hp, hq, by rw [q1.length, q2.length]; exact hl, fun n hn => ref_fin (ok2.resv hn) upd_same (RVs.mono (Stp.new_tup hn) _ _ (RVs.resv hn _ _ (q1.append q2))) hn (Stp.new_tup hn) e⟩)
    · exact e.elim
  cases x with
  | lst xs =>
    simp only [opD] at h2
    split at h2
    · rename_i u w k1 k2
      exact lists k1 k2 h2
    · exact h2.elim
  | loc n =>
    simp only [opD] at h2
    split at h2
    · rename_i u w k1 k2
      exact lists k1 k2 h2
    · exact h2.elim
  | int i =>
    cases y with
    | int j => exact h2.elim
    | _ => simp [opD, isOwn] at h2; exact h2.elim
  | tup xs =>
    cases y with
    | tup ys =>
      simp only [opD] at h2
      split at h2 <;> exact h2.elim
    | _ => simp [opD, isOwn] at h2; exact h2.elim
  | _ => simp [opD, isOwn] at h2; exact h2.elim
end
end L3

set_option maxHeartbeats 2000000
namespace L3
open L2 PySem PySem.Spec PyProof.Rows

/-! ### what is known of the program around -/
structure Glob where
  fn : List Str
  ps : List (List Str)
  con : List (Str × D)
  exn : List (Str × Str)
  free : List Str
  gcd : Bool
  isq : Bool
  kws : List (Nat × Nat)
/-- where an expression stands: the def's names, the scope in force, the block's own scope -/
structure SC where
  N : List Str
  sc : Scope
  blk : Option Scope
def SC.fn (S : SC) : Str → Bool := match S.blk with
  | none => fun _ => true
  | some s => fun x => s.names.lookup x == some .cell
structure Facts (G : Glob) (xi : XI) (cf : Nat → List D → Store → Res D) (gl : Nat → Option D) (k : Nat) (P : Program) (w : World) (K : PySem.W.Frag) (mg : Str → Option Value) (base : Heap) : Prop where
  free : ∀ x ∈ G.free, mg x = none
  con : ∀ (j : Nat) (x : Str) (d : D), G.con[j]? = some (x, d) → gl j = some d ∧ ∃ u v, mg x = some u ∧ RelV v u ∧ ∀ H io B, RV K H io B d v
  fns : ∀ (j : Nat) (x : Str) (ps : List Str), G.fn[j]? = some x → G.ps[j]? = some ps → ∃ f fd, mg x = some (.ref f) ∧ PySem.W.keepIn K (.ref f) = true ∧ Binds K fd ps [] ∧ (∀ n, (j, n) ∈ G.kws → KB K fd ps n) ∧ FnG P w K mg base k f fd ps (spOf K xi cf j ps.length)
  gcd : G.gcd = true → mg "gcd" = some (.builtin "math.gcd")
  isq : G.isq = true → mg "isqrt" = some (.builtin "math.isqrt")
structure Ctx (G : Glob) (xi : XI) (cf : Nat → List D → Store → Res D) (gl : Nat → Option D) (k : Nat) (S : SC) (W : WX) (X : Cx) : Prop where
  hN : X.N = S.N
  nd : S.N.Nodup
  sc : X.env.scope = S.sc
  fn : X.fn = S.fn
  calm : X.calm = true
  room : Room k X.A
  gd : X.A.guards = some []
  tk : Takes X W
  facts : Facts G xi cf gl k X.prog X.w X.K X.mg X.base

/-! ### the checker -/
def visB (sc : Scope) (x : Str) : Bool := match sc.names.lookup x with
  | some .local => true
  | some .cell => true
  | some .free => true
  | _ => false
def locB (S : SC) (x : Str) : Bool := match S.sc.names.lookup x with
  | some .local => true
  | some .cell => S.fn x
  | _ => false
def glB (sc : Scope) (x : Str) : Bool := match sc.names.lookup x with
  | some .globalImplicit => true
  | _ => false
def plainName (x : Str) : Bool := !(x == ("__debug__" : Str)) && !(x == ("__classdict__" : Str)) && !(x == ("__name__" : Str))
def bopOf : Operator → Option Op
  | .Add => some .add
  | .Sub => some .sub
  | .Mult => some .mul
  | .FloorDiv => some .fdiv
  | .Mod => some .md
  | .Pow => some .pow
  | .LShift => some .shl
  | _ => none
def copOf : CmpOp → Option Op
  | .Eq => some .eq
  | .NotEq => some .ne
  | .Lt => some .lt
  | .LtE => some .le
  | .Gt => some .gt
  | .GtE => some .ge
  | .In => some .memb
  | .NotIn => some .nmemb
  | .Is => some .isB
  | .IsNot => some .nisB
/-- built-in functions and classes by name, with the number of their arguments -/
def biTab : List (Str × (Op × Nat)) := [("len", (.len, 1)), ("abs", (.abs, 1)), ("int", (.int, 1)), ("str", (.str, 1)), ("max", (.max2, 2)), ("min", (.min2, 2)), ("sum", (.sum, 1)), ("all", (.all, 1)), ("any", (.any, 1)),
  ("tuple", (.tuple, 1)), ("list", (.list, 1)), ("repr", (.repr, 1)), ("divmod", (.divmod, 2))]
def biOf (x : Str) : Option (Op × Nat) := biTab.lookup x
def tyOf (x : Str) : Option Nat :=
  if x = "int" then some 0 else if x = "bool" then some 1 else if x = "tuple" then some 2 else if x = "list" then some 3 else if x = "str" then some 4 else none
def isNone : Expr → Bool
  | .Constant .none _ _ => true
  | _ => false
/-- an expression whose truth is asked by its value -/
def isTupE : Expr → Bool
  | .Tuple .. => true
  | _ => false
def plainTest : Expr → Bool
  | .BoolOp .. => false
  | .IfExp .. => false
  | .Compare .. => false
  | .UnaryOp .Not _ _ => false
  | _ => true
def nameOf (S : SC) (i : Nat) : Expr → Bool
  | .Name x _ => decide (S.N[i]? = some x) && locB S x
  | _ => false
def namesOf (S : SC) : List Nat → List Expr → Bool
  | [], [] => true
  | i :: is, e :: es => nameOf S i e && namesOf S is es
  | _, _ => false
/-- a comprehension's target -/
def tgB (S : SC) (ts : List Nat) (tg : Expr) : Bool := match ts with
  | [i] => nameOf S i tg
  | ts => match tg with
    | .Tuple es _ _ => namesOf S ts es
    | _ => false
def nonSet : Expr → Bool
  | .Set .. => false
  | _ => true
def blkSC (S : SC) (scope : Scope) : SC := ⟨S.N, relS scope S.sc, some scope⟩
def ownOf (S : SC) (ts : List Nat) : List (Str × Nat) := ts.map fun i => (S.N.getD i "", i)

section
variable (G : Glob) (S : SC)
def varB (i : Nat) : Expr → Bool
  | .Name x _ => decide (S.N[i]? = some x) && (visB S.sc x && plainName x)
  | _ => false
def conB : D → Expr → Bool
  | .int i, .Constant (.int j) _ _ => decide (i = j)
  | .bl i, .Constant (.bool j) _ _ => decide (i = j)
  | .non, .Constant .none _ _ => true
  | .str i, .Constant (.str j) _ _ => decide (i = j)
  | _, _ => false
def gloB (j : Nat) : Expr → Bool
  | .Name x _ => decide ((G.con[j]?).map (·.1) = some x) && (glB S.sc x && plainName x)
  | _ => false
def cmpArgs (o : Op) (a : Expr) (c : CmpOp) (b : Expr) : Option (List Expr) :=
  if (decide (o = .isN) && isNone b) = true then (match c with
    | .Is => some [a]
    | _ => none)
  else if (decide (o = .notN) && isNone b) = true then (match c with
    | .IsNot => some [a]
    | _ => none)
  else if (decide (copOf c = some o) && !behindInMarks c b) = true then some [a, b] else none
def bltArgs (o : Op) (x : Str) (as : List Expr) : Option (List Expr) :=
  if (decide (biOf x = some (o, as.length)) && (glB S.sc x && (decide (x ∈ G.free) && plainName x))) = true then some as else none
def callArgs (o : Op) (x : Str) (as : List Expr) : Option (List Expr) := match o, as with
  | .isi n, [a, .Name y _] => if (decide (x = "isinstance") && (decide (tyOf y = some n) && (glB S.sc x && (glB S.sc y && (decide (x ∈ G.free) && (decide (y ∈ G.free) && plainName y)))))) = true then some [a] else none
  | .gcd, [a, b] => if (decide (x = "gcd") && (G.gcd && glB S.sc x)) = true then some [a, b] else none
  | .isqrt, [a] => if (decide (x = "isqrt") && (G.isq && glB S.sc x)) = true then some [a] else none
  | o, as => bltArgs G S o x as
/-- the parts of an operation, where e is that operation -/
def opArgs (o : Op) : Expr → Option (List Expr)
  | .BinOp a b c _ => if bopOf b = some o then some [a, c] else none
  | .UnaryOp .USub a _ => if o = .neg then some [a] else none
  | .Compare a [c] [b] _ => cmpArgs o a c b
  | .Tuple as _ _ => if o = .tup then some as else none
  | .List as _ => if o = .lst then some as else none
  | .Subscript a (.Slice none none none _) _ => if o = .cut false false then some [a] else none
  | .Subscript a (.Slice (some b) none none _) _ => if o = .cut true false then some [a, b] else none
  | .Subscript a (.Slice none (some b) none _) _ => if o = .cut false true then some [a, b] else none
  | .Subscript a (.Slice (some b) (some c) none _) _ => if o = .cut true true then some [a, b, c] else none
  | .Subscript a (.Slice none none (some (.UnaryOp .USub (.Constant (.int 1) _ _) _)) _) _ => if o = .rev then some [a] else none
  | .Subscript a b _ => if (decide (o = .idx) && nonSlice b) = true then some [a, b] else none
  | .Call (.Name x _) (a :: as) [] _ => callArgs G S o x (a :: as)
  | _ => none
def isCmp1 : Expr → Bool
  | .Compare _ [_] [_] _ => true
  | _ => false
def callB (j : Nat) (x : Str) : Bool := decide (G.fn[j]? = some x) && (glB S.sc x && plainName x)
def kwB (j n m : Nat) (kws : List Keyword) : Bool := match G.ps[j]? with
  | some ps => decide (n + m = ps.length) && (decide (kwNames kws = (ps.drop n).map some) && (kws.isEmpty || decide ((j, n) ∈ G.kws)))
  | none => false
def kwVals : List Keyword → List Expr
  | [] => []
  | ⟨_, e, _⟩ :: r => e :: kwVals r
/-- the arguments of a call of the j-th def -/
def callParts (j n m : Nat) : Expr → Option (List Expr × List Expr)
  | .Call (.Name x _) as kws _ => if (callB G S j x && kwB G j n m kws) = true then some (as, kwVals kws) else none
  | _ => none
def iterParts (k : IK) (tg : Expr) : Expr → Option (List Expr)
  | .Call (.Name x p) as [] q => match k with
    | .rng => if (decide (x = "range") && (glB S.sc x && (decide (x ∈ G.free) && decide (as.length = 1 ∨ as.length = 2 ∨ as.length = 3)))) = true then some as else none
    | .seq => some [.Call (.Name x p) as [] q]
    | .zip => if (decide (x = "zip") && (glB S.sc x && (decide (x ∈ G.free) && (decide (as.length = 2) && isTupE tg)))) = true then some as else none
    | .enum => if (decide (x = "enumerate") && (glB S.sc x && (decide (x ∈ G.free) && (decide (as.length = 1) && isTupE tg)))) = true then some as else none
  | e => match k with
    | .seq => some [e]
    | _ => none
structure CParts where
  args : List Expr
  elt : Expr
  cond : Option Expr
  scope : Scope
def compParts (k : IK) (ts : List Nat) : Expr → Option CParts
  | .ListComp elt [⟨tg, iter, ifs, 0⟩] scope _ => match iterParts G S k tg iter with
    | some as => if (nonSet iter && (blkC S.N S.sc scope (ownOf S ts) && (decide (ts.all (· < S.N.length)) && tgB (blkSC S scope) ts tg))) = true then (match ifs with
        | [] => some ⟨as, elt, none, scope⟩
        | [t] => some ⟨as, elt, some t, scope⟩
        | _ => none) else none
    | none => none
  | _ => none
structure C2Parts where
  args : List Expr
  args1 : List Expr
  elt : Expr
  scope : Scope
/-- two for, no test -/
def comp2Parts (k : IK) (ts : List Nat) (k1 : IK) (ts1 : List Nat) : Expr → Option C2Parts
  | .ListComp elt [⟨tg, iter, [], 0⟩, ⟨tg1, iter1, [], 0⟩] scope _ => match iterParts G S k tg iter with
    | some as => match iterParts G (blkSC S scope) k1 tg1 iter1 with
      | some as1 => if ((nonSet iter && nonSet iter1) && (blkC S.N S.sc scope (ownOf S (ts ++ ts1)) && (decide ((ts ++ ts1).all (· < S.N.length)) && (tgB (blkSC S scope) ts tg && tgB (blkSC S scope) ts1 tg1)))) = true then some ⟨as, as1, elt, scope⟩ else none
      | none => none
    | none => none
  | _ => none
/-- a list that is made there -/
def isListE : Expr → Bool
  | .List .. => true
  | _ => false
def isAddE : Expr → Bool
  | .BinOp _ .Add _ _ => true
  | _ => false
def freshB (i : Ex) (e : Expr) : Bool := match i with
  | .op o _ => (decide (o = .lst) && isListE e) || (decide (o = .add) && isAddE e)
  | .comp .. => true
  | _ => false
def isTru : Ex → Bool
  | .con (.bl true) => true
  | _ => false
end
section
variable (G : Glob)
mutual
def chk (S : SC) : Ex → Expr → Bool
  | .var i, e => varB S i e
  | .con d, e => conB d e
  | .glo j, e => gloB G S j e
  | .op o es, e => match opArgs G S o e with
    | some as => (decide (o ≠ .cut true true) || noExs es) && chks S es as
    | none => false
  | .nott a, e => match e with
    | .UnaryOp .Not x _ => chk S a x
    | _ => false
  | .and2 a b, e => match e with
    | .BoolOp .And (x :: y :: r) p => chk S a x && chk S b (match r with
      | [] => y
      | _ => .BoolOp .And (y :: r) p)
    | _ => false
  | .or2 a b, e => match e with
    | .BoolOp .Or (x :: y :: r) p => chk S a x && chk S b (match r with
      | [] => y
      | _ => .BoolOp .Or (y :: r) p)
    | _ => false
  | .ifx c a b, e => match e with
    | .IfExp c' a' b' _ => chkT S c c' && (chk S a a' && chk S b b')
    | _ => false
  | .call j es ks, e => match callParts G S j es.length ks.length e with
    | some (as, bs) => chks S es as && chks S ks bs
    | none => false
  | .callr j es ks, e => match callParts G S j es.length ks.length e with
    | some (as, bs) => (!es.isEmpty && ks.isEmpty) && (chks S es as && chks S ks bs)
    | none => false
  | .comp k its ts c ie, e => match compParts G S k ts e with
    | some q => chks S its q.args && (chk (blkSC S q.scope) ie q.elt && (match q.cond with
      | some t => chkT (blkSC S q.scope) c t
      | none => isTru c))
    | none => false
  | .comp2 k its ts k1 its1 ts1 ie, e => match comp2Parts G S k ts k1 ts1 e with
    | some q => chks S its q.args && (chks (blkSC S q.scope) its1 q.args1 && chk (blkSC S q.scope) ie q.elt)
    | none => false
  | .ref e, ex => freshB e ex && chk S e ex
  | .chn o1 o2 a b c, e => match e with
    | .Compare x [c1, c2] [y, z] _ => (decide (copOf c1 = some o1) && (decide (copOf c2 = some o2) && !lastMarks [c1, c2] [y, z])) && (chk S a x && (chk S b y && chk S c z))
    | _ => false
  | .star a es, e => match e with
    | .Tuple (.Starred x _ :: xs) _ _ => chk S a x && chks S es xs
    | _ => false
/-- as a test -/
def chkT (S : SC) : Ex → Expr → Bool
  | .var i, e => varB S i e
  | .con d, e => conB d e
  | .glo j, e => gloB G S j e
  | .op o es, e => (plainTest e || isCmp1 e) && (match opArgs G S o e with
    | some as => (decide (o ≠ .cut true true) || noExs es) && chks S es as
    | none => false)
  | .nott a, e => match e with
    | .UnaryOp .Not x _ => chkT S a x
    | _ => false
  | .and2 a b, e => match e with
    | .BoolOp .And (x :: y :: r) p => chkT S a x && chkT S b (match r with
      | [] => y
      | _ => .BoolOp .And (y :: r) p)
    | _ => false
  | .or2 a b, e => match e with
    | .BoolOp .Or (x :: y :: r) p => chkT S a x && chkT S b (match r with
      | [] => y
      | _ => .BoolOp .Or (y :: r) p)
    | _ => false
  | .call j es ks, e => match callParts G S j es.length ks.length e with
    | some (as, bs) => chks S es as && chks S ks bs
    | none => false
  | .chn o1 o2 a b c, e => match e with
    | .Compare x [c1, c2] [y, z] _ => (decide (copOf c1 = some o1) && (decide (copOf c2 = some o2) && !lastMarks [c1, c2] [y, z])) && (chk S a x && (chk S b y && chk S c z))
    | _ => false
  | _, _ => false
def chks (S : SC) : List Ex → List Expr → Bool
  | [], as => as.isEmpty
  | i :: is, as => match as with
    | e :: es => nonStar e && (chk S i e && chks S is es)
    | [] => false
end
end
end L3

set_option maxHeartbeats 2000000
namespace L3
open L2 PySem PySem.Spec PyProof.Rows

theorem ba {a b : Bool} (h : (a && b) = true) : a = true ∧ b = true := Bool.and_eq_true_iff.mp h

section
variable {G : Glob} {xi : XI} {cf : Nat → List D → Store → Res D} {gl : Nat → Option D} {k : Nat} {S : SC} {W : WX} {X : Cx}

theorem vis_of (C : Ctx G xi cf gl k S W X) {x : Str} (h : visB S.sc x = true) : Vis X.env.scope x := by
  rw [C.sc]
  unfold visB at h
  unfold Vis
  split at h <;> first | (cases h; done) | simp [*]
theorem gl_of (C : Ctx G xi cf gl k S W X) {x : Str} (h : glB S.sc x = true) : Gl X x := by
  show X.env.scope.names.lookup x = some .globalImplicit
  rw [C.sc]
  unfold glB at h
  split at h
  · assumption
  · cases h
theorem plain_of {x : Str} (h : plainName x = true) : (x == ("__debug__" : Str)) = false ∧ (x == ("__classdict__" : Str)) = false ∧ x ≠ "__name__" := by
  unfold plainName at h
  obtain ⟨h, h3⟩ := ba h
  obtain ⟨h1, h2⟩ := ba h
  refine ⟨by simpa using h1, by simpa using h2, fun e => ?_⟩
  subst e
  simp at h3
theorem s_var (C : Ctx G xi cf gl k S W X) {i : Nat} {e : Expr} (h : varB S i e = true) : PE X e (rdE X.K xi W (den cf gl (.var i))) := by
  cases e <;> try (cases h; done)
  obtain ⟨h1, h2⟩ := ba h
  obtain ⟨h2, h3⟩ := ba h2
  obtain ⟨p1, p2, _⟩ := plain_of h3
  exact e_var (by rw [C.hN]; exact of_decide_eq_true h1) (vis_of C h2) p1 p2
theorem s_con {d : D} {e : Expr} (h : conB d e = true) : PE X e (rdE X.K xi W (den cf gl (.con d))) := by
  unfold conB at h
  split at h
  · have := of_decide_eq_true h; subst this
    exact e_con pe_int fun _ _ _ => rfl
  · have := of_decide_eq_true h; subst this
    exact e_con pe_bl fun _ _ _ => rfl
  · exact e_con pe_non fun _ _ _ => rfl
  · have := of_decide_eq_true h; subst this
    exact e_con pe_str fun _ _ _ => rfl
  · cases h
theorem s_glo (C : Ctx G xi cf gl k S W X) {j : Nat} {e : Expr} (h : gloB G S j e = true) : PE X e (rdE X.K xi W (den cf gl (.glo j))) := by
  cases e <;> try (cases h; done)
  rename_i x p
  obtain ⟨h1, h2⟩ := ba h
  obtain ⟨h2, h3⟩ := ba h2
  have h1 := of_decide_eq_true h1
  cases q : G.con[j]? with
  | none => rw [q] at h1; cases h1
  | some yd =>
    obtain ⟨y, d⟩ := yd
    rw [q] at h1
    have : y = x := Option.some.inj h1
    subst this
    obtain ⟨g1, u, v, g2, g3, g4⟩ := C.facts.con j y d q
    exact e_glo (pe_glob (gl_of C h2) g2 g3 (plain_of h3).1) g1 g4

/-- the parts of an argument list are as they are told -/
def PEs (xi : XI) (W : WX) (cf : Nat → List D → Store → Res D) (gl : Nat → Option D) (X : Cx) : List Expr → List Ex → Prop
  | [], [] => True
  | a :: as, i :: is => nonStar a = true ∧ PE X a (rdE X.K xi W (den cf gl i)) ∧ PEs xi W cf gl X as is
  | _, _ => False
theorem PEs.args : ∀ {as : List Expr} {is : List Ex}, PEs xi W cf gl X as is → PA X as (rdA X.K xi W (dens cf gl is))
  | [], [], _ => a_nil
  | a :: as, i :: is, ⟨h1, h2, h3⟩ => a_cons h2 h3.args h1
  | [], _ :: _, h => h.elim
  | _ :: _, [], h => h.elim
theorem PEs.stars : ∀ {as : List Expr} {is : List Ex}, PEs xi W cf gl X as is → as.all nonStar = true
  | [], [], _ => rfl
  | a :: as, i :: is, ⟨h1, h2, h3⟩ => by rw [List.all_cons, h1, h3.stars]; rfl
  | [], _ :: _, h => h.elim
  | _ :: _, [], h => h.elim
theorem PEs.len : ∀ {as : List Expr} {is : List Ex}, PEs xi W cf gl X as is → is.length = as.length
  | [], [], _ => rfl
  | a :: as, i :: is, ⟨h1, h2, h3⟩ => by simp [h3.len]
  | [], _ :: _, h => h.elim
  | _ :: _, [], h => h.elim
theorem PEs.one {a : Expr} {is : List Ex} (h : PEs xi W cf gl X [a] is) : ∃ i, is = [i] ∧ nonStar a = true ∧ PE X a (rdE X.K xi W (den cf gl i)) := by
  match is, h with
  | [i], h => exact ⟨i, rfl, h.1, h.2.1⟩
  | i :: j :: r, h => exact h.2.2.elim
theorem PEs.two {a b : Expr} {is : List Ex} (h : PEs xi W cf gl X [a, b] is) : ∃ i j, is = [i, j] ∧ nonStar a = true ∧ nonStar b = true ∧ PE X a (rdE X.K xi W (den cf gl i)) ∧ PE X b (rdE X.K xi W (den cf gl j)) := by
  match is, h with
  | [i], h => exact h.2.2.elim
  | [i, j], h => exact ⟨i, j, rfl, h.1, h.2.2.1, h.2.1, h.2.2.2.1⟩
  | i :: j :: l :: r, h => exact h.2.2.2.2.elim
theorem PEs.three {a b c : Expr} {is : List Ex} (h : PEs xi W cf gl X [a, b, c] is) : ∃ i j l, is = [i, j, l] ∧ PE X a (rdE X.K xi W (den cf gl i)) ∧ PE X b (rdE X.K xi W (den cf gl j)) ∧ PE X c (rdE X.K xi W (den cf gl l)) := by
  match is, h with
  | [i], h => exact h.2.2.elim
  | [i, j], h => exact h.2.2.2.2.elim
  | [i, j, l], h => exact ⟨i, j, l, rfl, h.2.1, h.2.2.2.1, h.2.2.2.2.2.1⟩
  | i :: j :: l :: m :: r, h => exact h.2.2.2.2.2.2.elim
theorem PEs.threeS {a b c : Expr} {is : List Ex} (h : PEs xi W cf gl X [a, b, c] is) : ∃ i j l, is = [i, j, l] ∧ (nonStar a = true ∧ nonStar b = true ∧ nonStar c = true) ∧ PE X a (rdE X.K xi W (den cf gl i)) ∧ PE X b (rdE X.K xi W (den cf gl j)) ∧ PE X c (rdE X.K xi W (den cf gl l)) := by
  match is, h with
  | [i], h => exact h.2.2.elim
  | [i, j], h => exact h.2.2.2.2.elim
  | [i, j, l], h => exact ⟨i, j, l, rfl, ⟨h.1, h.2.2.1, h.2.2.2.2.1⟩, h.2.1, h.2.2.2.1, h.2.2.2.2.2.1⟩
  | i :: j :: l :: m :: r, h => exact h.2.2.2.2.2.2.elim
theorem PEs.kws : ∀ {kws : List Keyword} {is : List Ex}, PEs xi W cf gl X (kwVals kws) is → PK X kws (rdA X.K xi W (dens cf gl is))
  | [], [], _ => k_nil
  | ⟨_, _, _⟩ :: kws, i :: is, ⟨h1, h2, h3⟩ => k_cons h2 h3.kws
  | [], _ :: _, h => h.elim
  | ⟨_, _, _⟩ :: _, [], h => h.elim

theorem s_bin (C : Ctx G xi cf gl k S W X) {o : Op} {bop : Operator} {a b : Expr} {ia ib : Ex} {pos : Pos} (h : bopOf bop = some o) (ha : PE X a (rdE X.K xi W (den cf gl ia))) (hb : PE X b (rdE X.K xi W (den cf gl ib))) : PE X (.BinOp a bop b pos) (rdE X.K xi W (den cf gl (.op o [ia, ib]))) := by
  cases bop <;> simp only [bopOf] at h <;> cases h
  · exact e_bin op_addA ok_add ha hb
  · exact e_bin op_subA ok_sub ha hb
  · exact e_bin op_mulA ok_mul ha hb
  · exact e_bin op_mod ok_mod ha hb
  · exact e_bin op_pow ok_pow ha hb
  · exact e_bin op_shl ok_shl ha hb
  · exact e_bin op_fdivW ok_fdiv ha hb
theorem cop_of (C : Ctx G xi cf gl k S W X) {c : CmpOp} {o : Op} (h : copOf c = some o) : ∃ r2, OpR X (compareOp c) r2 ∧ OkR2 X.K r2 o ∧ isCop o = true := by
  cases c <;> simp only [copOf] at h <;> cases h
  · exact ⟨_, op_eqS C.room.units, ok_eq, rfl⟩
  · exact ⟨_, op_neS C.room.units, ok_ne, rfl⟩
  · exact ⟨_, op_lt, ok_lt, rfl⟩
  · exact ⟨_, op_le, ok_le, rfl⟩
  · exact ⟨_, op_gt, ok_gt, rfl⟩
  · exact ⟨_, op_ge, ok_ge, rfl⟩
  · exact ⟨_, op_isBl, ok_isB, rfl⟩
  · exact ⟨_, op_notBl, ok_nisB, rfl⟩
  · exact ⟨_, op_inS (by have := C.room.un; omega), ok_memb, rfl⟩
  · exact ⟨_, op_notInS (by have := C.room.un; omega), ok_nmemb, rfl⟩
theorem none_of {b : Expr} (h : isNone b = true) : ∃ j p, b = .Constant .none j p := by
  cases b <;> try (cases h; done)
  rename_i c j p
  cases c <;> first | exact ⟨j, p, rfl⟩ | cases h
theorem s_cmp (C : Ctx G xi cf gl k S W X) {o : Op} {c : CmpOp} {a b : Expr} {as : List Expr} {is : List Ex} {pos : Pos} (h : cmpArgs o a c b = some as) (hp : PEs xi W cf gl X as is) :
    PE X (.Compare a [c] [b] pos) (rdE X.K xi W (den cf gl (.op o is))) ∧ PT X (.Compare a [c] [b] pos) (rdT X.K xi W (denT cf gl (.op o is))) := by
  unfold cmpArgs at h
  split at h
  · rename_i q
    obtain ⟨q1, q2⟩ := ba q
    have := of_decide_eq_true q1; subst this
    obtain ⟨j, p, rfl⟩ := none_of q2
    cases c <;> simp only [reduceCtorEq] at h
    cases h
    obtain ⟨i, rfl, _, he⟩ := hp.one
    exact ⟨e_isN he, t_isN he⟩
  · split at h
    · rename_i q
      obtain ⟨q1, q2⟩ := ba q
      have := of_decide_eq_true q1; subst this
      obtain ⟨j, p, rfl⟩ := none_of q2
      cases c <;> simp only [reduceCtorEq] at h
      cases h
      obtain ⟨i, rfl, _, he⟩ := hp.one
      exact ⟨e_notN he, t_notN he⟩
    · split at h
      · rename_i q
        cases h
        obtain ⟨i, j, rfl, _, _, ha, hb⟩ := hp.two
        obtain ⟨q1, q2⟩ := ba q
        obtain ⟨r2, h1, h2, h3⟩ := cop_of C (of_decide_eq_true q1)
        have hm : behindInMarks c b = false := by simpa using q2
        exact ⟨e_cmp h1 h2 ha hb hm, t_cmp h1 h2 h3 ha hb hm⟩
      · cases h
theorem len_one {α : Type} {l : List α} (h : 1 = l.length) : ∃ a, l = [a] := by
  match l, h with
  | [a], _ => exact ⟨a, rfl⟩
theorem s_blt (C : Ctx G xi cf gl k S W X) {o : Op} {x : Str} {a : Expr} {as bs : List Expr} {is : List Ex} {p pos : Pos} (h : bltArgs G S o x (a :: as) = some bs) (hp : PEs xi W cf gl X bs is) :
    PE X (.Call (.Name x p) (a :: as) [] pos) (rdE X.K xi W (den cf gl (.op o is))) := by
  unfold bltArgs at h
  split at h
  · rename_i q
    cases h
    obtain ⟨q1, q⟩ := ba q
    obtain ⟨q2, q⟩ := ba q
    obtain ⟨q3, q4⟩ := ba q
    have hb := of_decide_eq_true q1
    have hfree : X.mg x = none := C.facts.free x (of_decide_eq_true q3)
    have hg := gl_of C q2
    obtain ⟨d1, d2, d3⟩ := plain_of q4
    have ha := hp.args
    have hst := hp.stars
    rw [List.all_cons] at hst
    obtain ⟨s1, s2⟩ := ba hst
    have hm := PySem.mem_of_lookup hb
    simp only [biTab, List.mem_cons, List.not_mem_nil, or_false, Prod.mk.injEq] at hm
    rcases hm with ⟨hx, ho, hn⟩ | ⟨hx, ho, hn⟩ | ⟨hx, ho, hn⟩ | ⟨hx, ho, hn⟩ | ⟨hx, ho, hn⟩ | ⟨hx, ho, hn⟩ | ⟨hx, ho, hn⟩ | ⟨hx, ho, hn⟩ | ⟨hx, ho, hn⟩ | ⟨hx, ho, hn⟩ | ⟨hx, ho, hn⟩ | ⟨hx, ho, hn⟩ | ⟨hx, ho, hn⟩ <;> subst hx <;> subst ho
    · exact e_blt call_len_seq ok_len hg hfree PySem.boot_len ha d3 d1 s1 s2
    · exact e_blt call_abs ok_abs hg hfree (by decide +kernel) ha d3 d1 s1 s2
    · exact e_typ call_int1 ok_int hg hfree (by decide +kernel) ha d3 d1 s1 s2
    · exact e_typ call_str_int ok_str hg hfree (by decide +kernel) ha d3 d1 s1 s2
    · exact e_blt (call_max2 C.calm) ok_max2 hg hfree (by decide +kernel) ha d3 d1 s1 s2
    · exact e_blt (call_min2 C.calm) ok_min2 hg hfree (by decide +kernel) ha d3 d1 s1 s2
    · exact e_blt (cr_sum C.calm) ok_sum hg hfree (by decide +kernel) ha d3 d1 s1 s2
    · exact e_blt (cr_all C.calm) ok_all hg hfree (by decide +kernel) ha d3 d1 s1 s2
    · exact e_blt (cr_any C.calm) ok_any hg hfree (by decide +kernel) ha d3 d1 s1 s2
    · exact e_typ call_tuple_of ok_tuple hg hfree (by decide +kernel) ha d3 d1 s1 s2
    · exact e_typ call_list_of ok_list hg hfree (by decide +kernel) ha d3 d1 s1 s2
    · exact e_blt (call_reprA C.gd C.room.units) ok_repr hg hfree (by decide +kernel) ha d3 d1 s1 s2
    · exact e_blt call_divmod ok_divmod hg hfree (by decide +kernel) ha d3 d1 s1 s2
  · cases h
theorem ty_of {y : Str} {n : Nat} (h : tyOf y = some n) : n < 5 ∧ bootBuiltins y = some (.type (tyN n)) := by
  unfold tyOf at h
  split at h
  · rename_i hy; subst hy; cases h; exact ⟨by decide, by decide +kernel⟩
  split at h
  · rename_i hy; subst hy; cases h; exact ⟨by decide, by decide +kernel⟩
  split at h
  · rename_i hy; subst hy; cases h; exact ⟨by decide, by decide +kernel⟩
  split at h
  · rename_i hy; subst hy; cases h; exact ⟨by decide, by decide +kernel⟩
  split at h
  · rename_i hy; subst hy; cases h; exact ⟨by decide, by decide +kernel⟩
  · cases h
theorem s_ocall (C : Ctx G xi cf gl k S W X) {o : Op} {x : Str} {a : Expr} {as bs : List Expr} {is : List Ex} {p pos : Pos} (h : callArgs G S o x (a :: as) = some bs) (hp : PEs xi W cf gl X bs is) :
    PE X (.Call (.Name x p) (a :: as) [] pos) (rdE X.K xi W (den cf gl (.op o is))) := by
  unfold callArgs at h
  split at h
  · rename_i n a' y p2 e1
    injection e1 with e1 e2
    subst e1; subst e2
    split at h
    · rename_i q
      cases h
      obtain ⟨q1, q⟩ := ba q
      obtain ⟨q2, q⟩ := ba q
      obtain ⟨q3, q⟩ := ba q
      obtain ⟨q4, q⟩ := ba q
      obtain ⟨q5, q⟩ := ba q
      obtain ⟨q6, q7⟩ := ba q
      obtain ⟨i, rfl, s1, he⟩ := hp.one
      obtain ⟨hn, hv⟩ := ty_of (of_decide_eq_true q2)
      obtain ⟨d1, d2, d3⟩ := plain_of q7
      exact e_isi hn (gl_of C q3) (C.facts.free x (of_decide_eq_true q5)) (of_decide_eq_true q1) (gl_of C q4) (C.facts.free y (of_decide_eq_true q6)) hv d3 d1 he s1
    · cases h
  · rename_i a' b e1
    injection e1 with e1 e2
    subst e1; subst e2
    split at h
    · rename_i q
      cases h
      obtain ⟨q1, q⟩ := ba q
      obtain ⟨q2, q3⟩ := ba q
      have hx := of_decide_eq_true q1
      subst hx
      have hst := hp.stars
      rw [List.all_cons] at hst
      obtain ⟨s1, s2⟩ := ba hst
      exact e_imp cr_gcd ok_gcd (gl_of C q3) (C.facts.gcd q2) hp.args (by decide) s1 s2
    · cases h
  · rename_i a' e1
    injection e1 with e1 e2
    subst e1; subst e2
    split at h
    · rename_i q
      cases h
      obtain ⟨q1, q⟩ := ba q
      obtain ⟨q2, q3⟩ := ba q
      have hx := of_decide_eq_true q1
      subst hx
      have hst := hp.stars
      rw [List.all_cons] at hst
      obtain ⟨s1, s2⟩ := ba hst
      exact e_imp cr_isqrt ok_isqrt (gl_of C q3) (C.facts.isq q2) hp.args (by decide) s1 s2
    · cases h
  · exact s_blt C h hp
/-- an operation's parts give it, as a value and as a test -/
theorem s_op (C : Ctx G xi cf gl k S W X) {o : Op} {e : Expr} {as : List Expr} {is : List Ex} (h : opArgs G S o e = some as) (hx : o ≠ .cut true true ∨ noExs is = true) (hp : PEs xi W cf gl X as is) :
    PE X e (rdE X.K xi W (den cf gl (.op o is))) ∧ (isCmp1 e = true → PT X e (rdT X.K xi W (denT cf gl (.op o is)))) := by
  unfold opArgs at h
  split at h
  · split at h
    · rename_i hb
      cases h
      obtain ⟨i, j, rfl, _, _, ha, hc⟩ := hp.two
      exact ⟨s_bin C hb ha hc, fun z => by cases z⟩
    · cases h
  · split at h
    · rename_i ho
      cases h; subst ho
      obtain ⟨i, rfl, _, ha⟩ := hp.one
      exact ⟨e_neg ha, fun z => by cases z⟩
    · cases h
  · obtain ⟨h1, h2⟩ := s_cmp C (pos := by assumption) h hp
    exact ⟨h1, fun _ => h2⟩
  · split at h
    · rename_i ho
      cases h; subst ho
      exact ⟨e_tup hp.args, fun z => by cases z⟩
    · cases h
  · split at h
    · rename_i ho
      cases h; subst ho
      exact ⟨e_lst hp.args, fun z => by cases z⟩
    · cases h
  · split at h
    · rename_i ho
      cases h; subst ho
      obtain ⟨i, rfl, _, ha⟩ := hp.one
      exact ⟨e_cut00 ha, fun z => by cases z⟩
    · cases h
  · split at h
    · rename_i ho
      cases h; subst ho
      obtain ⟨i, j, rfl, _, _, ha, hb⟩ := hp.two
      exact ⟨e_cut10 ha hb, fun z => by cases z⟩
    · cases h
  · split at h
    · rename_i ho
      cases h; subst ho
      obtain ⟨i, j, rfl, _, _, ha, hb⟩ := hp.two
      exact ⟨e_cut01 ha hb, fun z => by cases z⟩
    · cases h
  · split at h
    · rename_i ho
      cases h; subst ho
      obtain ⟨i, j, l, rfl, ha, hb, hc⟩ := hp.three
      refine ⟨e_cut11 ha hb hc ?_, fun z => by cases z⟩
      rcases hx with hx | hx
      · exact absurd rfl hx
      · simp only [noExs, Bool.and_eq_true] at hx
        exact hx.2.2.1
    · cases h
  · split at h
    · rename_i ho
      cases h; subst ho
      obtain ⟨i, rfl, _, ha⟩ := hp.one
      exact ⟨e_rev ha, fun z => by cases z⟩
    · cases h
  · split at h
    · rename_i ho
      cases h
      obtain ⟨o1, o2⟩ := ba ho
      have := of_decide_eq_true o1; subst this
      obtain ⟨i, j, rfl, _, _, ha, hb⟩ := hp.two
      exact ⟨e_idx ha hb o2, fun z => by cases z⟩
    · cases h
  · exact ⟨s_ocall C h hp, fun z => by cases z⟩
  · cases h
/-- a call of an own def -/
theorem s_call (C : Ctx G xi cf gl k S W X) {j : Nat} {e : Expr} {as bs : List Expr} {is js : List Ex} (h : callParts G S j is.length js.length e = some (as, bs)) (hp : PEs xi W cf gl X as is) (hq : PEs xi W cf gl X bs js) :
    PE X e (rdE X.K xi W (den cf gl (.call j is js))) ∧ (js = [] → is ≠ [] → PE X e (rdE X.K xi W (den cf gl (.callr j is js)))) := by
  unfold callParts at h
  split at h
  · rename_i x p as' kws pos
    split at h
    · rename_i q
      cases h
      obtain ⟨q1, q2⟩ := ba q
      obtain ⟨q3, q⟩ := ba q1
      obtain ⟨q4, q5⟩ := ba q
      obtain ⟨d1, _, _⟩ := plain_of q5
      have hg := gl_of C q4
      unfold kwB at q2
      cases hps : G.ps[j]? with
      | none => rw [hps] at q2; cases q2
      | some ps =>
        rw [hps] at q2
        obtain ⟨r1, r2⟩ := ba q2
        obtain ⟨r2, r3⟩ := ba r2
        have l1 := of_decide_eq_true r1
        have l2 := of_decide_eq_true r2
        obtain ⟨f, fd, f1, f2, f3, f4, f5⟩ := C.facts.fns j x ps (of_decide_eq_true q3) hps
        have hst := hp.stars
        cases kws with
        | nil =>
          have hj : js = [] := by
            cases js with
            | nil => rfl
            | cons _ _ => exact hq.elim
          subst hj
          simp only [List.length_nil, Nat.add_zero] at l1
          cases as with
          | nil =>
            have hi : is = [] := by
              cases is with
              | nil => rfl
              | cons _ _ => exact hp.elim
            subst hi
            have hps0 : ps = [] := List.eq_nil_of_length_eq_zero l1.symm
            subst hps0
            exact ⟨e_call0 f5 C.gd C.room hg f1 f2 f3 C.tk d1, fun _ z => absurd rfl z⟩
          | cons a as =>
            rw [List.all_cons] at hst
            obtain ⟨s1, s2⟩ := ba hst
            exact ⟨e_call f5 C.gd C.room hg f1 f2 f3 C.tk hp.args l1 d1 s1 s2, fun _ _ => e_callr f5 C.gd C.room hg f1 f2 f3 C.tk hp.args l1 d1 s1 s2⟩
        | cons kw kws =>
          have hkw := hq.kws
          have hmem : (j, is.length) ∈ G.kws := by
            simp only [List.isEmpty_cons, Bool.false_or] at r3
            exact of_decide_eq_true r3
          have kb := f4 _ hmem
          cases as with
          | nil =>
            have hi : is = [] := by
              cases is with
              | nil => rfl
              | cons _ _ => exact hp.elim
            subst hi
            simp only [List.length_nil, Nat.zero_add, List.drop_zero] at l1 l2
            refine ⟨e_callk0 f5 C.gd C.room hg f1 f2 kb C.tk hkw l1 l2 d1, fun z => ?_⟩
            subst z
            cases kw; exact (show False from hq).elim
          | cons a as =>
            rw [List.all_cons] at hst
            obtain ⟨s1, s2⟩ := ba hst
            refine ⟨e_callk f5 C.gd C.room hg f1 f2 kb C.tk hp.args hkw rfl (by omega) (by omega) l2 d1 s1 s2, fun z => ?_⟩
            subst z
            cases kw; exact (show False from hq).elim
    · cases h
  · cases h
end
end L3

set_option maxHeartbeats 2000000
namespace L3
open L2 PySem PySem.Spec PyProof.Rows

section
variable {G : Glob} {xi : XI} {cf : Nat → List D → Store → Res D} {gl : Nat → Option D} {k : Nat} {S : SC} {W : WX} {X : Cx}

theorem takesF {X : Cx} : Takes X WF := fun _ _ x => by
  obtain ⟨_, _, _, _, _, _, _, _, _, _, _, _, _, _, _, _, z⟩ := x
  exact z.elim
/-- the context within a comprehension -/
theorem Ctx.blk (C : Ctx G xi cf gl k S W X) {scope : Scope} (s : Shared) (H : Hp) (A : Addr) (cl : List (Str × Addr)) (fp : List Addr) : Ctx G xi cf gl k (blkSC S scope) WF (X.blk s H scope (compEnvC scope cl A X.env) fp) :=
  ⟨C.hN, C.nd, by show relS scope X.env.scope = relS scope S.sc; rw [C.sc], rfl, C.calm, C.room, C.gd, takesF, C.facts⟩
theorem nm_of (C : Ctx G xi cf gl k S W X) {i : Nat} {e : Expr} (h : nameOf S i e = true) : PG X e (gName i) := by
  obtain ⟨x, p, rfl⟩ : ∃ x p, e = .Name x p := by
    cases e with
    | Name x p => exact ⟨x, p, rfl⟩
    | _ => cases h
  obtain ⟨h1, h2⟩ := ba h
  have hi : X.N[i]? = some x := by rw [C.hN]; exact of_decide_eq_true h1
  unfold locB at h2
  have hnd : X.N.Nodup := by rw [C.hN]; exact C.nd
  split at h2
  · rename_i q
    exact pg_name hnd hi (by rw [C.sc]; exact .inl q) (.inr (by rw [C.sc]; exact q))
  · rename_i q
    exact pg_name hnd hi (by rw [C.sc]; exact .inr q) (.inl (by rw [C.fn]; exact h2))
  · cases h2
theorem assignEach_cons {e : Expr} {es : List Expr} {env : Env} (h : nonStar e = true) : assignEach (e :: es) env = (false, assign e env) :: assignEach es env := by
  cases e <;> first | rfl | cases h
theorem nameOf_star {i : Nat} {e : Expr} (h : nameOf S i e = true) : nonStar e = true := by
  cases e <;> first | rfl | cases h
theorem nms_of (C : Ctx G xi cf gl k S W X) : ∀ {is : List Nat} {es : List Expr}, namesOf S is es = true → PGs X es (gNames is) ∧ (assignEach es X.env).length = is.length ∧ (assignEach es X.env).findIdx? (·.1) = none
  | [], [], _ => ⟨pgs_nil, rfl, rfl⟩
  | i :: is, e :: es, h => by
    obtain ⟨h1, h2⟩ := ba h
    obtain ⟨r1, r2, r3⟩ := nms_of C h2
    have q := assignEach_cons (es := es) (env := X.env) (nameOf_star h1)
    refine ⟨pgs_cons (nm_of C h1) r1 (by rw [q]; rfl), by rw [q, List.length_cons, r2, List.length_cons], ?_⟩
    rw [q, List.findIdx?_cons, r3]; rfl
  | [], _ :: _, h => by cases h
  | _ :: _, [], h => by cases h
theorem tg_of (C : Ctx G xi cf gl k S W X) {ts : List Nat} {tg : Expr} (h : tgB S ts tg = true) : PG X tg (gComp X.K ts) := by
  match ts, h with
  | [i], h => exact nm_of C h
  | [], h =>
    obtain ⟨es, n, p, rfl⟩ : ∃ es n p, tg = .Tuple es n p := by
      cases tg with
      | Tuple es n p => exact ⟨es, n, p, rfl⟩
      | _ => cases h
    obtain ⟨r1, r2, r3⟩ := nms_of C (show namesOf S [] es = true from h)
    exact pg_or9 (pg_tup C.calm r1 r2 r3) (pg_unl C.calm r1 r2 r3)
  | i :: j :: ts, h =>
    obtain ⟨es, n, p, rfl⟩ : ∃ es n p, tg = .Tuple es n p := by
      cases tg with
      | Tuple es n p => exact ⟨es, n, p, rfl⟩
      | _ => cases h
    obtain ⟨r1, r2, r3⟩ := nms_of C (show namesOf S (i :: j :: ts) es = true from h)
    exact pg_or9 (pg_tup C.calm r1 r2 r3) (pg_unl C.calm r1 r2 r3)
theorem foldOk {e : Expr} {env : Env} (h : nonSet e = true) : ∀ x, foldedSetIterable e env x = pure x := by
  intro x
  cases e <;> first | rfl | cases h
/-- what is walked -/
theorem s_iter (C : Ctx G xi cf gl k S W X) {ik : IK} {e tg : Expr} {as : List Expr} {is : List Ex} (h : iterParts G S ik tg e = some as) (hp : PEs xi W cf gl X as is) : PI X tg e (rdI X.K xi W (denI cf gl ik is)) := by
  have seqv : ∀ {e : Expr}, PEs xi W cf gl X [e] is → PI X tg e (rdI X.K xi W (denI cf gl .seq is)) := fun {e} hp => by
    obtain ⟨i, rfl, _, he⟩ := hp.one
    exact i_seq he
  unfold iterParts at h
  split at h
  · rename_i x p as' q
    cases ik with
    | seq =>
      simp only at h; cases h
      exact seqv hp
    | rng =>
      simp only at h
      split at h
      · rename_i z
        cases h
        obtain ⟨z1, z⟩ := ba z
        obtain ⟨z2, z⟩ := ba z
        obtain ⟨z3, z4⟩ := ba z
        have hx := of_decide_eq_true z1
        subst hx
        have hg := gl_of C z2
        have hm : X.mg "range" = none := C.facts.free _ (of_decide_eq_true z3)
        rcases of_decide_eq_true z4 with l | l | l
        · obtain ⟨a, rfl⟩ := List.length_eq_one_iff.mp l
          obtain ⟨i, rfl, s1, he⟩ := hp.one
          exact i_rng1 he hg hm s1
        · obtain ⟨a, b, rfl⟩ : ∃ a b, as = [a, b] := by
            match as, l with
            | [a, b], _ => exact ⟨a, b, rfl⟩
          obtain ⟨i, j, rfl, s1, s2, ha, hb⟩ := hp.two
          exact i_rng2 ha hb hg hm s1 s2
        · obtain ⟨a, b, c, rfl⟩ : ∃ a b c, as = [a, b, c] := by
            match as, l with
            | [a, b, c], _ => exact ⟨a, b, c, rfl⟩
          obtain ⟨i, j, l, rfl, ⟨s1, s2, s3⟩, ha, hb, hc⟩ := hp.threeS
          exact i_rng3 ha hb hc hg hm s1 s2 s3
      · cases h
    | zip =>
      simp only at h
      split at h
      · rename_i z
        cases h
        obtain ⟨z1, z⟩ := ba z
        obtain ⟨z2, z⟩ := ba z
        obtain ⟨z3, z⟩ := ba z
        obtain ⟨z4, z5⟩ := ba z
        have hx := of_decide_eq_true z1
        subst hx
        have hg := gl_of C z2
        have hm : X.mg "zip" = none := C.facts.free _ (of_decide_eq_true z3)
        obtain ⟨a, b, rfl⟩ : ∃ a b, as = [a, b] := by
          match as, of_decide_eq_true z4 with
          | [a, b], _ => exact ⟨a, b, rfl⟩
        obtain ⟨i, j, rfl, s1, s2, ha, hb⟩ := hp.two
        obtain ⟨ts, k1, p1, rfl⟩ : ∃ ts k1 p1, tg = .Tuple ts k1 p1 := by cases tg <;> first | exact ⟨_, _, _, rfl⟩ | cases z5
        exact i_zip ha hb hg hm s1 s2
      · cases h
    | enum =>
      simp only at h
      split at h
      · rename_i z
        cases h
        obtain ⟨z1, z⟩ := ba z
        obtain ⟨z2, z⟩ := ba z
        obtain ⟨z3, z⟩ := ba z
        obtain ⟨z4, z5⟩ := ba z
        have hx := of_decide_eq_true z1
        subst hx
        have hg := gl_of C z2
        have hm : X.mg "enumerate" = none := C.facts.free _ (of_decide_eq_true z3)
        obtain ⟨a, rfl⟩ := List.length_eq_one_iff.mp (of_decide_eq_true z4)
        obtain ⟨i, rfl, s1, he⟩ := hp.one
        obtain ⟨ts, k1, p1, rfl⟩ : ∃ ts k1 p1, tg = .Tuple ts k1 p1 := by cases tg <;> first | exact ⟨_, _, _, rfl⟩ | cases z5
        exact i_enum he hg hm s1
      · cases h
  · cases ik with
    | seq =>
      simp only at h; cases h
      exact seqv hp
    | _ => simp only [reduceCtorEq] at h
theorem own_map {S : SC} {ts : List Nat} : (ownOf S ts).map (·.2) = ts := by
  unfold ownOf
  rw [List.map_map]
  exact List.map_id _
/-- a comprehension -/
theorem s_comp (C : Ctx G xi cf gl k S W X) {ik : IK} {ts : List Nat} {e : Expr} {q : CParts} {its : List Ex} {ic ie : Ex} (h : compParts G S ik ts e = some q) (hp : PEs xi W cf gl X q.args its)
    (he : ∀ X', Ctx G xi cf gl k (blkSC S q.scope) WF X' → PE X' q.elt (rdE X'.K xi WF (den cf gl ie)))
    (hc : match q.cond with
      | some t => ∀ X', Ctx G xi cf gl k (blkSC S q.scope) WF X' → PT X' t (rdT X'.K xi WF (denT cf gl ic))
      | none => isTru ic = true) : PE X e (rdE X.K xi W (den cf gl (.comp ik its ts ic ie))) := by
  unfold compParts at h
  split at h
  · rename_i elt tg iter ifs scope pos
    split at h
    · rename_i as hi
      split at h
      · rename_i z
        obtain ⟨z1, z⟩ := ba z
        obtain ⟨z2, z⟩ := ba z
        obtain ⟨z3, z4⟩ := ba z
        have nd : X.N.Nodup := by rw [C.hN]; exact C.nd
        have blk : BlkOk X.N X.env.scope scope (ownOf S ts) := by rw [C.hN, C.sc]; exact blkOk_by z2
        have go : ∀ (hargs : PEs xi W cf gl X as its) (hcond : ∀ (s : Shared) (H : Hp) (A : Addr) (cl : List (Str × Addr)) (fp : List Addr), PTs (X.blk s H scope (compEnvC scope cl A X.env) fp) ifs (rdT X.K xi WF (denT cf gl ic)))
            (helt : ∀ X', Ctx G xi cf gl k (blkSC S scope) WF X' → PE X' elt (rdE X'.K xi WF (den cf gl ie))), PE X (.ListComp elt [⟨tg, iter, ifs, 0⟩] scope pos) (rdE X.K xi W (den cf gl (.comp ik its ts ic ie))) := fun hargs hcond helt =>
          e_compG (comp_rd own_map) C.calm nd (s_iter C hi hargs) blk (fun s H A cl fp => tg_of (C.blk s H A cl fp) z4) hcond (fun s H A cl fp => helt _ (C.blk s H A cl fp)) (foldOk z1)
        split at h
        · cases h
          refine go hp (fun s H A cl fp => ?_) he
          cases ic with
          | con d =>
            cases d with
            | bl b =>
              cases b with
              | true =>
                exact ⟨fun pins s1 σ H1 Q I h => pts_nil.run pins s1 σ H1 Q I (by
                  obtain ⟨B, io, r, st, ok, env, h⟩ := h
                  exact h.here (g := true) rfl ok)⟩
              | false => cases hc
            | _ => cases hc
          | _ => cases hc
        · cases h
          refine go hp (fun s H A cl fp => pts_one (hc _ (C.blk s H A cl fp))) he
        · cases h
      · cases h
    · cases h
  · cases h

/-- two for -/
theorem tru_pts {X' : Cx} : PTs X' [] (rdT X'.K xi WF (denT cf gl (.con (.bl true)))) := ⟨fun pins s1 σ H1 Q I h => pts_nil.run pins s1 σ H1 Q I (by
  obtain ⟨B, io, r, st, ok, env, h⟩ := h
  exact h.here (g := true) rfl ok)⟩
theorem s_comp2 (C : Ctx G xi cf gl k S W X) {ik ik1 : IK} {ts ts1 : List Nat} {e : Expr} {q : C2Parts} {its its1 : List Ex} {ie : Ex} (h : comp2Parts G S ik ts ik1 ts1 e = some q) (hp : PEs xi W cf gl X q.args its)
    (hp1 : ∀ X', Ctx G xi cf gl k (blkSC S q.scope) WF X' → PEs xi WF cf gl X' q.args1 its1)
    (he : ∀ X', Ctx G xi cf gl k (blkSC S q.scope) WF X' → PE X' q.elt (rdE X'.K xi WF (den cf gl ie))) : PE X e (rdE X.K xi W (den cf gl (.comp2 ik its ts ik1 its1 ts1 ie))) := by
  unfold comp2Parts at h
  split at h
  · rename_i elt tg iter tg1 iter1 scope pos
    split at h
    · rename_i as hi
      split at h
      · rename_i as1 hi1
        split at h
        · rename_i z
          cases h
          obtain ⟨z0, z⟩ := ba z
          obtain ⟨z1, z1'⟩ := ba z0
          obtain ⟨z2, z⟩ := ba z
          obtain ⟨z3, z4⟩ := ba z
          obtain ⟨z5, z6⟩ := ba z4
          have nd : X.N.Nodup := by rw [C.hN]; exact C.nd
          have blk : BlkOk X.N X.env.scope scope (ownOf S (ts ++ ts1)) := by rw [C.hN, C.sc]; exact blkOk_by z2
          exact PE.imp (pe_lc2 C.calm nd (s_iter C hi hp) blk (fun i hi => by rw [own_map]; exact List.mem_append_right _ hi) (fun s H A cl fp => tg_of (C.blk s H A cl fp) z5) (fun s H A cl fp => tru_pts)
            (fun s H A cl fp => s_iter (C.blk s H A cl fp) hi1 (hp1 _ (C.blk s H A cl fp))) (fun s H A cl fp => tg_of (C.blk s H A cl fp) z6) (fun s H A cl fp => tru_pts) (fun s H A cl fp => he _ (C.blk s H A cl fp)) (foldOk z1) (fun _ => foldOk z1'))
            fun σ H Q h => comp2_read own_map σ H Q h
        · cases h
      · cases h
    · cases h
  · cases h
/-- a comprehension -/
theorem s_compR (C : Ctx G xi cf gl k S W X) {ik : IK} {ts : List Nat} {e : Expr} {q : CParts} {its : List Ex} {ic ie : Ex} (h : compParts G S ik ts e = some q) (hp : PEs xi W cf gl X q.args its)
    (he : ∀ X', Ctx G xi cf gl k (blkSC S q.scope) WF X' → PE X' q.elt (rdE X'.K xi WF (den cf gl ie)))
    (hc : match q.cond with
      | some t => ∀ X', Ctx G xi cf gl k (blkSC S q.scope) WF X' → PT X' t (rdT X'.K xi WF (denT cf gl ic))
      | none => isTru ic = true) : PE X e (rdE X.K xi W (den cf gl (.ref (.comp ik its ts ic ie)))) := by
  unfold compParts at h
  split at h
  · rename_i elt tg iter ifs scope pos
    split at h
    · rename_i as hi
      split at h
      · rename_i z
        obtain ⟨z1, z⟩ := ba z
        obtain ⟨z2, z⟩ := ba z
        obtain ⟨z3, z4⟩ := ba z
        have nd : X.N.Nodup := by rw [C.hN]; exact C.nd
        have blk : BlkOk X.N X.env.scope scope (ownOf S ts) := by rw [C.hN, C.sc]; exact blkOk_by z2
        have go : ∀ (hargs : PEs xi W cf gl X as its) (hcond : ∀ (s : Shared) (H : Hp) (A : Addr) (cl : List (Str × Addr)) (fp : List Addr), PTs (X.blk s H scope (compEnvC scope cl A X.env) fp) ifs (rdT X.K xi WF (denT cf gl ic)))
            (helt : ∀ X', Ctx G xi cf gl k (blkSC S scope) WF X' → PE X' elt (rdE X'.K xi WF (den cf gl ie))), PE X (.ListComp elt [⟨tg, iter, ifs, 0⟩] scope pos) (rdE X.K xi W (den cf gl (.ref (.comp ik its ts ic ie)))) := fun hargs hcond helt =>
          e_compG (refc_rd own_map) C.calm nd (s_iter C hi hargs) blk (fun s H A cl fp => tg_of (C.blk s H A cl fp) z4) hcond (fun s H A cl fp => helt _ (C.blk s H A cl fp)) (foldOk z1)
        split at h
        · cases h
          refine go hp (fun s H A cl fp => ?_) he
          cases ic with
          | con d =>
            cases d with
            | bl b =>
              cases b with
              | true =>
                exact ⟨fun pins s1 σ H1 Q I h => pts_nil.run pins s1 σ H1 Q I (by
                  obtain ⟨B, io, r, st, ok, env, h⟩ := h
                  exact h.here (g := true) rfl ok)⟩
              | false => cases hc
            | _ => cases hc
          | _ => cases hc
        · cases h
          refine go hp (fun s H A cl fp => pts_one (hc _ (C.blk s H A cl fp))) he
        · cases h
      · cases h
    · cases h
  · cases h

theorem plain_isTrue {e : Expr} {env : Env} (h : plainTest e = true) : ∀ whole, isTrue e env whole = (do let v ← whole; standAt e.pos; holding [v] (truthy v)) := by
  intro w
  cases e with
  | UnaryOp u a p => cases u <;> first | rfl | cases h
  | _ => first | rfl | cases h

theorem or_end {a b : Bool} (h : (a || b) = true) : a = true ∨ b = true := Bool.or_eq_true_iff.mp h
theorem cut_ok {o : Op} {es : List Ex} (h : (decide (o ≠ .cut true true) || noExs es) = true) : o ≠ .cut true true ∨ noExs es = true := by
  rcases or_end h with h | h
  · exact .inl (of_decide_eq_true h)
  · exact .inr h
mutual
theorem soundE : ∀ (i : Ex) (S : SC) (W : WX) (X : Cx) (e : Expr), Ctx G xi cf gl k S W X → chk G S i e = true → PE X e (rdE X.K xi W (den cf gl i))
  | .var i, S, W, X, e, C, h => s_var C (by simpa only [chk] using h)
  | .con d, S, W, X, e, C, h => s_con (by simpa only [chk] using h)
  | .glo j, S, W, X, e, C, h => s_glo C (by simpa only [chk] using h)
  | .op o es, S, W, X, e, C, h => by
    simp only [chk] at h
    cases q : opArgs G S o e with
    | none => rw [q] at h; cases h
    | some as =>
      rw [q] at h
      obtain ⟨h1, h2⟩ := ba h
      exact (s_op C q (cut_ok h1) (soundA es S W X as C h2)).1
  | .nott a, S, W, X, e, C, h => by
    simp only [chk] at h
    split at h
    · exact e_nott (soundE a S W X _ C h)
    · cases h
  | .and2 a b, S, W, X, e, C, h => by
    simp only [chk] at h
    split at h
    · rename_i x y r p
      obtain ⟨h1, h2⟩ := ba h
      have hb := soundE b S W X _ C h2
      cases r with
      | nil => exact e_and (soundE a S W X _ C h1) (pe_one hb)
      | cons z r => exact e_and (soundE a S W X _ C h1) hb
    · cases h
  | .or2 a b, S, W, X, e, C, h => by
    simp only [chk] at h
    split at h
    · rename_i x y r p
      obtain ⟨h1, h2⟩ := ba h
      have hb := soundE b S W X _ C h2
      cases r with
      | nil => exact e_or (soundE a S W X _ C h1) (pe_one hb)
      | cons z r => exact e_or (soundE a S W X _ C h1) hb
    · cases h
  | .ifx c a b, S, W, X, e, C, h => by
    simp only [chk] at h
    split at h
    · obtain ⟨h1, h2⟩ := ba h
      obtain ⟨h2, h3⟩ := ba h2
      exact e_ifx (soundT c S W X _ C h1) (soundE a S W X _ C h2) (soundE b S W X _ C h3)
    · cases h
  | .call j es ks, S, W, X, e, C, h => by
    simp only [chk] at h
    cases q : callParts G S j es.length ks.length e with
    | none => rw [q] at h; cases h
    | some ab =>
      obtain ⟨as, bs⟩ := ab
      rw [q] at h
      obtain ⟨h1, h2⟩ := ba h
      exact (s_call C q (soundA es S W X as C h1) (soundA ks S W X bs C h2)).1
  | .callr j es ks, S, W, X, e, C, h => by
    simp only [chk] at h
    cases q : callParts G S j es.length ks.length e with
    | none => rw [q] at h; cases h
    | some ab =>
      obtain ⟨as, bs⟩ := ab
      rw [q] at h
      obtain ⟨h0, h⟩ := ba h
      obtain ⟨h1, h2⟩ := ba h
      obtain ⟨h0, h00⟩ := ba h0
      exact (s_call C q (soundA es S W X as C h1) (soundA ks S W X bs C h2)).2 (List.isEmpty_iff.mp h00) (fun z => by rw [z] at h0; simp at h0)
  | .comp ik its ts c ie, S, W, X, e, C, h => by
    simp only [chk] at h
    cases q : compParts G S ik ts e with
    | none => rw [q] at h; cases h
    | some cp =>
      rw [q] at h
      obtain ⟨h1, h⟩ := ba h
      obtain ⟨h2, h3⟩ := ba h
      refine s_comp C q (soundA its S W X _ C h1) (fun X' C' => soundE ie _ _ X' _ C' h2) ?_
      cases qc : cp.cond with
      | some t =>
        rw [qc] at h3
        exact fun X' C' => soundT c _ _ X' _ C' h3
      | none =>
        rw [qc] at h3
        exact h3
  | .comp2 ik its ts ik1 its1 ts1 ie, S, W, X, e, C, h => by
    simp only [chk] at h
    cases q : comp2Parts G S ik ts ik1 ts1 e with
    | none => rw [q] at h; cases h
    | some cp =>
      rw [q] at h
      obtain ⟨h1, h⟩ := ba h
      obtain ⟨h2, h3⟩ := ba h
      exact s_comp2 C q (soundA its S W X _ C h1) (fun X' C' => soundA its1 _ _ X' _ C' h2) (fun X' C' => soundE ie _ _ X' _ C' h3)
  | .ref (.op o es), S, W, X, ex, C, h => by
    simp only [chk] at h
    obtain ⟨h0, h⟩ := ba h
    have h0 : (decide (o = .lst) && isListE ex) = true ∨ (decide (o = .add) && isAddE ex) = true := by
      simpa only [freshB, Bool.or_eq_true] using h0
    rcases h0 with h0 | h0
    · have hl : o = .lst ∧ ∃ as p, ex = .List as p := by
        obtain ⟨k1, k2⟩ := ba h0
        refine ⟨of_decide_eq_true k1, ?_⟩
        cases ex with
        | List as p => exact ⟨as, p, rfl⟩
        | _ => cases k2
      obtain ⟨rfl, as, p, rfl⟩ := hl
      simp only [opArgs, if_pos] at h
      obtain ⟨_, h⟩ := ba h
      exact e_refl (soundA es S W X as C h).args
    · have hl : o = .add ∧ ∃ a b p, ex = .BinOp a .Add b p := by
        obtain ⟨k1, k2⟩ := ba h0
        refine ⟨of_decide_eq_true k1, ?_⟩
        cases ex with
        | BinOp a o b p =>
          cases o with
          | Add => exact ⟨a, b, p, rfl⟩
          | _ => cases k2
        | _ => cases k2
      obtain ⟨rfl, a, b, p, rfl⟩ := hl
      simp only [opArgs, bopOf, if_pos] at h
      obtain ⟨_, h⟩ := ba h
      obtain ⟨i, j, rfl, _, _, h1, h2⟩ := (soundA es S W X [a, b] C h).two
      exact e_refAdd h1 h2
  | .ref (.comp ik its ts c ie), S, W, X, ex, C, h => by
    simp only [chk] at h
    obtain ⟨_, h⟩ := ba h
    cases q : compParts G S ik ts ex with
    | none => rw [q] at h; cases h
    | some cp =>
      rw [q] at h
      obtain ⟨h1, h⟩ := ba h
      obtain ⟨h2, h3⟩ := ba h
      refine s_compR C q (soundA its S W X _ C h1) (fun X' C' => soundE ie _ _ X' _ C' h2) ?_
      cases qc : cp.cond with
      | some t =>
        rw [qc] at h3
        exact fun X' C' => soundT c _ _ X' _ C' h3
      | none =>
        rw [qc] at h3
        exact h3
  | .chn o1 o2 a b c, S, W, X, e, C, h => by
    simp only [chk] at h
    split at h
    · obtain ⟨h0, h⟩ := ba h
      obtain ⟨h1, h⟩ := ba h
      obtain ⟨h2, h3⟩ := ba h
      obtain ⟨q1, q⟩ := ba h0
      obtain ⟨q2, q3⟩ := ba q
      obtain ⟨r1, m1, m2, _⟩ := cop_of C (of_decide_eq_true q1)
      obtain ⟨r2, n1, n2, _⟩ := cop_of C (of_decide_eq_true q2)
      exact e_chn m1 m2 n1 n2 (soundE a S W X _ C h1) (soundE b S W X _ C h2) (soundE c S W X _ C h3) (by simpa using q3)
    · cases h
  | .ref (.var _), S, W, X, ex, C, h => by simp [chk, freshB] at h
  | .ref (.con _), S, W, X, ex, C, h => by simp [chk, freshB] at h
  | .ref (.glo _), S, W, X, ex, C, h => by simp [chk, freshB] at h
  | .ref (.nott _), S, W, X, ex, C, h => by simp [chk, freshB] at h
  | .ref (.and2 _ _), S, W, X, ex, C, h => by simp [chk, freshB] at h
  | .ref (.or2 _ _), S, W, X, ex, C, h => by simp [chk, freshB] at h
  | .ref (.ifx _ _ _), S, W, X, ex, C, h => by simp [chk, freshB] at h
  | .ref (.call _ _ _), S, W, X, ex, C, h => by simp [chk, freshB] at h
  | .ref (.comp2 _ _ _ _ _ _ _), S, W, X, ex, C, h => by simp [chk, freshB] at h
  | .ref (.callr _ _ _), S, W, X, ex, C, h => by simp [chk, freshB] at h
  | .ref (.ref _), S, W, X, ex, C, h => by simp [chk, freshB] at h
  | .ref (.chn _ _ _ _ _), S, W, X, ex, C, h => by simp [chk, freshB] at h
  | .ref (.star _ _), S, W, X, ex, C, h => by simp [chk, freshB] at h
  | .star a es, S, W, X, e, C, h => by
    simp only [chk] at h
    split at h
    · obtain ⟨h1, h2⟩ := ba h
      exact e_star (soundE a S W X _ C h1) (soundA es S W X _ C h2).args rfl
    · cases h
theorem soundT : ∀ (i : Ex) (S : SC) (W : WX) (X : Cx) (e : Expr), Ctx G xi cf gl k S W X → chkT G S i e = true → PT X e (rdT X.K xi W (denT cf gl i))
  | .var i, S, W, X, e, C, h => by
    simp only [chkT] at h
    refine t_plain (s_var C h) (plain_isTrue ?_)
    cases e <;> first | rfl | cases h
  | .con d, S, W, X, e, C, h => by
    simp only [chkT] at h
    refine t_plain (s_con h) (plain_isTrue ?_)
    cases e <;> first | rfl | (exfalso; unfold conB at h; split at h <;> simp_all)
  | .glo j, S, W, X, e, C, h => by
    simp only [chkT] at h
    refine t_plain (s_glo C h) (plain_isTrue ?_)
    cases e <;> first | rfl | cases h
  | .op o es, S, W, X, e, C, h => by
    simp only [chkT] at h
    obtain ⟨h0, h⟩ := ba h
    cases q : opArgs G S o e with
    | none => rw [q] at h; cases h
    | some as =>
      rw [q] at h
      obtain ⟨h1, h2⟩ := ba h
      obtain ⟨r1, r2⟩ := s_op C q (cut_ok h1) (soundA es S W X as C h2)
      rcases or_end h0 with h0 | h0
      · exact t_plain r1 (plain_isTrue h0)
      · exact r2 h0
  | .nott a, S, W, X, e, C, h => by
    simp only [chkT] at h
    split at h
    · exact t_not (soundT a S W X _ C h)
    · cases h
  | .and2 a b, S, W, X, e, C, h => by
    simp only [chkT] at h
    split at h
    · rename_i x y r p
      obtain ⟨h1, h2⟩ := ba h
      cases r with
      | nil => exact (w_and (soundT a S W X _ C h1) (pw_and1 (soundT b S W X _ C h2))).pt
      | cons z r =>
        exact (w_and (soundT a S W X _ C h1) (soundW b S W X _ C h2 rfl)).pt
    · cases h
  | .or2 a b, S, W, X, e, C, h => by
    simp only [chkT] at h
    split at h
    · rename_i x y r p
      obtain ⟨h1, h2⟩ := ba h
      cases r with
      | nil => exact (w_or (soundT a S W X _ C h1) (pw_or1 (soundT b S W X _ C h2))).pt
      | cons z r =>
        exact (w_or (soundT a S W X _ C h1) (soundW b S W X _ C h2 rfl)).pt
    · cases h
  | .ifx c a b, S, W, X, e, C, h => by simp only [chkT] at h; cases h
  | .call j es ks, S, W, X, e, C, h => by
    simp only [chkT] at h
    cases q : callParts G S j es.length ks.length e with
    | none => rw [q] at h; cases h
    | some ab =>
      obtain ⟨as, bs⟩ := ab
      rw [q] at h
      obtain ⟨h1, h2⟩ := ba h
      refine t_plain (s_call C q (soundA es S W X as C h1) (soundA ks S W X bs C h2)).1 (plain_isTrue ?_)
      unfold callParts at q
      split at q
      · rfl
      · cases q
  | .callr j es ks, S, W, X, e, C, h => by simp only [chkT] at h; cases h
  | .star a es, S, W, X, e, C, h => by simp only [chkT] at h; cases h
  | .comp ik its ts c ie, S, W, X, e, C, h => by simp only [chkT] at h; cases h
  | .comp2 ik its ts ik1 its1 ts1 ie, S, W, X, e, C, h => by simp only [chkT] at h; cases h
  | .chn o1 o2 a b c, S, W, X, e, C, h => by
    simp only [chkT] at h
    split at h
    · obtain ⟨h0, h⟩ := ba h
      obtain ⟨h1, h⟩ := ba h
      obtain ⟨h2, h3⟩ := ba h
      obtain ⟨q1, q⟩ := ba h0
      obtain ⟨q2, q3⟩ := ba q
      obtain ⟨r1, m1, m2, _⟩ := cop_of C (of_decide_eq_true q1)
      obtain ⟨r2, n1, n2, _⟩ := cop_of C (of_decide_eq_true q2)
      exact t_chn m1 m2 n1 n2 (soundE a S W X _ C h1) (soundE b S W X _ C h2) (soundE c S W X _ C h3) (by simpa using q3)
    · cases h
  | .ref e, S, W, X, ex, C, h => by simp only [chkT] at h; cases h
/-- the rest of an and, or, as a test -/
theorem soundW : ∀ (i : Ex) (S : SC) (W : WX) (X : Cx) (e : Expr), Ctx G xi cf gl k S W X → chkT G S i e = true → (match e with | .BoolOp .. => true | _ => false) = true → PW X e (rdT X.K xi W (denT cf gl i))
  | .and2 a b, S, W, X, e, C, h, _ => by
    simp only [chkT] at h
    split at h
    · rename_i x y r p _
      obtain ⟨h1, h2⟩ := ba h
      cases r with
      | nil => exact w_and (soundT a S W X _ C h1) (pw_and1 (soundT b S W X _ C h2))
      | cons z r => exact w_and (soundT a S W X _ C h1) (soundW b S W X _ C h2 rfl)
    · cases h
  | .or2 a b, S, W, X, e, C, h, _ => by
    simp only [chkT] at h
    split at h
    · rename_i x y r p _
      obtain ⟨h1, h2⟩ := ba h
      cases r with
      | nil => exact w_or (soundT a S W X _ C h1) (pw_or1 (soundT b S W X _ C h2))
      | cons z r => exact w_or (soundT a S W X _ C h1) (soundW b S W X _ C h2 rfl)
    · cases h
  | .var i, S, W, X, e, C, h, hb => by
    simp only [chkT] at h
    cases e <;> first | (cases h; done) | (cases hb; done)
  | .con d, S, W, X, e, C, h, hb => by
    simp only [chkT] at h
    cases e <;> first | (cases hb; done) | (exfalso; unfold conB at h; split at h <;> simp_all)
  | .glo j, S, W, X, e, C, h, hb => by
    simp only [chkT] at h
    cases e <;> first | (cases h; done) | (cases hb; done)
  | .op o es, S, W, X, e, C, h, hb => by
    simp only [chkT] at h
    obtain ⟨h0, h⟩ := ba h
    cases e <;> first | (cases hb; done) | (cases h0; done)
  | .nott a, S, W, X, e, C, h, hb => by
    simp only [chkT] at h
    cases e <;> first | (cases h; done) | (cases hb; done)
  | .ifx c a b, S, W, X, e, C, h, hb => by simp only [chkT] at h; cases h
  | .call j es ks, S, W, X, e, C, h, hb => by
    simp only [chkT] at h
    cases e <;> first | (cases h; done) | (cases hb; done)
  | .callr j es ks, S, W, X, e, C, h, hb => by simp only [chkT] at h; cases h
  | .star a es, S, W, X, e, C, h, hb => by simp only [chkT] at h; cases h
  | .comp ik its ts c ie, S, W, X, e, C, h, hb => by simp only [chkT] at h; cases h
  | .comp2 ik its ts ik1 its1 ts1 ie, S, W, X, e, C, h, hb => by simp only [chkT] at h; cases h
  | .chn o1 o2 a b c, S, W, X, e, C, h, hb => by
    simp only [chkT] at h
    cases e <;> first | (cases h; done) | (cases hb; done)
  | .ref e, S, W, X, ex, C, h, hb => by simp only [chkT] at h; cases h
theorem soundA : ∀ (is : List Ex) (S : SC) (W : WX) (X : Cx) (es : List Expr), Ctx G xi cf gl k S W X → chks G S is es = true → PEs xi W cf gl X es is
  | [], S, W, X, es, C, h => by
    simp only [chks] at h
    cases es with
    | nil => trivial
    | cons _ _ => cases h
  | i :: is, S, W, X, es, C, h => by
    simp only [chks] at h
    cases es with
    | nil => cases h
    | cons e es =>
      obtain ⟨h1, h⟩ := ba h
      obtain ⟨h2, h3⟩ := ba h
      exact ⟨h1, soundE i S W X e C h2, soundA is S W X es C h3⟩
end
end
end L3

set_option maxHeartbeats 2000000
namespace L3
open L2 PySem PySem.Spec PyProof.Rows

/-! ### statements -/
def setD (st : Store) (o i d : D) : Option Store := match o, i with
  | .loc n, .int i => match st[n]? with
    | some xs => match ixN xs.length i with
      | some j => if d.pure = true then some (st.set n (xs.set j d)) else none
      | none => none
    | none => none
  | _, _ => none
def isLoc (st : Store) : D → Bool
  | .loc n => (st[n]?).isSome
  | _ => false
def appD (st : Store) (o d : D) : Option Store := match o with
  | .loc n => match st[n]? with
    | some xs => if d.pure = true ∧ xs.length < sizeLine then some (st.set n (xs ++ [d])) else none
    | none => none
  | _ => none
section
variable (cf : Nat → List D → Store → Res D) (gl : Nat → Option D)
mutual
noncomputable def bindL : Lv → D → DEnv → Store → Option (DEnv × Store)
  | .nm i, d, r, st => some (r.set i (some d), st)
  | .sub a b, d, r, st => match den cf gl a r st with
    | .ok x s1 => (match den cf gl b r s1 with
      | .ok y s2 => (setD s2 x y d).map fun s3 => (r, s3)
      | _ => none)
    | _ => none
  | .tp ts, d, r, st => match d with
    | .tup xs => bindLs ts xs r st
    | d => match isOwn st d with
      | some xs => bindLs ts xs r st
      | none => none
noncomputable def bindLs : List Lv → List D → DEnv → Store → Option (DEnv × Store)
  | [], xs, r, st => match xs with
    | [] => some (r, st)
    | _ => none
  | t :: ts, xs, r, st => match xs with
    | [] => none
    | x :: xs => match bindL t x r st with
      | some (r1, s1) => bindLs ts xs r1 s1
      | none => none
end
def outE (r : DEnv) (f : D → Store → Out) : Res D → Out
  | .ok d st => f d st
  | .exc c x st => .exc c x r st
  | .stuck => .stuck
noncomputable def forL (ns : List Nat) (step : D → DEnv → Store → Out) : List D → DEnv → Store → Out
  | [], r, st => .go .nx r st
  | x :: xs, r, st => match step x r st with
    | .go .nx r1 s1 => if stillB ns st s1 = true then forL ns step xs r1 s1 else .stuck
    | .go .ct r1 s1 => if stillB ns st s1 = true then forL ns step xs r1 s1 else .stuck
    | .go .bk r1 s1 => .go .nx r1 s1
    | o => o
noncomputable def whlL (c : DEnv → Store → Res Bool) (body : DEnv → Store → Out) : Nat → DEnv → Store → Out
  | 0, _, _ => .stuck
  | n + 1, r, st => match c r st with
    | .ok true s1 => (match body r s1 with
      | .go .nx r1 s2 => whlL c body n r1 s2
      | .go .ct r1 s2 => whlL c body n r1 s2
      | .go .bk r1 s2 => .go .nx r1 s2
      | o => o)
    | .ok false s1 => .go .nx r s1
    | .exc c x s1 => .exc c x r s1
    | .stuck => .stuck
def parSet : List Nat → List D → DEnv → Option DEnv
  | [i, j], [x, y], r => some ((r.set i (some x)).set j (some y))
  | [i, j, l], [x, y, z], r => some (((r.set i (some x)).set j (some y)).set l (some z))
  | _, _, _ => none
/-- how many turns a while may take -/
def whlMax : Nat := 1000000
mutual
noncomputable def denS : Sm → DEnv → Store → Out
  | .asg t e, r, st => outE r (fun d s1 => match bindL cf gl t d r s1 with
      | some (r1, s2) => .go .nx r1 s2
      | none => .stuck) (den cf gl e r st)
  | .par is es, r, st => match dens cf gl es r st with
    | .ok ds s1 => (match parSet is ds r with
      | some r1 => .go .nx r1 s1
      | none => .stuck)
    | .exc c x s1 => .exc c x r s1
    | .stuck => .stuck
  | .aug _ _ _, _, _ => .stuck
  | .app a e, r, st => outE r (fun x s1 => if isLoc s1 x = true then outE r (fun d s2 => match appD s2 x d with
      | some s3 => .go .nx r s3
      | none => .stuck) (den cf gl e r s1) else .stuck) (den cf gl a r st)
  | .drop e, r, st => outE r (fun _ s1 => .go .nx r s1) (den cf gl e r st)
  | .ret e, r, st => outE r (fun d s1 => .go (.rt d) r s1) (den cf gl e r st)
  | .retN, r, st => .go (.rt .non) r st
  | .brk, r, st => .go .bk r st
  | .cnt, r, st => .go .ct r st
  | .pass, r, st => .go .nx r st
  | .iff c a b, r, st => match denT cf gl c r st with
    | .ok k s1 => if k = true then denB a r s1 else denB b r s1
    | .exc c x s1 => .exc c x r s1
    | .stuck => .stuck
  | .loop k its t body, r, st => match denI cf gl k its r st with
    | .ok a s1 => forL a.2.1 (fun x r s => match bindL cf gl t x r s with
      | some (r1, s2) => denB body r1 s2
      | none => .stuck) a.1 r s1
    | .exc c x s1 => .exc c x r s1
    | .stuck => .stuck
  | .whl c body, r, st => whlL (denT cf gl c) (fun r s => denB body r s) whlMax r st
  | .raise _ _, _, _ => .stuck
noncomputable def denB : List Sm → DEnv → Store → Out
  | [], r, st => .go .nx r st
  | s :: ss, r, st => match denS s r st with
    | .go .nx r1 s1 => denB ss r1 s1
    | o => o
end
end

section
variable (K : PySem.W.Frag) (xi : XI) (W : WX)
/-- what a statement's outcome asks -/
def PostS (B : List Addr) (H : Hp) (io : List Addr) : Out → Ends → Prop
  | .stuck, _ => False
  | .go f r st, Dn => ∀ σ' H' io', EnvOk K H' io' B r σ' → StOk K H' io' B st → Stp io H io' H' → (match f with
    | .nx => Dn.nx σ' H'
    | .bk => Dn.bk σ' H'
    | .ct => Dn.ct σ' H'
    | .rt d => ∀ v, RV K H' io' B d v → Dn.rt v H')
  | .exc c x r st, _ => ∀ cls dd σ' H' io', ExcAt K xi H' io' B c x cls dd → EnvOk K H' io' B r σ' → StOk K H' io' B st → Stp io H io' H' → W cls dd σ' H'
def rdS (g : DEnv → Store → Out) : TS := fun Dn σ H => ∃ B io r st, StOk K H io B st ∧ EnvOk K H io B r σ ∧ PostS K xi W B H io (g r st) Dn
/-- what a target's outcome asks -/
def PostG (B : List Addr) (H : Hp) (io : List Addr) : Option (DEnv × Store) → (SL → Hp → Prop) → Prop
  | none, _ => False
  | some (r, st), Q => ∀ σ' H' io', EnvOk K H' io' B r σ' → StOk K H' io' B st → Stp io H io' H' → Q σ' H'
def rdG (g : D → DEnv → Store → Option (DEnv × Store)) : TG := fun v σ H Q => ∃ B io r st d, StOk K H io B st ∧ EnvOk K H io B r σ ∧ RV K H io B d v ∧ PostG K B H io (g d r st) Q
def rdGs (g : List D → DEnv → Store → Option (DEnv × Store)) : TGs := fun vs σ H Q => ∃ B io r st ds, StOk K H io B st ∧ EnvOk K H io B r σ ∧ RVs K H io B ds vs ∧ PostG K B H io (g ds r st) Q
end
theorem PS.imp {X : Cx} {s : Stmt} {t t' : TS} (h : PS X s t) (i : ∀ Dn σ H, t' Dn σ H → t Dn σ H) : PS X s t' := ⟨fun pins s σ H Dn I q => h.run pins s σ H Dn I (i Dn σ H q)⟩
theorem PSs.imp {X : Cx} {s : List Stmt} {t t' : TS} (h : PSs X s t) (i : ∀ Dn σ H, t' Dn σ H → t Dn σ H) : PSs X s t' := ⟨fun pins s σ H Dn I q => h.run pins s σ H Dn I (i Dn σ H q)⟩
theorem PG.imp {X : Cx} {e : Expr} {t t' : TG} (h : PG X e t) (i : ∀ v σ H Q, t' v σ H Q → t v σ H Q) : PG X e t' := ⟨fun pins s σ H v u Q I r q => h.run pins s σ H v u Q I r (i v σ H Q q)⟩
theorem PGs.imp {X : Cx} {e : List Expr} {t t' : TGs} (h : PGs X e t) (i : ∀ v σ H Q, t' v σ H Q → t v σ H Q) : PGs X e t' := ⟨fun pins s σ H v u Q I r q => h.run pins s σ H v u Q I r (i v σ H Q q)⟩

section
variable {K : PySem.W.Frag} {xi : XI} {W : WX} {B io io1 : List Addr} {σ : SL} {H H1 : Hp} {st st1 : Store} {Dn : Ends}
theorem PostS.from {o : Out} (ok : StOk K H1 io1 B st1) (s : Stp io H io1 H1) (h : PostS K xi W B H io o Dn) : PostS K xi W B H1 io1 o Dn := by
  cases o with
  | stuck => exact h
  | go f r st2 => exact fun σ' H' io' e k s' => h σ' H' io' e k (s.trans ok s')
  | exc c x r st2 => exact fun cls dd σ' H' io' e env k s' => h cls dd σ' H' io' e env k (s.trans ok s')
/-- an expression, then what follows -/
theorem PostS.expr {f : Res D} {r : DEnv} {k : D → Store → Out} {Q : VK} (env : EnvOk K H io B r σ) (h : PostS K xi W B H io (outE r k f) Dn)
    (hk : ∀ d s1 v H1 io1, f = .ok d s1 → RV K H1 io1 B d v → EnvOk K H1 io1 B r σ → StOk K H1 io1 B s1 → Stp io H io1 H1 → PostS K xi W B H1 io1 (k d s1) Dn → Q v H1) : Post K xi W (RepE K B) B σ H io f Q := by
  cases f with
  | stuck => exact h
  | ok d s1 => exact fun v H1 io1 rv ok s => hk d s1 v H1 io1 rfl rv (env.mono s) ok s (PostS.from ok s h)
  | exc c x s1 => exact fun cls dd H' io' e ok s => h cls dd σ H' io' e (env.mono s) ok s
theorem PostS.nx {r : DEnv} (h : PostS K xi W B H io (.go .nx r st) Dn) (env : EnvOk K H io B r σ) (ok : StOk K H io B st) : Dn.nx σ H := h σ H io env ok .refl
end

section
variable {xi : XI} {W : WX} {cf : Nat → List D → Store → Res D} {gl : Nat → Option D} {X : Cx} {a b e : Expr} {ia ib ie : Ex} {pos : Pos}

/-! ### targets -/
theorem g_name {i : Nat} {tg : Expr} (h : PG X tg (gName i)) : PG X tg (rdG X.K (bindL cf gl (.nm i))) := by
  refine PG.imp h fun v σ H Q h => ?_
  obtain ⟨B, io, r, st, d, ok, env, rv, h⟩ := h
  simp only [bindL] at h
  exact h _ H io (env.set rv) ok .refl
theorem set_st {K : PySem.W.Frag} {H : Hp} {io B : List Addr} {st s3 : Store} {o i d : D} {x y v : V} (ok : StOk K H io B st) (hx : RV K H io B o x) (hy : RV K H io B i y) (hv : RV K H io B d v) (e : setD st o i d = some s3) :
    ∃ p ws k j, x = .ref p ∧ y = .int k ∧ H p = some (.lst ws) ∧ ixN ws.length k = some j ∧ StOk K (upd H p (.lst (ws.set j v))) io B s3 ∧ Stp io H io (upd H p (.lst (ws.set j v))) := by
  unfold setD at e
  split at e
  · rename_i n k
    split at e
    · rename_i xs q
      split at e
      · rename_i j hj
        split at e
        · rename_i pu
          cases e
          obtain ⟨p, rfl, hp⟩ := hx
          cases hy
          obtain ⟨pa, c, ws, h1, h2, h3⟩ := ok.cont n xs q
          rw [hp] at h1; cases h1
          have hpio : p ∈ io := List.mem_of_getElem? hp
          have hst : Stp io H io (upd H p (.lst (ws.set j v))) := ⟨fun b u hb h => by rw [upd_ne (fun z => by subst z; exact hb hpio)]; exact h, [], by simp, fun a h => by cases h⟩
          refine ⟨p, ws, k, j, rfl, rfl, h2, by rw [h3.length]; exact hj, ?_, hst⟩
          have pset : ∀ (l : List D) (j : Nat), pureAll l = true → pureAll (l.set j d) = true := by
            intro l
            induction l with
            | nil => intro j h; exact h
            | cons z l ih =>
              intro j h
              simp only [pureAll, Bool.and_eq_true] at h
              cases j with
              | zero => simp [pureAll, pu, h.2]
              | succ j => simp [pureAll, h.1, ih j h.2]
          refine ⟨by rw [List.length_set]; exact ok.len, ok.nd, fun m ys hm => ?_, fun b hb => ?_⟩
          · by_cases hmn : n = m
            · subst hmn
              have hl := (List.getElem?_eq_some_iff.mp q).1
              rw [List.getElem?_set_self hl] at hm
              cases hm
              exact ⟨pset xs j pa, p, _, hp, upd_same, RVs.mono hst _ _ (RVs.set j h3 hv)⟩
            · rw [List.getElem?_set_ne hmn] at hm
              obtain ⟨pb, c, us, k1, k2, k3⟩ := ok.cont m ys hm
              have hne : c ≠ p := fun z => by
                subst z
                have nd := ok.nd
                rw [List.nodup_append] at nd
                have hl1 := (List.getElem?_eq_some_iff.mp hp)
                have hl2 := (List.getElem?_eq_some_iff.mp k1)
                obtain ⟨a1, b1⟩ := hl1
                obtain ⟨a2, b2⟩ := hl2
                exact hmn ((List.getElem_inj nd.1).mp (b1.trans b2.symm))
              exact ⟨pb, c, us, k1, by rw [upd_ne hne]; exact k2, RVs.mono hst _ _ k3⟩
          · by_cases hbp : b = p
            · subst hbp; rw [upd_same]; simp
            · rw [upd_ne hbp]; exact ok.bt b hb
        · cases e
      · cases e
    · cases e
  · cases e
theorem g_sub (ha : PE X a (rdE X.K xi W (den cf gl ia))) (hb : PE X b (rdE X.K xi W (den cf gl ib))) (hs : nonSlice b = true) : PG X (.Subscript a b pos) (rdG X.K (bindL cf gl (.sub ia ib))) := by
  refine PG.imp (pg_sub ha hb set_list (by intro v; cases b <;> first | rfl | cases hs)) fun v σ H Q h => ?_
  obtain ⟨B, io, r, st, d, ok, env, rv, h⟩ := h
  simp only [bindL] at h
  refine ⟨B, io, r, st, ok, env, ?_⟩
  cases q1 : den cf gl ia r st with
  | stuck => rw [q1] at h; exact h.elim
  | exc c x s => rw [q1] at h; exact h.elim
  | ok x s1 =>
    rw [q1] at h
    intro v1 H1 io1 r1 ok1 st1
    refine ⟨B, io1, r, s1, ok1, env.mono st1, ?_⟩
    simp only at h
    cases q2 : den cf gl ib r s1 with
    | stuck => rw [q2] at h; exact h.elim
    | exc c x s => rw [q2] at h; exact h.elim
    | ok y s2 =>
      rw [q2] at h
      intro v2 H2 io2 r2 ok2 st2
      simp only at h
      cases q : setD s2 x y d with
      | none => rw [q] at h; exact h.elim
      | some s3 =>
        rw [q] at h
        obtain ⟨p, ws, k, j, e1, e2, e3, e4, ok3, st3⟩ := set_st ok2 (RV.mono st2 _ _ r1) r2 (RV.mono st2 _ _ (RV.mono st1 _ _ rv)) q
        exact ⟨p, ws, k, j, e1, e2, e3, e4, h σ _ io2 (((env.mono st1).mono st2).mono st3) ok3 ((st1.trans ok1 st2).trans ok2 st3)⟩
theorem gs_nil : PGs X [] (rdGs X.K (bindLs cf gl [])) := by
  refine PGs.imp pgs_nil fun vs σ H Q h => ?_
  obtain ⟨B, io, r, st, ds, ok, env, rv, h⟩ := h
  cases ds with
  | nil =>
    simp only [bindLs] at h
    cases rv
    exact ⟨rfl, h σ H io env ok .refl⟩
  | cons d ds => simp only [bindLs] at h; exact h.elim
theorem gs_cons {t : Lv} {ts : List Lv} {e : Expr} {es : List Expr} (h1 : PG X e (rdG X.K (bindL cf gl t))) (h2 : PGs X es (rdGs X.K (bindLs cf gl ts))) (hs : nonStar e = true) : PGs X (e :: es) (rdGs X.K (bindLs cf gl (t :: ts))) := by
  refine PGs.imp (pgs_cons h1 h2 (by rw [assignEach_cons hs]; rfl)) fun vs σ H Q h => ?_
  obtain ⟨B, io, r, st, ds, ok, env, rv, h⟩ := h
  cases ds with
  | nil => simp only [bindLs] at h; exact h.elim
  | cons d ds =>
    simp only [bindLs] at h
    obtain ⟨v, ws, rfl, hv, hw⟩ := rv
    refine ⟨v, ws, rfl, B, io, r, st, d, ok, env, hv, ?_⟩
    cases q : bindL cf gl t d r st with
    | none => rw [q] at h; exact h.elim
    | some rs =>
      obtain ⟨r1, s1⟩ := rs
      rw [q] at h
      simp only at h
      intro σ1 H1 io1 env1 ok1 st1
      refine ⟨B, io1, r1, s1, ds, ok1, env1, RVs.mono st1 _ _ hw, ?_⟩
      cases q2 : bindLs cf gl ts ds r1 s1 with
      | none => rw [q2] at h; exact h.elim
      | some rs2 =>
        obtain ⟨r2, s2⟩ := rs2
        rw [q2] at h
        exact fun g H' io' r' k s' => h g H' io' r' k (st1.trans ok1 s')
theorem pg_or {tg : Expr} {g1 g2 : TG} (h1 : PG X tg g1) (h2 : PG X tg g2) : PG X tg (fun v σ H Q => g1 v σ H Q ∨ g2 v σ H Q) :=
  ⟨fun pins s σ H v u Q I r h => h.elim (h1.run pins s σ H v u Q I r) (h2.run pins s σ H v u Q I r)⟩
theorem bindLs_len : ∀ {ts : List Lv} {xs : List D} {r : DEnv} {st : Store}, bindLs cf gl ts xs r st ≠ none → xs.length = ts.length := by
  intro ts
  induction ts with
  | nil => intro xs r st h; cases xs with
    | nil => rfl
    | cons _ _ => simp [bindLs] at h
  | cons t ts ih => intro xs r st h; cases xs with
    | nil => simp [bindLs] at h
    | cons x xs =>
      simp only [bindLs] at h
      cases q : bindL cf gl t x r st with
      | none => rw [q] at h; exact absurd rfl h
      | some rs => rw [q] at h; simp [ih h]
theorem g_tp {ts : List Lv} {es : List Expr} {n : Nat} (hc : X.calm = true) (h : PGs X es (rdGs X.K (bindLs cf gl ts))) (hl : (assignEach es X.env).length = ts.length) (hf : (assignEach es X.env).findIdx? (·.1) = none) : PG X (.Tuple es n pos) (rdG X.K (bindL cf gl (.tp ts))) := by
  refine PG.imp (pg_or (pg_tup hc h hl hf) (pg_unl hc h hl hf)) fun v σ H Q h => ?_
  obtain ⟨B, io, r, st, d, ok, env, rv, h⟩ := h
  simp only [bindL] at h
  cases d with
  | tup xs =>
    obtain ⟨a, vs, rfl, t, rr⟩ := rv
    refine .inl ⟨a, vs, rfl, t.sq, ?_, B, io, r, st, xs, ok, env, rr, h⟩
    rw [rr.length]
    exact bindLs_len (cf := cf) (gl := gl) (r := r) (st := st) (fun z => by simp only at h; rw [z] at h; exact h)
  | lst xs =>
    obtain ⟨p, vs, rfl, hp, rr⟩ := own_view ok rv (show isOwn st (.lst xs) = some xs from rfl)
    simp only [isOwn] at h
    refine .inr ⟨p, vs, rfl, .inl (.inl hp), ?_, B, io, r, st, xs, ok, env, rr, h⟩
    rw [rr.length]
    exact bindLs_len (cf := cf) (gl := gl) (r := r) (st := st) (fun z => by rw [z] at h; exact h)
  | loc m =>
    cases q : isOwn st (.loc m) with
    | none => simp only [q] at h; exact h.elim
    | some xs =>
      simp only [q] at h
      obtain ⟨p, vs, rfl, hp, rr⟩ := own_view ok rv q
      refine .inr ⟨p, vs, rfl, .inl (.inl hp), ?_, B, io, r, st, xs, ok, env, rr, h⟩
      rw [rr.length]
      exact bindLs_len (cf := cf) (gl := gl) (r := r) (st := st) (fun z => by rw [z] at h; exact h)
  | _ => exact h.elim
end
end L3

set_option maxHeartbeats 2000000
namespace L3
open L2 PySem PySem.Spec PyProof.Rows

def nonComp : Expr → Bool
  | .ListComp .. => false
  | .SetComp .. => false
  | .DictComp .. => false
  | _ => true
def nonTuple : Expr → Bool
  | .Tuple .. => false
  | _ => true
theorem swap_not {e : Expr} {t : Option Expr} {l : Nat} {env : Env} (h : nonComp e = true) : swapsWith e t l env = pure false := by
  cases e <;> first | rfl | cases h
theorem swapS_not {e tg : Expr} {l : Nat} {env : Env} (h : nonComp e = true) : swapsWithSole [tg] e l env = pure false := swap_not h
theorem stores_not {e tg : Expr} {env : Env} (h : nonTuple e = true) : swappedStores [tg] e env = pure none := by
  cases e <;> first | (cases h; done) | (cases tg <;> rfl)

section
variable {xi : XI} {W : WX} {cf : Nat → List D → Store → Res D} {gl : Nat → Option D} {X : Cx} {a b e tg : Expr} {ia ib ie ic : Ex} {pos : Pos} {t : Lv}

theorem asg_to {g : TG} (hg : ∀ v σ H Q, rdG X.K (bindL cf gl t) v σ H Q → g v σ H Q) (Dn : Ends) (σ : SL) (H : Hp) (h : rdS X.K xi W (denS cf gl (.asg t ie)) Dn σ H) : tAsg (rdE X.K xi W (den cf gl ie)) g Dn σ H := by
  obtain ⟨B, io, r, st, ok, env, h⟩ := h
  simp only [denS] at h
  refine ⟨B, io, r, st, ok, env, PostS.expr env h fun d s1 v H1 io1 _ rv env1 ok1 st1 h1 => hg v σ H1 _ ?_⟩
  refine ⟨B, io1, r, s1, d, ok1, env1, rv, ?_⟩
  cases q : bindL cf gl t d r s1 with
  | none => rw [q] at h1; exact h1.elim
  | some rs =>
    obtain ⟨r1, s2⟩ := rs
    rw [q] at h1
    exact fun σ' H' io' e k s' => h1 σ' H' io' e k s'
theorem p_asg (he : PE X e (rdE X.K xi W (den cf gl ie))) (hg : PG X tg (rdG X.K (bindL cf gl t))) (h1 : nonComp e = true) (h2 : nonTuple e = true) (h3 : nonStar tg = true) : PS X (.Assign [tg] e pos) (rdS X.K xi W (denS cf gl (.asg t ie))) :=
  PS.imp (ps_asg he hg (swapS_not h1) (stores_not h2) (by rw [assignEach_cons h3]; rfl)) fun Dn σ H h => asg_to (fun _ _ _ _ q => q) Dn σ H h
theorem p_asgS {x y : Expr} {p : Pos} (he : PE X e (rdE X.K xi W (den cf gl ie))) (hg : PG X (.Subscript x y p) (rdG X.K (bindL cf gl t))) (h1 : nonComp e = true) : PS X (.Assign [.Subscript x y p] e pos) (rdS X.K xi W (denS cf gl (.asg t ie))) := by
  refine PS.imp (ps_asg he hg (swapS_not h1) ?_ rfl) fun Dn σ H h => asg_to (fun _ _ _ _ q => q) Dn σ H h
  cases e <;> rfl
theorem p_asgN {i : Nat} {x : Str} {p : Pos} (he : PE X e (rdE X.K xi W (den cf gl ie))) (hg : PG X (.Name x p) (gName i)) (h1 : nonComp e = true) : PS X (.Assign [.Name x p] e pos) (rdS X.K xi W (denS cf gl (.asg (.nm i) ie))) := by
  refine PS.imp (ps_asg he (g_name (cf := cf) (gl := gl) hg) (swapS_not h1) ?_ rfl) fun Dn σ H h => asg_to (fun _ _ _ _ q => q) Dn σ H h
  cases e <;> rfl
/-- name = [..], the name captured: stored behind the block -/
theorem p_asgC {i : Nat} {x : Str} {p : Pos} (he : PE X e (rdE X.K xi W (den cf gl ie))) (hg : PG X (.Name x p) (gName i)) (hs : swapsWith e (some (.Name x p)) pos.line X.env = pure false) : PS X (.Assign [.Name x p] e pos) (rdS X.K xi W (denS cf gl (.asg (.nm i) ie))) := by
  refine PS.imp (ps_asg he (g_name (cf := cf) (gl := gl) hg) hs ?_ rfl) fun Dn σ H h => asg_to (fun _ _ _ _ q => q) Dn σ H h
  cases e <;> rfl
theorem gname_to {i : Nat} (v : V) (σ : SL) (H : Hp) (Q : SL → Hp → Prop) (h : rdG X.K (bindL cf gl (.nm i)) v σ H Q) : gName i v σ H Q := by
  obtain ⟨B, io, r, st, d, ok, env, rv, h⟩ := h
  simp only [bindL] at h
  exact h _ H io (env.set rv) ok .refl
theorem p_drop (he : PE X e (rdE X.K xi W (den cf gl ie))) (h1 : nonComp e = true) : PS X (.Expr e pos) (rdS X.K xi W (denS cf gl (.drop ie))) := by
  refine PS.imp (ps_expr he (swap_not h1)) fun Dn σ H h => ?_
  obtain ⟨B, io, r, st, ok, env, h⟩ := h
  simp only [denS] at h
  exact ⟨B, io, r, st, ok, env, PostS.expr env h fun d s1 v H1 io1 _ rv env1 ok1 st1 h1 => h1.nx env1 ok1⟩
theorem p_ret (he : PE X e (rdE X.K xi W (den cf gl ie))) : PS X (.Return (some e) pos) (rdS X.K xi W (denS cf gl (.ret ie))) := by
  refine PS.imp (ps_ret he) fun Dn σ H h => ?_
  obtain ⟨B, io, r, st, ok, env, h⟩ := h
  simp only [denS] at h
  exact ⟨B, io, r, st, ok, env, PostS.expr env h fun d s1 v H1 io1 _ rv env1 ok1 st1 h1 => h1 σ H1 io1 env1 ok1 .refl v rv⟩
theorem p_retN : PS X (.Return none pos) (rdS X.K xi W (denS cf gl .retN)) := by
  refine PS.imp ps_retN fun Dn σ H h => ?_
  obtain ⟨B, io, r, st, ok, env, h⟩ := h
  simp only [denS] at h
  exact h σ H io env ok .refl .non rfl
theorem p_brk : PS X (.Break pos) (rdS X.K xi W (denS cf gl .brk)) := by
  refine PS.imp ps_break fun Dn σ H h => ?_
  obtain ⟨B, io, r, st, ok, env, h⟩ := h
  simp only [denS] at h
  exact h σ H io env ok .refl
theorem p_cnt : PS X (.Continue pos) (rdS X.K xi W (denS cf gl .cnt)) := by
  refine PS.imp ps_continue fun Dn σ H h => ?_
  obtain ⟨B, io, r, st, ok, env, h⟩ := h
  simp only [denS] at h
  exact h σ H io env ok .refl
theorem p_pass : PS X (.Pass pos) (rdS X.K xi W (denS cf gl .pass)) := by
  refine PS.imp ps_pass fun Dn σ H h => ?_
  obtain ⟨B, io, r, st, ok, env, h⟩ := h
  simp only [denS] at h
  exact h σ H io env ok .refl
theorem p_nil : PSs X [] (rdS X.K xi W (denB cf gl [])) := by
  refine PSs.imp pss_nil fun Dn σ H h => ?_
  obtain ⟨B, io, r, st, ok, env, h⟩ := h
  simp only [denB] at h
  exact h σ H io env ok .refl
theorem p_cons {s : Stmt} {ss : List Stmt} {i : Sm} {is : List Sm} (h1 : PS X s (rdS X.K xi W (denS cf gl i))) (h2 : PSs X ss (rdS X.K xi W (denB cf gl is))) : PSs X (s :: ss) (rdS X.K xi W (denB cf gl (i :: is))) := by
  refine PSs.imp (pss_cons h1 h2) fun Dn σ H h => ?_
  obtain ⟨B, io, r, st, ok, env, h⟩ := h
  simp only [denB] at h
  refine ⟨B, io, r, st, ok, env, ?_⟩
  cases q : denS cf gl i r st with
  | stuck => rw [q] at h; exact h
  | exc c x r1 s1 => rw [q] at h; exact h
  | go f r1 s1 =>
    rw [q] at h
    cases f with
    | nx => exact fun σ' H' io' e k s' => ⟨B, io', r1, s1, k, e, PostS.from k s' h⟩
    | bk => exact h
    | ct => exact h
    | rt d => exact h
/-- a test, then what follows -/
theorem PostS.test {K : PySem.W.Frag} {B io : List Addr} {σ : SL} {H : Hp} {Dn : Ends} {f : Res Bool} {r : DEnv} {k : Bool → Store → Out} {Q : Bool → Hp → Prop} (env : EnvOk K H io B r σ)
    (h : PostS K xi W B H io (match f with
      | .ok b s1 => k b s1
      | .exc c x s1 => .exc c x r s1
      | .stuck => .stuck) Dn)
    (hk : ∀ b s1 H1 io1, EnvOk K H1 io1 B r σ → StOk K H1 io1 B s1 → Stp io H io1 H1 → PostS K xi W B H1 io1 (k b s1) Dn → Q b H1) : Post K xi W RepT B σ H io f Q := by
  cases f with
  | stuck => exact h
  | ok d s1 => exact fun v H1 io1 rv ok s => by cases rv; exact hk d s1 H1 io1 (env.mono s) ok s (PostS.from ok s h)
  | exc c x s1 => exact fun cls dd H' io' e ok s => h cls dd σ H' io' e (env.mono s) ok s
theorem p_if {c : Expr} {sa sb : List Stmt} {ja jb : List Sm} (hc : PT X c (rdT X.K xi W (denT cf gl ic))) (ha : PSs X sa (rdS X.K xi W (denB cf gl ja))) (hb : PSs X sb (rdS X.K xi W (denB cf gl jb))) : PS X (.If c sa sb pos) (rdS X.K xi W (denS cf gl (.iff ic ja jb))) := by
  refine PS.imp (ps_if hc ha hb) fun Dn σ H h => ?_
  obtain ⟨B, io, r, st, ok, env, h⟩ := h
  simp only [denS] at h
  refine ⟨B, io, r, st, ok, env, PostS.test env h fun k s1 H1 io1 env1 ok1 st1 h1 => ?_⟩
  cases k with
  | true => rw [if_pos rfl] at h1 ⊢; exact ⟨B, io1, r, s1, ok1, env1, h1⟩
  | false => rw [if_neg Bool.false_ne_true] at h1 ⊢; exact ⟨B, io1, r, s1, ok1, env1, h1⟩
/-- x.append(e) -/
theorem app_st {K : PySem.W.Frag} {H : Hp} {io B : List Addr} {st s3 : Store} {o d : D} {x v : V} (ok : StOk K H io B st) (hx : RV K H io B o x) (hv : RV K H io B d v) (e : appD st o d = some s3) :
    ∃ p ws, x = .ref p ∧ H p = some (.lst ws) ∧ ws.length < sizeLine ∧ StOk K (upd H p (.lst (ws ++ [v]))) io B s3 ∧ Stp io H io (upd H p (.lst (ws ++ [v]))) := by
  unfold appD at e
  split at e
  · rename_i n
    split at e
    · rename_i xs q
      split at e
      · rename_i hh
        obtain ⟨pu, hl⟩ := hh
        cases e
        obtain ⟨p, rfl, hp⟩ := hx
        obtain ⟨pa, c, ws, h1, h2, h3⟩ := ok.cont n xs q
        rw [hp] at h1; cases h1
        have hpio : p ∈ io := List.mem_of_getElem? hp
        have hst : Stp io H io (upd H p (.lst (ws ++ [v]))) := ⟨fun b u hb h => by rw [upd_ne (fun z => by subst z; exact hb hpio)]; exact h, [], by simp, fun a h => by cases h⟩
        refine ⟨p, ws, rfl, h2, by rw [h3.length]; exact hl, ?_, hst⟩
        have papp : ∀ (l : List D), pureAll l = true → pureAll (l ++ [d]) = true := by
          intro l
          induction l with
          | nil => intro _; simp [pureAll, pu]
          | cons z l ih =>
            intro h
            simp only [pureAll, Bool.and_eq_true] at h
            simp [pureAll, h.1, ih h.2]
        refine ⟨by rw [List.length_set]; exact ok.len, ok.nd, fun m ys hm => ?_, fun b hb => ?_⟩
        · by_cases hmn : n = m
          · subst hmn
            have hl := (List.getElem?_eq_some_iff.mp q).1
            rw [List.getElem?_set_self hl] at hm
            cases hm
            exact ⟨papp xs pa, p, _, hp, upd_same, RVs.mono hst _ _ (RVs.append h3 ⟨v, [], rfl, hv, rfl⟩)⟩
          · rw [List.getElem?_set_ne hmn] at hm
            obtain ⟨pb, c, us, k1, k2, k3⟩ := ok.cont m ys hm
            have hne : c ≠ p := fun z => by
              subst z
              have nd := ok.nd
              rw [List.nodup_append] at nd
              obtain ⟨a1, b1⟩ := List.getElem?_eq_some_iff.mp hp
              obtain ⟨a2, b2⟩ := List.getElem?_eq_some_iff.mp k1
              exact hmn ((List.getElem_inj nd.1).mp (b1.trans b2.symm))
            exact ⟨pb, c, us, k1, by rw [upd_ne hne]; exact k2, RVs.mono hst _ _ k3⟩
        · by_cases hbp : b = p
          · subst hbp; rw [upd_same]; simp
          · rw [upd_ne hbp]; exact ok.bt b hb
      · cases e
    · cases e
  · cases e
theorem p_app {x : Str} {px ap cp : Pos} (ha : PE X (.Name x px) (rdE X.K xi W (den cf gl ia))) (he : PE X e (rdE X.K xi W (den cf gl ie))) (hs : nonStar e = true) (hl : (ap.endLine == cp.line) = true) : PS X (.Expr (.Call (.Attribute (.Name x px) "append" ap) [e] [] cp) pos) (rdS X.K xi W (denS cf gl (.app ia ie))) := by
  refine PS.imp (ps_expr (pe_bm PySem.F.plainAttrs_list PySem.F.slot_list_append PySem.F.type_list_append mt_append ha (pa_cons he pa_nil (starOne hs)) rfl ?_ hl (starOne hs) rfl) rfl) fun Dn σ H h => ?_
  · rw [starOne hs]; rfl
  obtain ⟨B, io, r, st, ok, env, h⟩ := h
  simp only [denS] at h
  refine ⟨B, io, r, st, ok, env, PostS.expr env h fun d s1 v H1 io1 _ rv env1 ok1 st1 h1 => ?_⟩
  have own : (∃ n xs, d = .loc n ∧ s1[n]? = some xs) ∧ isLoc s1 d = true := by
    split at h1
    · rename_i hl
      refine ⟨?_, hl⟩
      cases d with
      | loc n =>
        obtain ⟨xs, q⟩ := Option.isSome_iff_exists.mp (show (s1[n]?).isSome = true from hl)
        exact ⟨n, xs, rfl, q⟩
      | _ => cases hl
    · exact h1.elim
  obtain ⟨own, hloc⟩ := own
  rw [if_pos hloc] at h1
  obtain ⟨n, xs, rfl, q⟩ := own
  obtain ⟨p, rfl, hp⟩ := rv
  obtain ⟨_, c, vs, k1, k2, k3⟩ := ok1.cont n xs q
  rw [hp] at k1; cases k1
  refine ⟨.inl ⟨rfl, vs, .of k2⟩, B, io1, r, s1, ok1, env1, PostS.expr env1 h1 fun d2 s2 v2 H2 io2 _ rv2 env2 ok2 st2 h2 => ?_⟩
  cases q2 : appD s2 (.loc n) d2 with
  | none => rw [q2] at h2; exact h2.elim
  | some s3 =>
    rw [q2] at h2
    obtain ⟨p', ws, e1, e2, e3, ok3, st3⟩ := app_st ok2 (RV.mono st2 _ _ (show RV X.K H1 io1 B (.loc n) (.ref p) from ⟨p, rfl, hp⟩)) rv2 q2
    cases e1
    exact ⟨p, ws, v2, rfl, rfl, e2, e3, h2 σ _ io2 (env2.mono st3) ok3 st3⟩

/-! ### loops -/
theorem p_for {iter : Expr} {body : List Stmt} {k : IK} {its : List Ex} {jb : List Sm} (hp : PassesOwn (model X.prog X.w) X.A X.env X.xe) (hc : X.calm = true) (hi : PI X tg iter (rdI X.K xi W (denI cf gl k its))) (hg : PG X tg (rdG X.K (bindL cf gl t)))
    (hb : PSs X body (rdS X.K xi W (denB cf gl jb))) (hs : ∀ x, foldedSetIterable iter X.env x = pure x) : PS X (.For tg iter body [] pos) (rdS X.K xi W (denS cf gl (.loop k its t jb))) := by
  refine PS.imp (ps_for hp hc hi hg hb hs) fun Dn σ H h => ?_
  obtain ⟨B, io, r, st, ok, env, h⟩ := h
  simp only [denS] at h
  refine ⟨B, io, r, st, ok, env, ?_⟩
  cases hI : denI cf gl k its r st with
  | stuck => rw [hI] at h; exact h
  | exc c x s1 =>
    rw [hI] at h
    exact fun cls dd H' io' e ok s => h cls dd σ H' io' e (env.mono s) ok s
  | ok a s1 =>
    rw [hI] at h
    obtain ⟨xs, ns, s1'⟩ := a
    have es : s1' = s1 := by
      simp only [denI] at hI
      cases q : dens cf gl its r st with
      | ok ds s2 =>
        rw [q] at hI
        simp only [Res.bind] at hI
        cases q2 : itemsOf s2 k ds with
        | none => rw [q2] at hI; cases hI
        | some ys => rw [q2] at hI; cases hI; rfl
      | _ => rw [q] at hI; cases hI
    subst es
    intro J H1 io1 rI ok1 stp1
    have wk := rI B (.inl rfl)
    simp only at h
    refine ⟨fun i m σ' H' => m = xs.length - i ∧ i ≤ xs.length ∧ ∃ io' r' st', EnvOk X.K H' io' B r' σ' ∧ StOk X.K H' io' B st' ∧ Stp io1 H1 io' H' ∧ still ns s1' st' ∧ PostS X.K xi W B H' io' (forL ns (fun x r s => match bindL cf gl t x r s with
      | some (r1, s2) => denB cf gl jb r1 s2
      | none => .stuck) (xs.drop i) r' st') Dn,
      ⟨xs.length, by simp, Nat.zero_le _, io1, r, s1', env.mono stp1, ok1, .refl, fun _ _ => rfl, PostS.from ok1 stp1 h⟩, ?_⟩
    rintro i m σ' H' ⟨rfl, hle, io', r', st', env', ok', sp', sl, hp'⟩
    obtain ⟨w1, w2⟩ := wk i H' io' st' ok' sp'.toR sl
    by_cases hlt : i < xs.length
    · obtain ⟨g, yl⟩ := w1 hlt
      refine .inr ⟨g, fun σ'' H'' => ∃ io' r' st', EnvOk X.K H'' io' B r' σ'' ∧ StOk X.K H'' io' B st' ∧ Stp io1 H1 io' H'' ∧ still ns s1' st' ∧ PostS X.K xi W B H'' io' (forL ns (fun x r s => match bindL cf gl t x r s with
        | some (r1, s2) => denB cf gl jb r1 s2
        | none => .stuck) (xs.drop (i + 1)) r' st') Dn,
        fun σ'' H'' q => ⟨xs.length - (i + 1), by omega, rfl, hlt, q⟩, fun x H'' hy => ?_⟩
      obtain ⟨ok2, sp2, d, hd, rx⟩ := yl x H'' hy
      rw [tl_of hd] at hp'
      simp only [forL] at hp'
      refine ⟨B, io', r', st', d, ok2, env'.mono sp2, rx, ?_⟩
      cases hbd : bindL cf gl t d r' st' with
      | none => rw [hbd] at hp'; exact hp'.elim
      | some rs =>
        obtain ⟨r2, s2⟩ := rs
        rw [hbd] at hp'
        simp only at hp'
        intro σ2 H2 io2 env2 ok3 sp3
        refine ⟨B, io2, r2, s2, ok3, env2, ?_⟩
        have spA : Stp io' H' io2 H2 := sp2.trans ok2 sp3
        cases hbody : denB cf gl jb r2 s2 with
        | stuck => rw [hbody] at hp'; exact hp'.elim
        | exc c x r3 s3 =>
          rw [hbody] at hp'
          exact PostS.from ok3 spA hp'
        | go f r3 s3 =>
          rw [hbody] at hp'
          have goon : ∀ σ4 H4 io4, EnvOk X.K H4 io4 B r3 σ4 → StOk X.K H4 io4 B s3 → Stp io2 H2 io4 H4 → PostS X.K xi W B H' io' (if stillB ns st' s3 = true then forL ns (fun x r s => match bindL cf gl t x r s with
              | some (r1, s2) => denB cf gl jb r1 s2
              | none => .stuck) (xs.drop (i + 1)) r3 s3 else .stuck) Dn → ∃ io' r' st', EnvOk X.K H4 io' B r' σ4 ∧ StOk X.K H4 io' B st' ∧ Stp io1 H1 io' H4 ∧ still ns s1' st' ∧ PostS X.K xi W B H4 io' (forL ns (fun x r s => match bindL cf gl t x r s with
              | some (r1, s2) => denB cf gl jb r1 s2
              | none => .stuck) (xs.drop (i + 1)) r' st') Dn := fun σ4 H4 io4 e4 k4 s4 q => by
            split at q
            · rename_i hst
              have h1 := stillB_iff hst
              have sp4 : Stp io' H' io4 H4 := spA.trans ok3 s4
              exact ⟨io4, r3, s3, e4, k4, sp'.trans ok' sp4, fun n hn => (h1 n hn).trans (sl n hn), PostS.from k4 sp4 q⟩
            · exact q.elim
          cases f with
          | nx => exact fun σ4 H4 io4 e4 k4 s4 => goon σ4 H4 io4 e4 k4 s4 hp'
          | ct => exact fun σ4 H4 io4 e4 k4 s4 => goon σ4 H4 io4 e4 k4 s4 hp'
          | bk => exact fun σ4 H4 io4 e4 k4 s4 => hp' σ4 H4 io4 e4 k4 (spA.trans ok3 s4)
          | rt d' => exact fun σ4 H4 io4 e4 k4 s4 => hp' σ4 H4 io4 e4 k4 (spA.trans ok3 s4)
    · have hie : i = xs.length := by omega
      subst hie
      rw [List.drop_length] at hp'
      simp only [forL] at hp'
      exact .inl ⟨w2 rfl, hp'.nx env' ok'⟩
theorem p_while {c : Expr} {body : List Stmt} {jb : List Sm} (hp : PassesOwn (model X.prog X.w) X.A X.env X.xe) (hc : PT X c (rdT X.K xi W (denT cf gl ic))) (hb : PSs X body (rdS X.K xi W (denB cf gl jb))) : PS X (.While c body [] pos) (rdS X.K xi W (denS cf gl (.whl ic jb))) := by
  refine PS.imp (ps_while hp hc hb) fun Dn σ H h => ?_
  obtain ⟨B, io, r, st, ok, env, h⟩ := h
  simp only [denS] at h
  refine ⟨fun m σ' H' => ∃ io' r' st', EnvOk X.K H' io' B r' σ' ∧ StOk X.K H' io' B st' ∧ PostS X.K xi W B H' io' (whlL (denT cf gl ic) (fun r s => denB cf gl jb r s) m r' st') Dn, ⟨whlMax, io, r, st, env, ok, h⟩, ?_⟩
  rintro m σ' H' ⟨io', r', st', env', ok', hp'⟩
  cases m with
  | zero => simp only [whlL] at hp'; exact hp'.elim
  | succ m =>
    simp only [whlL] at hp'
    refine ⟨B, io', r', st', ok', env', ?_⟩
    cases hT : denT cf gl ic r' st' with
    | stuck => rw [hT] at hp'; exact hp'
    | exc c x s1 =>
      rw [hT] at hp'
      exact fun cls dd H' io' e ok s => hp' cls dd σ' H' io' e (env'.mono s) ok s
    | ok b s1 =>
      rw [hT] at hp'
      intro b' H1 io1 eb ok1 sp1
      cases eb
      cases b with
      | false =>
        rw [if_neg Bool.false_ne_true]
        exact hp' σ' H1 io1 (env'.mono sp1) ok1 sp1
      | true =>
        rw [if_pos rfl]
        simp only at hp'
        refine ⟨fun σ'' H'' => ∃ io' r' st', EnvOk X.K H'' io' B r' σ'' ∧ StOk X.K H'' io' B st' ∧ PostS X.K xi W B H'' io' (whlL (denT cf gl ic) (fun r s => denB cf gl jb r s) m r' st') Dn, fun σ'' H'' q => ⟨m, Nat.lt_succ_self m, q⟩, B, io1, r', s1, ok1, env'.mono sp1, ?_⟩
        cases hbody : denB cf gl jb r' s1 with
        | stuck => rw [hbody] at hp'; exact hp'.elim
        | exc c x r3 s3 => rw [hbody] at hp'; exact PostS.from ok1 sp1 hp'
        | go f r3 s3 =>
          rw [hbody] at hp'
          cases f with
          | nx => exact fun σ4 H4 io4 e4 k4 s4 => ⟨io4, r3, s3, e4, k4, PostS.from k4 (sp1.trans ok1 s4) hp'⟩
          | ct => exact fun σ4 H4 io4 e4 k4 s4 => ⟨io4, r3, s3, e4, k4, PostS.from k4 (sp1.trans ok1 s4) hp'⟩
          | bk => exact fun σ4 H4 io4 e4 k4 s4 => hp' σ4 H4 io4 e4 k4 (sp1.trans ok1 s4)
          | rt d' => exact fun σ4 H4 io4 e4 k4 s4 => hp' σ4 H4 io4 e4 k4 (sp1.trans ok1 s4)
/-- a, b = x, y -/
theorem p_par {i j : Nat} {x y : Str} {px py pt : Pos} {kt k2 : Nat} {pt2 : Pos} {ies : List Ex} (hc : X.calm = true) (hN : X.N.Nodup) (hi : X.N[i]? = some x) (hj : X.N[j]? = some y) (hij : i ≠ j) (hx : X.env.scope.names.lookup x = some .local) (hy : X.env.scope.names.lookup y = some .local)
    (ha : PA X [a, b] (rdA X.K xi W (dens cf gl ies))) (hw : swappedStores [.Tuple [.Name x px, .Name y py] kt pt] (.Tuple [a, b] k2 pt2) X.env = pure (some [x, y])) :
    PS X (.Assign [.Tuple [.Name x px, .Name y py] kt pt] (.Tuple [a, b] k2 pt2) pos) (rdS X.K xi W (denS cf gl (.par [i, j] ies))) := by
  refine PS.imp (ps_par hc hN hi hj hij hx hy ha hw) fun Dn σ H h => ?_
  obtain ⟨B, io, r, st, ok, env, h⟩ := h
  simp only [denS] at h
  refine ⟨B, io, r, st, ok, env, ?_⟩
  cases q : dens cf gl ies r st with
  | stuck => rw [q] at h; exact h
  | exc c x s1 =>
    rw [q] at h
    exact fun cls dd H' io' e ok s => h cls dd σ H' io' e (env.mono s) ok s
  | ok ds s1 =>
    rw [q] at h
    intro vs H1 io1 rv ok1 st1
    match ds with
    | [d1, d2] =>
      obtain ⟨v, w, rfl, r1, r2⟩ := RVs.two rv
      exact ⟨v, w, rfl, h _ H1 io1 (((env.mono st1).set r1).set r2) ok1 st1⟩
    | [] => exact h.elim
    | [_] => exact h.elim
    | _ :: _ :: _ :: _ => exact h.elim
/-- a, b, c = x, y, z -/
theorem p_par3 {i j l : Nat} {x y z : Str} {px py pz pt : Pos} {kt k2 : Nat} {pt2 : Pos} {c : Expr} {ies : List Ex} (hc : X.calm = true) (hN : X.N.Nodup) (hi : X.N[i]? = some x) (hj : X.N[j]? = some y) (hl : X.N[l]? = some z) (hij : i ≠ j) (hil : i ≠ l) (hjl : j ≠ l)
    (hx : X.env.scope.names.lookup x = some .local) (hy : X.env.scope.names.lookup y = some .local) (hz : X.env.scope.names.lookup z = some .local)
    (ha : PA X [a, b, c] (rdA X.K xi W (dens cf gl ies))) (hw : swappedStores [.Tuple [.Name x px, .Name y py, .Name z pz] kt pt] (.Tuple [a, b, c] k2 pt2) X.env = pure (some [x, y, z])) :
    PS X (.Assign [.Tuple [.Name x px, .Name y py, .Name z pz] kt pt] (.Tuple [a, b, c] k2 pt2) pos) (rdS X.K xi W (denS cf gl (.par [i, j, l] ies))) := by
  refine PS.imp (ps_par3 hc hN hi hj hl hij hil hjl hx hy hz ha hw) fun Dn σ H h => ?_
  obtain ⟨B, io, r, st, ok, env, h⟩ := h
  simp only [denS] at h
  refine ⟨B, io, r, st, ok, env, ?_⟩
  cases q : dens cf gl ies r st with
  | stuck => rw [q] at h; exact h
  | exc c x s1 =>
    rw [q] at h
    exact fun cls dd H' io' e ok s => h cls dd σ H' io' e (env.mono s) ok s
  | ok ds s1 =>
    rw [q] at h
    intro vs H1 io1 rv ok1 st1
    match ds with
    | [d1, d2, d3] =>
      obtain ⟨v, vs', rfl, r1, rr⟩ := rv
      obtain ⟨w, u, rfl, r2, r3⟩ := RVs.two rr
      exact ⟨v, w, u, rfl, h _ H1 io1 ((((env.mono st1).set r1).set r2).set r3) ok1 st1⟩
    | [] => exact h.elim
    | [_] => exact h.elim
    | [_, _] => exact h.elim
    | _ :: _ :: _ :: _ :: _ => exact h.elim
end
end L3

set_option maxHeartbeats 2000000
namespace L3
open L2 PySem PySem.Spec PyProof.Rows
theorem swap_two {env : Env} {a b : Expr} {x y : Str} {px py pt pt2 : Pos} {kt k2 : Nat} (hk : env.scope.kind = .function) (hx : env.scope.names.lookup x = some .local) (hy : env.scope.names.lookup y = some .local) (hl : (py.line == px.line) = true) (hne : (y == x) = false) (h1 : nonStar a = true) (h2 : nonStar b = true)
    (hf : (foldedForSure 8 a && foldedForSure 8 b) = false) (hc : (constantsAlone 8 a && constantsAlone 8 b) = false) :
    swappedStores [.Tuple [.Name x px, .Name y py] kt pt] (.Tuple [a, b] k2 pt2) env = pure (some [x, y]) := by
  have kx : env.kindOf x = some .local := hx
  have ky : env.kindOf y = some .local := hy
  have hb : env.blockKind = .function := by unfold Env.blockKind; rw [hk]; rfl
  have hl' : py.line = px.line := by simpa using hl
  have hne' : ¬ y = x := by simpa using hne
  unfold swappedStores
  simp only [List.length_cons, List.length_nil, hb]
  simp [kx, ky, hl', Expr.pos, List.filterMap_cons, List.eraseDups_cons, hne]
  rw [if_neg (by
    rintro (h | h)
    · cases a <;> first | (cases h; done) | (cases h1; done)
    · cases b <;> first | (cases h; done) | (cases h2; done))]
  rw [if_neg (by intro ⟨p, q⟩; rw [p, q] at hf; cases hf), if_neg (by intro ⟨p, q⟩; rw [p, q] at hc; cases hc)]
theorem swap_three {env : Env} {a b c : Expr} {x y z : Str} {px py pz pt pt2 : Pos} {kt k2 : Nat} (hk : env.scope.kind = .function) (hx : env.scope.names.lookup x = some .local) (hy : env.scope.names.lookup y = some .local) (hz : env.scope.names.lookup z = some .local) (hl : (py.line == px.line) = true) (hl2 : (pz.line == px.line) = true)
    (hne : (y == x) = false) (hne2 : (z == x) = false) (hne3 : (z == y) = false) (h1 : nonStar a = true) (h2 : nonStar b = true) (h3 : nonStar c = true)
    (hf : (foldedForSure 8 a && (foldedForSure 8 b && foldedForSure 8 c)) = false) (hc : (constantsAlone 8 a && (constantsAlone 8 b && constantsAlone 8 c)) = false) :
    swappedStores [.Tuple [.Name x px, .Name y py, .Name z pz] kt pt] (.Tuple [a, b, c] k2 pt2) env = pure (some [x, y, z]) := by
  have kx : env.kindOf x = some .local := hx
  have ky : env.kindOf y = some .local := hy
  have kz : env.kindOf z = some .local := hz
  have hb : env.blockKind = .function := by unfold Env.blockKind; rw [hk]; rfl
  have hl' : py.line = px.line := by simpa using hl
  have hl2' : pz.line = px.line := by simpa using hl2
  unfold swappedStores
  simp only [List.length_cons, List.length_nil, hb]
  simp [kx, ky, kz, hl', hl2', Expr.pos, List.filterMap_cons, List.eraseDups_cons, hne, hne2, hne3]
  rw [if_neg (by
    rintro (h | h | h)
    · cases a <;> first | (cases h; done) | (cases h1; done)
    · cases b <;> first | (cases h; done) | (cases h2; done)
    · cases c <;> first | (cases h; done) | (cases h3; done))]
  rw [if_neg (by intro ⟨p, q, r⟩; rw [p, q, r] at hf; cases hf), if_neg (by intro ⟨p, q, r⟩; rw [p, q, r] at hc; cases hc)]
theorem fm_short {α β : Type} {f : α → Option β} {t : α} (hf : f t = none) : ∀ {ts : List α}, t ∈ ts → (ts.filterMap f).length < ts.length
  | u :: us, ht => by
    rcases List.mem_cons.mp ht with rfl | ht
    · rw [List.filterMap_cons_none hf]
      exact Nat.lt_succ_of_le (List.length_filterMap_le f us)
    · have ih := fm_short hf ht
      cases q : f u with
      | none => rw [List.filterMap_cons_none q]; exact Nat.lt_succ_of_lt ih
      | some z => rw [List.filterMap_cons_some q]; exact Nat.succ_lt_succ ih
theorem stores_gen {env : Env} {ts : List Expr} {e : Expr} {kt : Nat} {pt : Pos} (h : ∃ t ∈ ts, ∀ id p, t = .Name id p → env.kindOf id ≠ some .local) : swappedStores [.Tuple ts kt pt] e env = pure none := by
  unfold swappedStores
  cases e <;> try rfl
  rename_i vs k2 pt2
  simp only
  split
  · rfl
  split
  · rfl
  obtain ⟨t, ht, hn⟩ := h
  rw [if_pos]
  simp only [Bool.or_eq_true, bne_iff_ne]
  refine .inl (Nat.ne_of_lt (fm_short (t := t) ?_ ht))
  cases t <;> try rfl
  rename_i id p
  have := hn id p rfl
  simp [this]

theorem stores_fold {env : Env} {ts vs : List Expr} {kt k2 : Nat} {pt pt2 : Pos} (h : vs.all (foldedForSure 8) = true) : swappedStores [.Tuple ts kt pt] (.Tuple vs k2 pt2) env = pure none := by
  unfold swappedStores
  simp only
  split
  · rfl
  split
  · rfl
  split
  · rfl
  first | rfl | (rw [if_pos h]; rfl)
def foldT : Expr → Bool
  | .Tuple vs _ _ => vs.all (foldedForSure 8)
  | _ => false
theorem stores_foldT {env : Env} {ts : List Expr} {e : Expr} {kt : Nat} {pt : Pos} (h : foldT e = true) : swappedStores [.Tuple ts kt pt] e env = pure none := by
  cases e <;> first | (cases h; done) | exact stores_fold h
/-! ### the checker of statements -/
section
variable (G : Glob) (S : SC)
def localB (x : Str) : Bool := match S.sc.names.lookup x with
  | some .local => true
  | _ => false
def funB : Bool := match S.sc.kind with
  | .function => true
  | _ => false
/-- a name that the stores of several names do not swap -/
def unswapped : Expr → Bool
  | .Name x _ => !localB S x
  | _ => true
mutual
def chkL : Lv → Expr → Bool
  | .nm i, e => nameOf S i e
  | .sub a b, e => match e with
    | .Subscript x y _ => chk G S a x && (chk G S b y && nonSlice y)
    | _ => false
  | .tp ts, e => match e with
    | .Tuple es _ _ => chkLs ts es
    | _ => false
def chkLs : List Lv → List Expr → Bool
  | [], es => es.isEmpty
  | t :: ts, es => match es with
    | [] => false
    | e :: es => nonStar e && (chkL t e && chkLs ts es)
end
def isCompI : Ex → Bool
  | .comp .. => true
  | .ref (.comp ..) => true
  | _ => false
/-- x = e -/
def asgB (t : Lv) (i : Ex) (tg e : Expr) (l : Nat) : Bool := match tg with
  | .Name x p => chkL G S t (.Name x p) && (match t with
    | .nm _ => nonComp e || (match e with
      | .ListComp _ _ scope cp => isCompI i && if localB S x = true then (p.line == cp.line) && !(scope.names.any fun (n, k) => n == x && (k == .local || k == .cell)) else true
      | _ => false)
    | _ => false)
  | .Tuple es k p => chkL G S t (.Tuple es k p) && (nonTuple e || (foldT e || es.any (unswapped S)))
  | .Subscript a b p => chkL G S t (.Subscript a b p) && nonComp e
  | _ => false
def parB (is : List Nat) (tg e : Expr) : Option (List Expr) := match tg, e with
  | .Tuple [.Name x px, .Name y py] _ _, .Tuple [a, b] _ _ => (match is with
    | [i, j] => if (nameOf S i (.Name x px) && (nameOf S j (.Name y py) && (localB S x && (localB S y && ((py.line == px.line) && (!(y == x) && (nonStar a && (nonStar b && (!(foldedForSure 8 a && foldedForSure 8 b) && (!(constantsAlone 8 a && constantsAlone 8 b) && decide (i ≠ j))))))))))) = true then some [a, b] else none
    | _ => none)
  | .Tuple [.Name x px, .Name y py, .Name z pz] _ _, .Tuple [a, b, c] _ _ => (match is with
    | [i, j, l] => if ((nameOf S i (.Name x px) && (nameOf S j (.Name y py) && nameOf S l (.Name z pz))) && ((localB S x && (localB S y && localB S z)) && (((py.line == px.line) && (pz.line == px.line)) && ((!(y == x) && (!(z == x) && !(z == y))) && ((nonStar a && (nonStar b && nonStar c)) &&
        ((!(foldedForSure 8 a && (foldedForSure 8 b && foldedForSure 8 c)) && !(constantsAlone 8 a && (constantsAlone 8 b && constantsAlone 8 c))) && (decide (i ≠ j) && (decide (i ≠ l) && decide (j ≠ l))))))))) = true then some [a, b, c] else none
    | _ => none)
  | _, _ => none
mutual
def chkS : Sm → Stmt → Bool
  | .asg t i, s => match s with
    | .Assign [tg] e p => funB S && (asgB G S t i tg e p.line && chk G S i e)
    | _ => false
  | .par is ies, s => match s with
    | .Assign [tg] e _ => funB S && (match parB S is tg e with
      | some es => chks G S ies es
      | none => false)
    | _ => false
  | .app a i, s => match s with
    | .Expr (.Call (.Attribute (.Name x px) m ap) [e] [] cp) _ => decide (m = "append") && (chk G S a (.Name x px) && (chk G S i e && (nonStar e && (ap.endLine == cp.line))))
    | _ => false
  | .drop i, s => match s with
    | .Expr e _ => nonComp e && chk G S i e
    | _ => false
  | .ret i, s => match s with
    | .Return (some e) _ => chk G S i e
    | _ => false
  | .retN, s => match s with
    | .Return none _ => true
    | _ => false
  | .brk, s => match s with
    | .Break _ => true
    | _ => false
  | .cnt, s => match s with
    | .Continue _ => true
    | _ => false
  | .pass, s => match s with
    | .Pass _ => true
    | _ => false
  | .iff c a b, s => match s with
    | .If e sa sb _ => chkT G S c e && (chkB a sa && chkB b sb)
    | _ => false
  | .loop k its t body, s => match s with
    | .For tg iter sb [] _ => (match iterParts G S k tg iter with
      | some as => nonSet iter && (chks G S its as && (chkL G S t tg && (nonStar tg && chkB body sb)))
      | none => false)
    | _ => false
  | .whl c body, s => match s with
    | .While e sb [] _ => chkT G S c e && chkB body sb
    | _ => false
  | .raise _ _, s => match s with
    | .Raise _ _ _ => true
    | _ => false
  | .aug _ _ _, _ => false
def chkB : List Sm → List Stmt → Bool
  | [], ss => ss.isEmpty
  | i :: is, ss => match ss with
    | s :: ss => chkS i s && chkB is ss
    | [] => false
end
end

section
variable {G : Glob} {xi : XI} {cf : Nat → List D → Store → Res D} {gl : Nat → Option D} {k : Nat} {S : SC} {W : WX} {X : Cx}
theorem local_of (C : Ctx G xi cf gl k S W X) {x : Str} (h : localB S x = true) : X.env.scope.names.lookup x = some .local := by
  rw [C.sc]
  unfold localB at h
  split at h
  · assumption
  · cases h
theorem fun_of (C : Ctx G xi cf gl k S W X) (h : funB S = true) : X.env.scope.kind = .function := by
  rw [C.sc]
  unfold funB at h
  split at h
  · assumption
  · cases h
mutual
theorem soundL (C : Ctx G xi cf gl k S W X) : ∀ (t : Lv) (e : Expr), chkL G S t e = true → PG X e (rdG X.K (bindL cf gl t))
  | .nm i, e, h => by
    simp only [chkL] at h
    exact g_name (nm_of C h)
  | .sub a b, e, h => by
    simp only [chkL] at h
    split at h
    · obtain ⟨h1, h⟩ := ba h
      obtain ⟨h2, h3⟩ := ba h
      exact g_sub (soundE a S W X _ C h1) (soundE b S W X _ C h2) h3
    · cases h
  | .tp ts, e, h => by
    simp only [chkL] at h
    split at h
    · obtain ⟨r1, r2, r3⟩ := soundLs C ts _ h
      exact g_tp C.calm r1 r2 r3
    · cases h
theorem soundLs (C : Ctx G xi cf gl k S W X) : ∀ (ts : List Lv) (es : List Expr), chkLs G S ts es = true → PGs X es (rdGs X.K (bindLs cf gl ts)) ∧ (assignEach es X.env).length = ts.length ∧ (assignEach es X.env).findIdx? (·.1) = none
  | [], es, h => by
    simp only [chkLs] at h
    cases es with
    | nil => exact ⟨gs_nil, rfl, rfl⟩
    | cons _ _ => cases h
  | t :: ts, es, h => by
    simp only [chkLs] at h
    cases es with
    | nil => cases h
    | cons e es =>
      obtain ⟨h1, h⟩ := ba h
      obtain ⟨h2, h3⟩ := ba h
      obtain ⟨r1, r2, r3⟩ := soundLs C ts es h3
      have q := assignEach_cons (es := es) (env := X.env) h1
      refine ⟨gs_cons (soundL C t e h2) r1 h1, by rw [q, List.length_cons, r2, List.length_cons], ?_⟩
      rw [q, List.findIdx?_cons, r3]; rfl
end
theorem comp_pieces (C : Ctx G xi cf gl k S W X) {ik : IK} {ts : List Nat} {e : Expr} {q : CParts} {its : List Ex} {ic ie : Ex} (h : compParts G S ik ts e = some q) (hp : PEs xi W cf gl X q.args its)
    (he : ∀ X', Ctx G xi cf gl k (blkSC S q.scope) WF X' → PE X' q.elt (rdE X'.K xi WF (den cf gl ie)))
    (hc : match q.cond with
      | some t => ∀ X', Ctx G xi cf gl k (blkSC S q.scope) WF X' → PT X' t (rdT X'.K xi WF (denT cf gl ic))
      | none => isTru ic = true) : ∃ elt tg iter ifs scope pos, e = .ListComp elt [⟨tg, iter, ifs, 0⟩] scope pos ∧ PI X tg iter (rdI X.K xi W (denI cf gl ik its)) ∧ BlkOk X.N X.env.scope scope (ownOf S ts) ∧
      (∀ (s : Shared) (H : Hp) (A : Addr) (cl : List (Str × Addr)) (fp : List Addr), PG (X.blk s H scope (compEnvC scope cl A X.env) fp) tg (gComp X.K ts)) ∧
      (∀ (s : Shared) (H : Hp) (A : Addr) (cl : List (Str × Addr)) (fp : List Addr), PTs (X.blk s H scope (compEnvC scope cl A X.env) fp) ifs (rdT X.K xi WF (denT cf gl ic))) ∧
      (∀ (s : Shared) (H : Hp) (A : Addr) (cl : List (Str × Addr)) (fp : List Addr), PE (X.blk s H scope (compEnvC scope cl A X.env) fp) elt (rdE X.K xi WF (den cf gl ie))) ∧
      (∀ x, foldedSetIterable iter X.env x = pure x) := by
  unfold compParts at h
  split at h
  · rename_i elt tg iter ifs scope pos
    split at h
    · rename_i as hi
      split at h
      · rename_i z
        obtain ⟨z1, z⟩ := ba z
        obtain ⟨z2, z⟩ := ba z
        obtain ⟨z3, z4⟩ := ba z
        have blk : BlkOk X.N X.env.scope scope (ownOf S ts) := by rw [C.hN, C.sc]; exact blkOk_by z2
        have go : ∀ (hargs : PEs xi W cf gl X as its) (hcond : ∀ (s : Shared) (H : Hp) (A : Addr) (cl : List (Str × Addr)) (fp : List Addr), PTs (X.blk s H scope (compEnvC scope cl A X.env) fp) ifs (rdT X.K xi WF (denT cf gl ic)))
            (helt : ∀ X', Ctx G xi cf gl k (blkSC S scope) WF X' → PE X' elt (rdE X'.K xi WF (den cf gl ie))), _ := fun hargs hcond helt =>
          (⟨elt, tg, iter, ifs, scope, pos, rfl, s_iter C hi hargs, blk, fun s H A cl fp => tg_of (C.blk s H A cl fp) z4, hcond, fun s H A cl fp => helt _ (C.blk s H A cl fp), foldOk z1⟩ : ∃ elt1 tg1 iter1 ifs1 scope1 pos1, Expr.ListComp elt [⟨tg, iter, ifs, 0⟩] scope pos = .ListComp elt1 [⟨tg1, iter1, ifs1, 0⟩] scope1 pos1 ∧ PI X tg1 iter1 (rdI X.K xi W (denI cf gl ik its)) ∧ BlkOk X.N X.env.scope scope1 (ownOf S ts) ∧
      (∀ (s : Shared) (H : Hp) (A : Addr) (cl : List (Str × Addr)) (fp : List Addr), PG (X.blk s H scope1 (compEnvC scope1 cl A X.env) fp) tg1 (gComp X.K ts)) ∧
      (∀ (s : Shared) (H : Hp) (A : Addr) (cl : List (Str × Addr)) (fp : List Addr), PTs (X.blk s H scope1 (compEnvC scope1 cl A X.env) fp) ifs1 (rdT X.K xi WF (denT cf gl ic))) ∧
      (∀ (s : Shared) (H : Hp) (A : Addr) (cl : List (Str × Addr)) (fp : List Addr), PE (X.blk s H scope1 (compEnvC scope1 cl A X.env) fp) elt1 (rdE X.K xi WF (den cf gl ie))) ∧
      (∀ x, foldedSetIterable iter1 X.env x = pure x))
        split at h
        · cases h
          refine go hp (fun s H A cl fp => ?_) he
          cases ic with
          | con d =>
            cases d with
            | bl b =>
              cases b with
              | true =>
                exact ⟨fun pins s1 σ H1 Q I h => pts_nil.run pins s1 σ H1 Q I (by
                  obtain ⟨B, io, r, st, ok, env, h⟩ := h
                  exact h.here (g := true) rfl ok)⟩
              | false => cases hc
            | _ => cases hc
          | _ => cases hc
        · cases h
          refine go hp (fun s H A cl fp => pts_one (hc _ (C.blk s H A cl fp))) he
        · cases h
      · cases h
    · cases h
  · cases h
theorem kind_at {env : Env} {e : Expr} {x : Str} {p : Pos} {l : Nat} (h : env.kindOf x ≠ some .local) : swapsWith e (some (.Name x p)) l env = pure false := by
  have h' : (env.kindOf x == some .local) = false := by simpa using h
  cases e <;> first | rfl | (unfold swapsWith; simp [h'])
/-- name = [..] -/
theorem s_compN (C : Ctx G xi cf gl k S W X) {j : Nat} {x : Str} {p : Pos} {ik : IK} {ts : List Nat} {its : List Ex} {ic ie : Ex} {i : Ex} {elt : Expr} {gs : List Comprehension} {sc : Scope} {cp spos : Pos} (hf : funB S = true) (hn : nameOf S j (.Name x p) = true) (he : PE X (.ListComp elt gs sc cp) (rdE X.K xi W (den cf gl i)))
    (hi : (∀ (own : List (Str × Nat)), own.map (·.2) = ts → ∀ (σ : SL) (H : Hp) (Q : VK), rdE X.K xi W (den cf gl i) σ H Q → tLc (rdI X.K xi W (denI cf gl ik its)) (gComp X.K ts) (rdT X.K xi WF (denT cf gl ic)) (rdE X.K xi WF (den cf gl ie)) (own.map (·.2)) σ H Q))
    (h2 : (if localB S x = true then (p.line == cp.line) && !(sc.names.any fun (n, k) => n == x && (k == .local || k == .cell)) else true) = true)
    (hq : ∃ elt1 tg iter ifs scope pos, Expr.ListComp elt gs sc cp = .ListComp elt1 [⟨tg, iter, ifs, 0⟩] scope pos ∧ PI X tg iter (rdI X.K xi W (denI cf gl ik its)) ∧ BlkOk X.N X.env.scope scope (ownOf S ts) ∧
      (∀ (s : Shared) (H : Hp) (A : Addr) (cl : List (Str × Addr)) (fp : List Addr), PG (X.blk s H scope (compEnvC scope cl A X.env) fp) tg (gComp X.K ts)) ∧
      (∀ (s : Shared) (H : Hp) (A : Addr) (cl : List (Str × Addr)) (fp : List Addr), PTs (X.blk s H scope (compEnvC scope cl A X.env) fp) ifs (rdT X.K xi WF (denT cf gl ic))) ∧
      (∀ (s : Shared) (H : Hp) (A : Addr) (cl : List (Str × Addr)) (fp : List Addr), PE (X.blk s H scope (compEnvC scope cl A X.env) fp) elt1 (rdE X.K xi WF (den cf gl ie))) ∧
      (∀ x, foldedSetIterable iter X.env x = pure x)) : PS X (.Assign [.Name x p] (.ListComp elt gs sc cp) spos) (rdS X.K xi W (denS cf gl (.asg (.nm j) i))) := by
  by_cases hl : localB S x = true
  · rw [if_pos hl] at h2
    obtain ⟨l1, l2⟩ := ba h2
    obtain ⟨elt1, tg, iter, ifs, scope, pos, e, q1, q2, q3, q4, q5, q6⟩ := hq
    cases e
    have lx := local_of C hl
    have nd : X.N.Nodup := by rw [C.hN]; exact C.nd
    have hj : X.N[j]? = some x := by rw [C.hN]; exact of_decide_eq_true (ba hn).1
    refine PS.imp (ps_setLc (i := j) C.calm nd hj lx (sw_true (fun_of C hf) lx l1 (by simpa using l2)) q1 q2 q3 q4 q5 q6) fun Dn σ H h => ?_
    have h3 := asg_to (g := gName j) (fun v σ H Q h => gname_to v σ H Q h) Dn σ H h
    exact hi _ own_map σ H _ h3
  · refine p_asgC he (nm_of C hn) (kind_at fun z => ?_)
    have z' : X.env.scope.names.lookup x = some .local := z
    rw [C.sc] at z'
    simp [localB, z'] at hl
theorem s_asg (C : Ctx G xi cf gl k S W X) {t : Lv} {i : Ex} {tg e : Expr} {pos : Pos} (hf : funB S = true) (h : asgB G S t i tg e pos.line = true) (hc : chk G S i e = true) : PS X (.Assign [tg] e pos) (rdS X.K xi W (denS cf gl (.asg t i))) := by
  have he := soundE i S W X e C hc
  unfold asgB at h
  split at h
  · rename_i x p
    obtain ⟨h1, h2⟩ := ba h
    cases t with
    | nm j =>
      simp only at h2
      have hn : nameOf S j (.Name x p) = true := by simpa only [chkL] using h1
      rcases or_end h2 with h2 | h2
      · exact p_asgN he (nm_of C hn) h2
      · split at h2
        · rename_i elt gs sc cp _
          obtain ⟨h4, h2⟩ := ba h2
          cases i with
          | comp ik its ts c ie =>
            simp only [chk] at hc
            cases q : compParts G S ik ts (.ListComp elt gs sc cp) with
            | none => rw [q] at hc; cases hc
            | some qq =>
              rw [q] at hc
              obtain ⟨h1, hc⟩ := ba hc
              obtain ⟨hx2, h3⟩ := ba hc
              refine s_compN C (ik := ik) (its := its) (ic := c) (ie := ie) hf hn he (fun own ho σ H Q h => comp_rd ho σ H Q h) h2 (comp_pieces C q (soundA its S W X _ C h1) (fun X' C' => soundE ie _ _ X' _ C' hx2) ?_)
              cases qc : qq.cond with
              | some t =>
                rw [qc] at h3
                exact fun X' C' => soundT c _ _ X' _ C' h3
              | none =>
                rw [qc] at h3
                exact h3
          | ref j2 =>
            cases j2 with
            | comp ik its ts c ie =>
              simp only [chk] at hc
              obtain ⟨_, hc⟩ := ba hc
              cases q : compParts G S ik ts (.ListComp elt gs sc cp) with
              | none => rw [q] at hc; cases hc
              | some qq =>
                rw [q] at hc
                obtain ⟨h1, hc⟩ := ba hc
                obtain ⟨hx2, h3⟩ := ba hc
                refine s_compN C (ik := ik) (its := its) (ic := c) (ie := ie) hf hn he (fun own ho σ H Q h => refc_rd ho σ H Q h) h2 (comp_pieces C q (soundA its S W X _ C h1) (fun X' C' => soundE ie _ _ X' _ C' hx2) ?_)
                cases qc : qq.cond with
                | some t =>
                  rw [qc] at h3
                  exact fun X' C' => soundT c _ _ X' _ C' h3
                | none =>
                  rw [qc] at h3
                  exact h3
            | _ => cases h4
          | _ => cases h4
        · cases h2
    | _ => simp only [Bool.false_eq_true] at h2
  · rename_i es kk p
    obtain ⟨h1, h3⟩ := ba h
    refine PS.imp (ps_asg he (soundL C t _ h1) (by cases e <;> rfl) ?_ rfl) fun Dn σ H h => asg_to (fun _ _ _ _ q => q) Dn σ H h
    rcases or_end h3 with h3 | h3
    · exact stores_not h3
    rcases or_end h3 with h3 | h3
    · exact stores_foldT h3
    · obtain ⟨u, hu, hz⟩ := List.any_eq_true.mp h3
      refine stores_gen ⟨u, hu, fun id q e => ?_⟩
      subst e
      intro z
      have z' : X.env.scope.names.lookup id = some .local := z
      rw [C.sc] at z'
      simp [unswapped, localB, z'] at hz
  · obtain ⟨h1, h2⟩ := ba h
    exact p_asgS he (soundL C t _ h1) h2
  · cases h
mutual
theorem soundS (C : Ctx G xi cf gl k S W X) (hp : PassesOwn (model X.prog X.w) X.A X.env X.xe) : ∀ (i : Sm) (s : Stmt), chkS G S i s = true → PS X s (rdS X.K xi W (denS cf gl i))
  | .asg t i, s, h => by
    simp only [chkS] at h
    split at h
    · obtain ⟨h1, h⟩ := ba h
      obtain ⟨h2, h3⟩ := ba h
      exact s_asg C h1 h2 h3
    · cases h
  | .par is ies, s, h => by
    simp only [chkS] at h
    split at h
    · rename_i tg e p
      obtain ⟨h1, h⟩ := ba h
      cases q : parB S is tg e with
      | none => rw [q] at h; cases h
      | some es =>
        rw [q] at h
        unfold parB at q
        split at q
        · rename_i x px y py kt pt a b k2 pt2
          split at q
          · rename_i i j
            split at q
            · rename_i z
              cases q
              obtain ⟨z1, z⟩ := ba z
              obtain ⟨z2, z⟩ := ba z
              obtain ⟨z3, z⟩ := ba z
              obtain ⟨z4, z⟩ := ba z
              obtain ⟨z5, z⟩ := ba z
              obtain ⟨z6, z⟩ := ba z
              obtain ⟨z7, z⟩ := ba z
              obtain ⟨z8, z⟩ := ba z
              obtain ⟨z9, z⟩ := ba z
              obtain ⟨z10, z11⟩ := ba z
              have lx := local_of C z3
              have ly := local_of C z4
              refine p_par C.calm (by rw [C.hN]; exact C.nd) (by rw [C.hN]; exact of_decide_eq_true (ba z1).1) (by rw [C.hN]; exact of_decide_eq_true (ba z2).1) (of_decide_eq_true z11) lx ly (soundA ies S W X _ C h).args ?_
              exact swap_two (fun_of C h1) lx ly z5 (by simpa using z6) z7 z8 (by rwa [Bool.not_eq_true'] at z9) (by rwa [Bool.not_eq_true'] at z10)
            · cases q
          · cases q
        · rename_i x px y py z pz kt pt a b c k2 pt2
          split at q
          · rename_i i j l
            split at q
            · rename_i zz
              cases q
              obtain ⟨n, zz⟩ := ba zz
              obtain ⟨n1, n⟩ := ba n
              obtain ⟨n2, n3⟩ := ba n
              obtain ⟨m, zz⟩ := ba zz
              obtain ⟨m1, m⟩ := ba m
              obtain ⟨m2, m3⟩ := ba m
              obtain ⟨o, zz⟩ := ba zz
              obtain ⟨o1, o2⟩ := ba o
              obtain ⟨p, zz⟩ := ba zz
              obtain ⟨p1, p⟩ := ba p
              obtain ⟨p2, p3⟩ := ba p
              obtain ⟨s, zz⟩ := ba zz
              obtain ⟨s1, s⟩ := ba s
              obtain ⟨s2, s3⟩ := ba s
              obtain ⟨t, zz⟩ := ba zz
              obtain ⟨t1, t2⟩ := ba t
              obtain ⟨d1, zz⟩ := ba zz
              obtain ⟨d2, d3⟩ := ba zz
              have lx := local_of C m1
              have ly := local_of C m2
              have lz := local_of C m3
              refine p_par3 C.calm (by rw [C.hN]; exact C.nd) (by rw [C.hN]; exact of_decide_eq_true (ba n1).1) (by rw [C.hN]; exact of_decide_eq_true (ba n2).1) (by rw [C.hN]; exact of_decide_eq_true (ba n3).1) (of_decide_eq_true d1) (of_decide_eq_true d2) (of_decide_eq_true d3) lx ly lz (soundA ies S W X _ C h).args ?_
              exact swap_three (fun_of C h1) lx ly lz o1 o2 (by simpa using p1) (by simpa using p2) (by simpa using p3) s1 s2 s3 (by rwa [Bool.not_eq_true'] at t1) (by rwa [Bool.not_eq_true'] at t2)
            · cases q
          · cases q
        · cases q
    · cases h
  | .aug _ _ _, s, h => by simp only [chkS] at h; cases h
  | .app a i, s, h => by
    simp only [chkS] at h
    split at h
    · obtain ⟨h1, h⟩ := ba h
      obtain ⟨h2, h⟩ := ba h
      obtain ⟨h3, h⟩ := ba h
      obtain ⟨h4, h5⟩ := ba h
      have := of_decide_eq_true h1
      subst this
      exact p_app (soundE a S W X _ C h2) (soundE i S W X _ C h3) h4 h5
    · cases h
  | .drop i, s, h => by
    simp only [chkS] at h
    split at h
    · obtain ⟨h1, h2⟩ := ba h
      exact p_drop (soundE i S W X _ C h2) h1
    · cases h
  | .ret i, s, h => by
    simp only [chkS] at h
    split at h
    · exact p_ret (soundE i S W X _ C h)
    · cases h
  | .retN, s, h => by
    simp only [chkS] at h
    split at h
    · exact p_retN
    · cases h
  | .brk, s, h => by
    simp only [chkS] at h
    split at h
    · exact p_brk
    · cases h
  | .cnt, s, h => by
    simp only [chkS] at h
    split at h
    · exact p_cnt
    · cases h
  | .pass, s, h => by
    simp only [chkS] at h
    split at h
    · exact p_pass
    · cases h
  | .iff c a b, s, h => by
    simp only [chkS] at h
    split at h
    · obtain ⟨h1, h⟩ := ba h
      obtain ⟨h2, h3⟩ := ba h
      exact p_if (soundT c S W X _ C h1) (soundB C hp a _ h2) (soundB C hp b _ h3)
    · cases h
  | .loop ik its t body, s, h => by
    simp only [chkS] at h
    split at h
    · rename_i tg iter sb p
      cases q : iterParts G S ik tg iter with
      | none => rw [q] at h; cases h
      | some as =>
        rw [q] at h
        obtain ⟨h1, h⟩ := ba h
        obtain ⟨h2, h⟩ := ba h
        obtain ⟨h3, h⟩ := ba h
        obtain ⟨h4, h5⟩ := ba h
        exact p_for hp C.calm (s_iter C q (soundA its S W X _ C h2)) (soundL C t _ h3) (soundB C hp body _ h5) (foldOk h1)
    · cases h
  | .whl c body, s, h => by
    simp only [chkS] at h
    split at h
    · obtain ⟨h1, h2⟩ := ba h
      exact p_while hp (soundT c S W X _ C h1) (soundB C hp body _ h2)
    · cases h
  | .raise c e, s, h => by
    refine PS.imp ps_never fun Dn σ H h => ?_
    obtain ⟨B, io, r, st, ok, env, h⟩ := h
    simp only [denS] at h
    exact h
theorem soundB (C : Ctx G xi cf gl k S W X) (hp : PassesOwn (model X.prog X.w) X.A X.env X.xe) : ∀ (is : List Sm) (ss : List Stmt), chkB G S is ss = true → PSs X ss (rdS X.K xi W (denB cf gl is))
  | [], ss, h => by
    simp only [chkB] at h
    cases ss with
    | nil => exact p_nil
    | cons _ _ => cases h
  | i :: is, ss, h => by
    simp only [chkB] at h
    cases ss with
    | nil => cases h
    | cons s ss =>
      obtain ⟨h1, h2⟩ := ba h
      exact p_cons (soundS C hp i s h1) (soundB C hp is ss h2)
end
end
end L3

set_option maxHeartbeats 2000000
namespace L3
open L2 PySem PySem.Spec PyProof.Rows

/-! ### whole functions -/
structure Fn where
  np : Nat
  nn : Nat
  body : List Sm
def outR : Out → Res D
  | .go (.rt d) _ s => .ok d s
  | .go .nx _ s => .ok .non s
  | .exc c x _ s => .exc c x s
  | _ => .stuck
def envOf (f : Fn) (args : List D) : DEnv := args.map some ++ List.replicate (f.nn - f.np) none
noncomputable def runB (cf : Nat → List D → Store → Res D) (gl : Nat → Option D) (f : Fn) (args : List D) (st : Store) : Res D :=
  if args.length = f.np then outR (denB cf gl f.body (envOf f args) st) else .stuck
noncomputable def runN (fs : List Fn) (gl : Nat → Option D) : Nat → Nat → List D → Store → Res D
  | 0, _, _, _ => .stuck
  | k + 1, j, args, st => match fs[j]? with
    | some f => runB (runN fs gl k) gl f args st
    | none => .stuck

def scopeB (N ps : List Str) (sc : Scope) : Bool := (match sc.kind with
  | .function => true
  | _ => false) && (!sc.isCoroutine && (!sc.isGenerator && (decide N.Nodup && (decide (N.take ps.length = ps) && ((ps.all fun x => match sc.names.lookup x with
    | some .local => true
    | some .cell => true
    | _ => false) && (sc.names.all fun y => match y.2 with
    | .free => false
    | _ => true))))))
theorem scope_of {N ps : List Str} {sc : Scope} (h : scopeB N ps sc = true) : FnScope N ps sc := by
  unfold scopeB at h
  obtain ⟨h1, h⟩ := ba h
  obtain ⟨h2, h⟩ := ba h
  obtain ⟨h3, h⟩ := ba h
  obtain ⟨h4, h⟩ := ba h
  obtain ⟨h5, h⟩ := ba h
  obtain ⟨h6, h7⟩ := ba h
  refine ⟨?_, by simpa using h2, by simpa using h3, of_decide_eq_true h4, of_decide_eq_true h5, fun x hx => ?_, fun y hy => ?_⟩
  · split at h1
    · assumption
    · cases h1
  · have := List.all_eq_true.mp h6 x hx
    split at this
    · exact .inl (by assumption)
    · exact .inr (by assumption)
    · cases this
  · have := List.all_eq_true.mp h7 y hy
    intro z
    rw [z] at this
    cases this

theorem RVs.at_ {K : PySem.W.Frag} {H : Hp} {io B : List Addr} : ∀ {ds : List D} {vs : List V} {i : Nat} {d : D}, RVs K H io B ds vs → ds[i]? = some d → ∃ v, vs[i]? = some v ∧ RV K H io B d v
  | [], _, i, d, h, e => by cases i <;> cases e
  | x :: xs, _, 0, d, ⟨v, r, rfl, h1, h2⟩, e => by cases e; exact ⟨v, rfl, h1⟩
  | x :: xs, _, i + 1, d, ⟨v, r, rfl, h1, h2⟩, e => RVs.at_ (i := i) h2 e
theorem env_start {K : PySem.W.Frag} {H : Hp} {io B : List Addr} {ds : List D} {vs : List V} {N : List Str} {f : Fn} (h : RVs K H io B ds vs) (hl : ds.length = f.np) (hN : f.nn = N.length) : EnvOk K H io B (envOf f ds) (L2.start N vs) := by
  have lv := h.length
  refine ⟨?_, fun i d e => ?_⟩
  · unfold L2.start envOf
    simp only [List.length_append, List.length_map, List.length_replicate]
    omega
  · unfold envOf at e
    by_cases hi : i < ds.length
    · rw [List.getElem?_append_left (by rw [List.length_map]; exact hi), List.getElem?_map] at e
      cases q : ds[i]? with
      | none => rw [q] at e; cases e
      | some d' =>
        rw [q] at e
        have e' : d' = d := by injection e with e; injection e
        subst e'
        obtain ⟨v, hv, r⟩ := h.at_ q
        refine ⟨v, ?_, r⟩
        unfold L2.start
        have hi' : i < vs.length := by rw [lv]; exact hi
        rw [List.getElem?_append_left (by rw [List.length_map]; exact hi'), List.getElem?_map, hv]
        rfl
    · rw [List.getElem?_append_right (by rw [List.length_map]; exact Nat.le_of_not_lt hi)] at e
      rw [List.getElem?_replicate] at e
      split at e
      · cases e
      · cases e
theorem postS_of {K : PySem.W.Frag} {xi : XI} {E : XK} {B io : List Addr} {σ : SL} {H : Hp} {o : Out} {Q : VK} (h : Post K xi (fun c d _ H => E c d H) (RepE K B) B σ H io (outR o) Q) : PostS K xi (fun c d _ H => E c d H) B H io o { nx := fun _ H' => Q .non H', rt := Q } := by
  cases o with
  | stuck => exact h
  | exc c x r st => exact fun cls dd σ' H' io' e env ok s => h cls dd H' io' e ok s
  | go f r st =>
    cases f with
    | nx => exact fun σ' H' io' env ok s => h .non H' io' rfl ok s
    | rt d => exact fun σ' H' io' env ok s v rv => h v H' io' rv ok s
    | bk => exact h.elim
    | ct => exact h.elim

section
variable {G : Glob} {xi : XI} {fs : List Fn} {gl : Nat → Option D} {k j : Nat} {P : Program} {w : World} {K : PySem.W.Frag} {mg : Str → Option Value} {base : Heap} {x qual : Str} {params : Arguments} {body : List Stmt} {scope : Scope} {f : Addr} {fd : FuncData} {N ps : List Str} {fn : Fn}
theorem fn_sound (Fc : Facts G xi (runN fs gl k) gl k P w K mg base) (F : FunD K x qual params body scope [] [] f fd) (S : FnScope N ps scope) (hj : fs[j]? = some fn) (np : fn.np = ps.length) (nn : fn.nn = N.length)
    (ck : chkB G ⟨N, scope, none⟩ fn.body body = true) : FnG P w K mg base (k + 1) f fd ps (spOf K xi (runN fs gl (k + 1)) j ps.length) := by
  refine fnG_of F S (fun vs H Q E h => h.1) fun cdv A outer s H vs Q E hg hr h => ?_
  have C : Ctx G xi (runN fs gl k) gl k ⟨N, scope, none⟩ (fun cls d _ H => E cls d H) (cxOf (L2.CX P w) P w K mg base N qual scope f cdv A outer s H E) :=
    ⟨rfl, S.nd, rfl, rfl, rfl, hr, hg, takes_of rfl rfl rfl rfl, Fc⟩
  refine ⟨_, soundB C (passes_of rfl) fn.body body ck, ?_⟩
  obtain ⟨hl, B, io, st, ds, σ, ok, rv, h⟩ := h
  have ld : ds.length = fn.np := by rw [np, ← hl, rv.length]
  refine ⟨B, io, envOf fn ds, st, ok, env_start rv ld nn, postS_of (σ := σ) ?_⟩
  have e : runN fs gl (k + 1) j ds st = outR (denB (runN fs gl k) gl fn.body (envOf fn ds) st) := by
    show (match fs[j]? with
      | some f => runB (runN fs gl k) gl f ds st
      | none => .stuck) = _
    rw [hj]
    show runB _ _ _ _ _ = _
    unfold runB
    rw [if_pos ld]
  rw [e] at h
  exact h

/-- a def of the text -/
structure DI where
  x : Str
  ps : List Str
  N : List Str
  st : Stmt
  fn : Fn
def DI.ok (G : Glob) (d : DI) : Bool := scopeB d.N d.ps (defScope d.st) && (decide (d.fn.np = d.ps.length) && (decide (d.fn.nn = d.N.length) && chkB G ⟨d.N, defScope d.st, none⟩ d.fn.body (defBody d.st)))
structure Base (G : Glob) (xi : XI) (L : List DI) (gl : Nat → Option D) (K : PySem.W.Frag) (mg : Str → Option Value) : Prop where
  fn : G.fn = L.map (·.x)
  ps : G.ps = L.map (·.ps)
  free : ∀ x ∈ G.free, mg x = none
  con : ∀ (j : Nat) (x : Str) (d : D), G.con[j]? = some (x, d) → gl j = some d ∧ ∃ u v, mg x = some u ∧ RelV v u ∧ ∀ H io B, RV K H io B d v
  gcd : G.gcd = true → mg "gcd" = some (.builtin "math.gcd")
  isq : G.isq = true → mg "isqrt" = some (.builtin "math.isqrt")
  defs : ∀ (j : Nat) (d : DI), L[j]? = some d → d.ok G = true ∧ ∃ f fd, mg d.x = some (.ref f) ∧ Binds K fd d.ps [] ∧ (∀ n, (j, n) ∈ G.kws → KB K fd d.ps n) ∧ FunD K d.x d.x (defArgs d.st) (defBody d.st) (defScope d.st) [] [] f fd
theorem facts_all {L : List DI} (b : Base G xi L gl K mg) : ∀ k, Facts G xi (runN (L.map (·.fn)) gl k) gl k P w K mg base := by
  have at_ : ∀ {j : Nat} {x : Str} {ps : List Str}, G.fn[j]? = some x → G.ps[j]? = some ps → ∃ d, L[j]? = some d ∧ d.x = x ∧ d.ps = ps := fun {j x ps} h1 h2 => by
    rw [b.fn, List.getElem?_map] at h1
    rw [b.ps, List.getElem?_map] at h2
    cases q : L[j]? with
    | none => rw [q] at h1; cases h1
    | some d =>
      rw [q] at h1 h2
      exact ⟨d, rfl, Option.some.inj h1, Option.some.inj h2⟩
  intro k
  induction k with
  | zero =>
    refine ⟨b.free, b.con, fun j x ps h1 h2 => ?_, b.gcd, b.isq⟩
    obtain ⟨d, hd, rfl, rfl⟩ := at_ h1 h2
    obtain ⟨_, f, fd, g1, g2, g3, g4⟩ := b.defs j d hd
    refine ⟨f, fd, g1, g4.kp, g2, g3, fun vs H Q E h => h.1, fun A outer s H args us vs Q E _ _ _ _ _ h => ?_⟩
    obtain ⟨_, B, io, st, ds, σ, _, _, h⟩ := h
    exact h.elim
  | succ k ih =>
    refine ⟨b.free, b.con, fun j x ps h1 h2 => ?_, b.gcd, b.isq⟩
    obtain ⟨d, hd, rfl, rfl⟩ := at_ h1 h2
    obtain ⟨ok, f, fd, g1, g2, g3, g4⟩ := b.defs j d hd
    obtain ⟨k1, ok⟩ := ba ok
    obtain ⟨k2, ok⟩ := ba ok
    obtain ⟨k3, k4⟩ := ba ok
    exact ⟨f, fd, g1, g4.kp, g2, g3, fn_sound ih g4 (scope_of k1) (by rw [List.getElem?_map, hd]; rfl) (of_decide_eq_true k2) (of_decide_eq_true k3) k4⟩
end
end L3

set_option maxHeartbeats 2000000
namespace L3
open L2 PySem PySem.Spec PyProof.Rows

/-! ### the law's call from outside -/
section
variable {P : Program} {w : World} {K : PySem.W.Frag} {mg mb : Str → Option Value} {k : Nat} {fa a : Addr} {fd : FuncData} {x : Str} {sp : Sp} {s1 : Shared} {vs : List Value} {ns : List Int}
/-- the heap in which at most the script is followed -/
def onlyAt (a : Addr) (u : Option HO) : Hp := fun b => if b = a then u else none
theorem only_none {a b : Addr} {u : Option HO} (h : b ≠ a) : onlyAt a u b = none := if_neg h
theorem only_same {a : Addr} {u : Option HO} : onlyAt a u a = u := if_pos rfl
theorem call_law {u : Option HO} {o : Obj} (KX : K.In s1.heap) (hns : s1.heap.Ns mainGlobals mg) (hb : s1.heap.Ns builtinsNs mb) (hbb : ∀ x : Str, x ≠ "__name__" → mb x = bootBuiltins x) (hlim : s1.heap.NoLimit) (hg : s1.gens = #[])
    (ha : s1.heap.get? a = some o) (hnd : ∀ es n, o.data ≠ .dict es n) (hu : ∀ z, u = some z → K.lookup a = none ∧ ∃ xs, z = .frz o (.lst xs)) (hok : HOk P w (onlyAt a u) s1.heap)
    (hS : SqL K (onlyAt a u) a (ns.map V.int)) (hr : Room k callerA)
    (F : ∀ base : Heap, K.In base → base.Ns mainGlobals mg → FnG P w K mg base k fa fd [x] sp) (hbind : ∀ (s : Shared) (u : Value), BindsTo s fd ⟨[u], []⟩ [(x, u)])
    (hsp : ∀ H : Hp, SqL K H a (ns.map V.int) → sp [.ref a] H (fun v _ => v = .bl true) fun _ _ _ => False) :
    codeAny (model P w) callerA (.call (.ref fa) ⟨[.ref a], []⟩) (fun r s' => r = .ok (.ret (.bool true)) ∧ OldK s1.heap s'.heap ∧ s'.os = s1.os ∧ AllBare s'.gens) s1 := by
  have out : ∀ {b : Addr} {q : Obj}, s1.heap.get? b = some q → onlyAt a u b = none → (hidT s1.heap (onlyAt a u)).get? b = some q := fun e n => hidT_get e n
  have dct : ∀ {b : Addr} {m : Str → Option Value}, s1.heap.Ns b m → (hidT s1.heap (onlyAt a u)).Ns b m := fun {b m} z => by
    obtain ⟨q, es, ep, e, d, r⟩ := z
    refine ⟨q, es, ep, out e (only_none fun z => ?_), d, r⟩
    subst z
    rw [ha] at e
    cases e
    exact hnd _ _ d
  have kin : K.In (hidT s1.heap (onlyAt a u)) := fun b q e => out (KX b q e) (by
    by_cases z : b = a
    · subst z
      cases qu : u with
      | none => exact only_same
      | some z => rw [(hu z qu).1] at e; cases e
    · exact only_none z)
  obtain ⟨mc, l1, l2⟩ := hlim
  have e0 : Env0 P w K mg (hidT s1.heap (onlyAt a u)) callerA [] s1 (onlyAt a u) :=
    { frames := rfl, mod := ⟨kin, dct hns, ⟨mb, dct hb, hbb⟩, ⟨mc, dct l1, l2⟩⟩, bs := fun b q e => of_hidT e, bsz := Nat.le_of_eq (hidT_size _ _), funs := trivial, frf := (fun b hb => nomatch hb), hok := hok, bare := .of_eq hg }
  refine codeAny_mono ((F _ kin (dct hns)).go callerA [] s1 _ ⟨[.ref a], []⟩ [.ref a] [.ref a] _ _ rfl hr e0 (hbind s1 (.ref a)) (.cons rfl .nil) (hsp _ hS)) fun r s' h => ?_
  cases r with
  | error e =>
    obtain ⟨_, _, _, _, _, _, _, _, _, _, _, _, z⟩ := h
    exact z.elim
  | ok fl =>
    cases fl with
    | ret v =>
      obtain ⟨z, H', os, bare, un, hok', rl, q⟩ := h
      have q' : z = .bl true := q
      subst q'
      obtain rfl : v = Value.bool true := rl
      refine ⟨rfl, OldK.of_keep fun b q e => ?_, os, bare⟩
      by_cases hba : b = a
      · subst hba
        cases qu : u with
        | none => exact un.keep b q e (by rw [qu]; exact only_same) (fun z => nomatch z) (by simp)
        | some z =>
          obtain ⟨_, xs, rfl⟩ := hu z qu
          have here : onlyAt b u b = some (.frz o (.lst xs)) := by rw [qu]; exact only_same
          obtain ⟨e2, _⟩ := hok' b _ (un.frzs b o _ here)
          rw [ha] at e
          cases e
          exact e2
      · exact un.keep b q e (only_none hba) (fun z => nomatch z) (by simp)
    | next => exact h.elim
    | brk => exact h.elim
    | cont => exact h.elim
end
theorem walk_G {l : PySem.W.OpenLaw} {n k : Nat} {q : Program} {loose : List Str} {XP : (Str → Option Value) → Heap → Prop} {YP : World → Heap → Prop} {d : DefRec} {x : Str}
    (hn : l.most = some n) (hn2 : n ≤ sizeLine) (hdf : d.params.defaults = []) (hr : Room k callerA)
    (F : ∀ (w : World) (mg : Str → Option Value) (fa : Addr) (h : Heap), YP w h → h.Ns mainGlobals mg → mg d.name = some (.ref fa) →
      ∃ (K : PySem.W.Frag) (fd : FuncData) (sp : Sp), K.In h ∧ (∀ (s : Shared) (u : Value), BindsTo s fd ⟨[u], []⟩ [(x, u)]) ∧
        (∀ (H : Hp) (a : Addr) (ns : List Int), ns.length ≤ n → SqL K H a (ns.map V.int) → sp [.ref a] H (fun v _ => v = .bl true) fun _ _ _ => False) ∧
        ∀ base : Heap, K.In base → base.Ns mainGlobals mg → FnG l.prog w K mg base k fa fd [x] sp) :
    PySem.W.WalkO q loose XP YP l.row.toRowW d [] (fun f vs => PySem.call f vs) := by
  refine Att.attach_call hn hdf fun w s0 s1 mg mb fa o pm cd doc a vs ns G Y ho hd hcd hmg hobj hints hlen hg => ?_
  obtain ⟨K, fd, sp, KX, hb, hsp, hF⟩ := F w mg fa _ Y G.T.g hmg
  have rv := vals_ints hints
  have ls : ns.length ≤ sizeLine := Nat.le_trans hlen hn2
  have nd : ∀ es m, ({ cls := .type "list", data := .seq vs.toArray } : Obj).data ≠ .dict es m := fun es m z => by cases z
  cases hk : K.lookup a with
  | some q =>
    have e := KX a q hk
    rw [hobj] at e
    cases e
    refine call_law (u := none) KX G.T.g G.T.b G.T.builtins G.T.nolimit hg hobj nd (fun z e => nomatch e) (fun b z e => ?_) (.inr ⟨_, vs.toArray, _, hk, rfl, rfl, rfl, by rw [List.size_toArray, hints.length]; exact ls, by simpa using rv⟩) hr hF hb fun H hS => hsp H a ns hlen hS
    have : onlyAt a none b = none := by unfold onlyAt; split <;> rfl
    rw [this] at e
    cases e
  | none =>
    refine call_law (u := some (.frz { cls := .type "list", data := .seq vs.toArray } (.lst (ns.map V.int)))) KX G.T.g G.T.b G.T.builtins G.T.nolimit hg hobj nd (fun z e => by cases e; exact ⟨hk, _, rfl⟩) (fun b z e => ?_) (.inl (.inr ⟨_, only_same⟩)) hr hF hb fun H hS => hsp H a ns hlen hS
    by_cases hba : b = a
    · subst hba
      rw [only_same] at e
      cases e
      exact ⟨hobj, by rw [List.length_map]; exact ls, vs, _, rv, hobj⟩
    · rw [only_none hba] at e
      cases e

/-! ### constants -/
mutual
def dVal (K : PySem.W.Frag) : D → Value → Bool
  | .non, u => He.relB .non u
  | .bl b, u => He.relB (.bl b) u
  | .int i, u => He.relB (.int i) u
  | .str s, u => He.relB (.str s) u
  | .tup xs, u => (match u with
    | .ref T => (match K.lookup T with
      | some ⟨.type c, _, .seq its _, _⟩ => decide (c = "tuple") && (decide (its.size ≤ sizeLine) && dVals K xs its.toList)
      | _ => false)
    | _ => false)
  | _, _ => false
def dVals (K : PySem.W.Frag) : List D → List Value → Bool
  | [], us => us.isEmpty
  | x :: xs, us => (match us with
    | u :: us => dVal K x u && dVals K xs us
    | [] => false)
end
mutual
theorem dVal_ok {K : PySem.W.Frag} : ∀ (d : D) (u : Value), dVal K d u = true → ∃ v, RelV v u ∧ ∀ H io B, RV K H io B d v
  | .non, u, h => ⟨_, He.relB_ok h, fun _ _ _ => rfl⟩
  | .bl b, u, h => ⟨_, He.relB_ok (by simpa only [dVal] using h), fun _ _ _ => rfl⟩
  | .int b, u, h => ⟨_, He.relB_ok (by simpa only [dVal] using h), fun _ _ _ => rfl⟩
  | .str b, u, h => ⟨_, He.relB_ok (by simpa only [dVal] using h), fun _ _ _ => rfl⟩
  | .tup xs, u, h => by
    simp only [dVal] at h
    split at h
    · split at h
      · rename_i T o c od its n sl hT
        obtain ⟨h1, h⟩ := ba h
        obtain ⟨h2, h3⟩ := ba h
        obtain ⟨vs, r, q⟩ := dVals_ok xs _ h3
        refine ⟨.ref T, rfl, fun H io B => ⟨T, vs, rfl, .inl ⟨_, its, n, hT, ?_, rfl, of_decide_eq_true h2, r⟩, q H io B⟩⟩
        exact congrArg Value.type (of_decide_eq_true h1)
      · cases h
    · cases h
  | .lst _, _, h => by simp only [dVal] at h; cases h
  | .loc _, _, h => by simp only [dVal] at h; cases h
  | .scr _, _, h => by simp only [dVal] at h; cases h
theorem dVals_ok {K : PySem.W.Frag} : ∀ (ds : List D) (us : List Value), dVals K ds us = true → ∃ vs, Vals vs us ∧ ∀ H io B, RVs K H io B ds vs
  | [], us, h => by
    simp only [dVals] at h
    cases us with
    | nil => exact ⟨[], .nil, fun _ _ _ => rfl⟩
    | cons _ _ => cases h
  | d :: ds, us, h => by
    simp only [dVals] at h
    cases us with
    | nil => cases h
    | cons u us =>
      obtain ⟨h1, h2⟩ := ba h
      obtain ⟨v, r1, q1⟩ := dVal_ok d u h1
      obtain ⟨vs, r2, q2⟩ := dVals_ok ds us h2
      exact ⟨v :: vs, .cons r1 r2, fun H io B => ⟨v, vs, rfl, q1 H io B, q2 H io B⟩⟩
end
/-- what the head asks of the module's other names -/
def exB (G : Glob) (K : PySem.W.Frag) : Bool := (G.con.all fun p => match PySem.W.nsIn K mainGlobals p.1 with
  | some (some u) => dVal K p.2 u
  | _ => false) && ((!G.gcd || He.eqO (PySem.W.nsIn K mainGlobals "gcd") (some (some (.builtin "math.gcd")))) && (!G.isq || He.eqO (PySem.W.nsIn K mainGlobals "isqrt") (some (some (.builtin "math.isqrt")))))

/-! ### the defs -/
def AllL (p : DI → Prop) : List DI → Prop
  | [] => True
  | d :: ds => p d ∧ AllL p ds
theorem AllL.at {p : DI → Prop} : ∀ {L : List DI} {j : Nat} {d : DI}, AllL p L → L[j]? = some d → p d
  | [], j, d, _, e => by cases j <;> cases e
  | x :: xs, 0, d, h, e => by cases e; exact h.1
  | x :: xs, j + 1, d, h, e => AllL.at (L := xs) (j := j) h.2 e
abbrev fdOf (d : DI) (kV doc pm : Value) (an : Option Addr) (cdv ct : Value) : FuncData := PySem.W.fnOf d.x d.x (defArgs d.st) (defBody d.st) (defScope d.st) .none kV doc pm an cdv ct
/-- the values are bound in the parameters' order -/
def BindE (d : DI) : Prop := ∀ (kV doc pm : Value) (an : Option Addr) (cdv ct : Value) (us : List Value), us.length = d.ps.length → bindArgs (fdOf d kV doc pm an cdv ct) ⟨us, []⟩ = pure (d.ps.zip us)
def KwE (L : List DI) (p : Nat × Nat) : Prop := ∀ d, L[p.1]? = some d → ∀ (kV doc pm : Value) (an : Option Addr) (cdv ct : Value) (us ws : List Value), us.length = p.2 → ws.length = d.ps.length - p.2 → bindArgs (fdOf d kV doc pm an cdv ct) ⟨us, (d.ps.drop p.2).zip ws⟩ = pure (d.ps.zip (us ++ ws))
def dDef (d : DI) : He.DefD := ⟨(d.x, none), d.x, d.x, defArgs d.st, defBody d.st, defScope d.st, [], []⟩
def faOf (G : Glob) (L : List DI) : List He.Fa := L.map (fun d => .glo d.x) ++ G.free.map .free
def glOf (G : Glob) (j : Nat) : Option D := (G.con[j]?).map (·.2)
theorem base_of {G : Glob} {xi : XI} {L : List DI} {K : PySem.W.Frag} {h : Heap} {mg : Str → Option Value} {w : World} (X : K.In h) (N : h.Ns mainGlobals mg) (c : He.SaysX (faOf G L) (L.map dDef) [] [] (exB G) w h K)
    (h1 : G.fn = L.map (·.x)) (h2 : G.ps = L.map (·.ps)) (hok : AllL (fun d => d.ok G = true) L) (hb : AllL BindE L) (hk : ∀ p ∈ G.kws, KwE L p) : Base G xi L (glOf G) K mg := by
  have cd : He.SaysD (faOf G L) (L.map dDef) K := congrArg (fun z : He.AlT => z.1) c.t
  obtain ⟨m1, m2⟩ := ba c.more
  obtain ⟨m2, m3⟩ := ba m2
  refine ⟨h1, h2, fun x hx => ?_, fun j x d e => ?_, fun hg => ?_, fun hg => ?_, fun j d e => ⟨hok.at e, ?_⟩⟩
  · exact He.free_ok X N (cd.facts (f := .free x) (List.mem_append_right _ (List.mem_map.mpr ⟨x, hx, rfl⟩)))
  · refine ⟨by unfold glOf; rw [e]; rfl, ?_⟩
    have z := List.all_eq_true.mp m1 (x, d) (List.mem_of_getElem? e)
    simp only at z
    split at z
    · rename_i u hu
      obtain ⟨v, r, q⟩ := dVal_ok d u z
      exact ⟨u, v, PySem.W.mg_of X N hu, r, q⟩
    · cases z
  · rw [hg] at m2
    exact PySem.W.mg_of X N (He.eqO_ok m2)
  · rw [hg] at m3
    exact PySem.W.mg_of X N (He.eqO_ok m3)
  · obtain ⟨fd, FD⟩ := cd.def_ j (d := dDef d) (by rw [List.getElem?_map, e]; rfl)
    have FD' : FunD K d.x d.x (defArgs d.st) (defBody d.st) (defScope d.st) [] [] (He.fAd K (d.x, none)) fd := FD
    refine ⟨_, fd, ?_, FD'.bindsN (hb.at e), fun n hn => ?_, FD'⟩
    · exact He.glo_ok X N (cd.facts (f := .glo d.x) (List.mem_append_left _ (List.mem_map.mpr ⟨d, List.mem_of_getElem? e, rfl⟩)))
    · intro s us ws _ hu hw
      obtain ⟨oc, od, dV, kV, doc, pm, an, cdv, ct, osl, rfl, lk, hcd, hD, hK⟩ := FD'.ex
      rcases hD with ⟨_, rfl⟩ | ⟨z, _⟩
      · exact .of_eq (hk (j, n) hn d e kV doc pm an cdv ct us ws hu hw)
      · exact absurd rfl z

/-! ### the law -/
theorem Only_none : (fun _ => none : Hp) = fun _ => none := rfl
theorem sp_law {K : PySem.W.Frag} {xi : XI} {cf : Nat → List D → Store → Res D} {j : Nat} {H : Hp} {a : Addr} {ns : List Int} {st : Store} (hS : SqL K H a (ns.map V.int)) (h : cf j [.scr ns] [] = .ok (.bl true) st) : spOf K xi cf j 1 [.ref a] H (fun v _ => v = .bl true) fun _ _ _ => False := by
  refine ⟨rfl, [], [], [], [.scr ns], [], ⟨rfl, List.nodup_nil, (fun n xs e => by cases e), (fun b hb => by cases hb)⟩, ⟨.ref a, [], rfl, ⟨a, rfl, ?_⟩, rfl⟩, ?_⟩
  · rcases hS with z | z
    · exact .inr ⟨z, (fun z => nomatch z), (fun z => nomatch z)⟩
    · exact .inl z
  · rw [h]
    exact fun v H' io' r _ _ => r
theorem walk_law {l : PySem.W.OpenLaw} {n k j : Nat} {q : Program} {loose : List Str} {XP : (Str → Option Value) → Heap → Prop} {d : DefRec} {G : Glob} {L : List DI} {dl : DI} {x : Str} {N : Nat}
    (hn : l.most = some n) (hn2 : n ≤ sizeLine) (hdf : d.params.defaults = []) (hr : Room (k + 1) callerA)
    (h1 : G.fn = L.map (·.x)) (h2 : G.ps = L.map (·.ps)) (hok : AllL (fun d => d.ok G = true) L) (hb : AllL BindE L) (hk : ∀ p ∈ G.kws, KwE L p)
    (hd : L[j]? = some dl) (hdn : dl.x = d.name) (hps : dl.ps = [x])
    (plain : ∀ ns : List Int, ns.length ≤ n → ∃ st, runN (L.map (·.fn)) (glOf G) (k + 1) j [.scr ns] [] = .ok (.bl true) st) :
    PySem.W.WalkO q loose XP (He.hookX N (faOf G L) (L.map dDef) [] [] (exB G)).says l.row.toRowW d [] (fun f vs => PySem.call f vs) := by
  refine walk_G (x := x) (n := n) (k := k + 1) hn hn2 hdf hr fun w mg fa h Y Nn hmg => ?_
  obtain ⟨K, KX, c⟩ := Y
  have b : Base G ⟨fun _ => 0, fun _ => none⟩ L (glOf G) K mg := base_of KX Nn c h1 h2 hok hb hk
  obtain ⟨_, f, fd, g1, g2, g3, g4⟩ := b.defs j dl hd
  have e : f = fa := by
    rw [hdn, hmg] at g1
    cases g1
    rfl
  subst e
  refine ⟨K, fd, spOf K ⟨fun _ => 0, fun _ => none⟩ (runN (L.map (·.fn)) (glOf G) (k + 1)) j 1, KX, fun s u => ?_, fun H a ns hl hS => ?_, fun base kb nb => ?_⟩
  · have := FunD.bindsA g4 (hb.at hd) s [u] (by rw [hps]; rfl)
    rw [hps] at this
    exact this
  · obtain ⟨st, e⟩ := plain ns hl
    exact sp_law hS e
  · obtain ⟨k1, ok⟩ := ba (hok.at hd)
    obtain ⟨k2, ok⟩ := ba ok
    obtain ⟨k3, k4⟩ := ba ok
    have m := fn_sound (P := l.prog) (w := w) (base := base) (facts_all b k) g4 (scope_of k1) (by rw [List.getElem?_map, hd]; rfl) (of_decide_eq_true k2) (of_decide_eq_true k3) k4
    rw [hps] at m
    exact m
end L3

set_option maxHeartbeats 0
/-! ### the program as data (printed by gen_law.py) -/
namespace LawX
open L2 L3 PySem PySem.Spec PyProof.Rows
def top (i : Nat) : Stmt := PySem.Challenge.pw_skyplates_k54_whole_edges_of_two_planes.main.body.getD i (.Pass ⟨0, 0, 0, 0⟩)
/-- is_whole -/
def f_is_whole : Fn := ⟨1, 1, [.ret (.and2 (.op (.isi 0) [.var 0]) (.nott (.op (.isi 1) [.var 0])))]⟩
def d_is_whole : DI := ⟨("is_whole" : Str), [("value" : Str)], [("value" : Str)], top 8, f_is_whole⟩
/-- are_wholes -/
def f_are_wholes : Fn := ⟨2, 3, [.ret (.and2 (.op (.isi 2) [.var 0]) (.and2 (.op .eq [.op .len [.var 0], .var 1]) (.op .all [.comp .seq [.var 0] [2] (.con (.bl true)) (.call 0 [.var 2] [])])))]⟩
def d_are_wholes : DI := ⟨("are_wholes" : Str), [("value" : Str), ("many" : Str)], [("value" : Str), ("many" : Str), ("number" : Str)], top 9, f_are_wholes⟩
/-- is_some_triple -/
def f_is_some_triple : Fn := ⟨1, 1, [.ret (.and2 (.call 1 [.var 0, .con (.int (3))] []) (.nott (.and2 (.op .eq [.op .idx [.var 0, .con (.int (0))], .con (.int (0))]) (.and2 (.op .eq [.op .idx [.var 0, .con (.int (1))], .con (.int (0))]) (.op .eq [.op .idx [.var 0, .con (.int (2))], .con (.int (0))])))))]⟩
def d_is_some_triple : DI := ⟨("is_some_triple" : Str), [("value" : Str)], [("value" : Str)], top 10, f_is_some_triple⟩
/-- common_divisor -/
def f_common_divisor : Fn := ⟨1, 3, [.asg (.nm 1) (.con (.int (0))),
  .loop .seq [.var 0] (.nm 2) [.asg (.nm 1) (.op .gcd [.var 1, .var 2])],
  .ret (.var 1)]⟩
def d_common_divisor : DI := ⟨("common_divisor" : Str), [("numbers" : Str)], [("numbers" : Str), ("found" : Str), ("number" : Str)], top 11, f_common_divisor⟩
/-- lowest -/
def f_lowest : Fn := ⟨1, 3, [.asg (.nm 1) (.call 3 [.var 0] []),
  .ret (.op .tuple [.comp .seq [.var 0] [2] (.con (.bl true)) (.op .fdiv [.var 2, .var 1])])]⟩
def d_lowest : DI := ⟨("lowest" : Str), [("numbers" : Str)], [("numbers" : Str), ("divisor" : Str), ("number" : Str)], top 12, f_lowest⟩
/-- is_lowest -/
def f_is_lowest : Fn := ⟨1, 1, [.ret (.op .eq [.call 3 [.var 0] [], .con (.int (1))])]⟩
def d_is_lowest : DI := ⟨("is_lowest" : Str), [("numbers" : Str)], [("numbers" : Str)], top 13, f_is_lowest⟩
/-- sign -/
def f_sign : Fn := ⟨1, 1, [.ret (.op .sub [.op .gt [.var 0, .con (.int (0))], .op .lt [.var 0, .con (.int (0))]])]⟩
def d_sign : DI := ⟨("sign" : Str), [("number" : Str)], [("number" : Str)], top 14, f_sign⟩
/-- plane_in -/
def f_plane_in : Fn := ⟨1, 1, [.iff (.nott (.call 2 [.var 0] [])) [.raise 0 (.con .non)] [],
  .ret (.call 4 [.var 0] [])]⟩
def d_plane_in : DI := ⟨("plane_in" : Str), [("value" : Str)], [("value" : Str)], top 16, f_plane_in⟩
/-- is_hour -/
def f_is_hour : Fn := ⟨1, 1, [.ret (.and2 (.call 1 [.var 0, .con (.int (2))] []) (.call 5 [.var 0] []))]⟩
def d_is_hour : DI := ⟨("is_hour" : Str), [("value" : Str)], [("value" : Str)], top 18, f_is_hour⟩
/-- is_height -/
def f_is_height : Fn := ⟨1, 1, [.ret (.and2 (.call 1 [.var 0, .con (.int (2))] []) (.and2 (.call 5 [.var 0] []) (.and2 (.op .gt [.op .idx [.var 0, .con (.int (1))], .con (.int (0))]) (.chn .le .le (.op .neg [.op .idx [.var 0, .con (.int (1))]]) (.op .idx [.var 0, .con (.int (0))]) (.op .idx [.var 0, .con (.int (1))])))))]⟩
def d_is_height : DI := ⟨("is_height" : Str), [("value" : Str)], [("value" : Str)], top 20, f_is_height⟩
/-- is_day -/
def f_is_day : Fn := ⟨1, 1, [.ret (.and2 (.call 9 [.var 0] []) (.chn .lt .lt (.op .neg [.op .idx [.var 0, .con (.int (1))]]) (.op .idx [.var 0, .con (.int (0))]) (.op .idx [.var 0, .con (.int (1))])))]⟩
def d_is_day : DI := ⟨("is_day" : Str), [("value" : Str)], [("value" : Str)], top 21, f_is_day⟩
/-- check_day -/
def f_check_day : Fn := ⟨1, 1, [.iff (.nott (.call 10 [.var 0] [])) [.raise 0 (.con .non)] []]⟩
def d_check_day : DI := ⟨("check_day" : Str), [("value" : Str)], [("value" : Str)], top 22, f_check_day⟩
/-- sign_of_sum -/
def f_sign_of_sum : Fn := ⟨3, 3, [.iff (.or2 (.op .eq [.var 0, .con (.int (0))]) (.op .eq [.var 0, .var 1])) [.ret (.ifx (.op .eq [.var 0, .con (.int (0))]) (.var 1) (.var 0))] [],
  .iff (.or2 (.op .eq [.var 1, .con (.int (0))]) (.op .gt [.var 2, .con (.int (0))])) [.ret (.var 0)] [],
  .ret (.ifx (.op .eq [.var 2, .con (.int (0))]) (.con (.int (0))) (.var 1))]⟩
def d_sign_of_sum : DI := ⟨("sign_of_sum" : Str), [("first" : Str), ("second" : Str), ("many" : Str)], [("first" : Str), ("second" : Str), ("many" : Str)], top 24, f_sign_of_sum⟩
/-- sign_of_roots -/
def f_sign_of_roots : Fn := ⟨4, 6, [.asg (.nm 4) (.ifx (.op .gt [.var 1, .con (.int (0))]) (.call 6 [.var 0] []) (.con (.int (0)))),
  .asg (.nm 5) (.ifx (.op .gt [.var 3, .con (.int (0))]) (.call 6 [.var 2] []) (.con (.int (0)))),
  .ret (.call 12 [.var 4, .var 5, .op .sub [.op .mul [.op .mul [.var 0, .var 0], .var 1], .op .mul [.op .mul [.var 2, .var 2], .var 3]]] [])]⟩
def d_sign_of_roots : DI := ⟨("sign_of_roots" : Str), [("p" : Str), ("u" : Str), ("q" : Str), ("v" : Str)], [("p" : Str), ("u" : Str), ("q" : Str), ("v" : Str), ("first" : Str), ("second" : Str)], top 25, f_sign_of_roots⟩
/-- sign_of_four -/
def f_sign_of_four : Fn := ⟨4, 12, [.asg (.tp [.nm 8, .nm 9, .nm 10, .nm 11]) (.var 0),
  .asg (.nm 4) (.call 13 [.var 8, .con (.int (1)), .var 11, .op .mul [.var 2, .var 3]] []),
  .asg (.nm 5) (.ifx (.op .gt [.var 1, .con (.int (0))]) (.call 13 [.var 9, .var 2, .var 10, .var 3] []) (.con (.int (0)))),
  .iff (.or2 (.op .eq [.var 4, .con (.int (0))]) (.or2 (.op .eq [.var 5, .con (.int (0))]) (.op .eq [.var 4, .var 5]))) [.ret (.ifx (.op .ne [.var 4, .con (.int (0))]) (.var 4) (.var 5))] [],
  .asg (.nm 6) (.op .sub [.op .add [.op .mul [.var 8, .var 8], .op .mul [.op .mul [.op .mul [.var 11, .var 11], .var 2], .var 3]], .op .mul [.var 1, .op .add [.op .mul [.op .mul [.var 9, .var 9], .var 2], .op .mul [.op .mul [.var 10, .var 10], .var 3]]]]),
  .asg (.nm 7) (.call 13 [.var 6, .con (.int (1)), .op .mul [.con (.int (2)), .op .sub [.op .mul [.var 8, .var 11], .op .mul [.op .mul [.var 1, .var 9], .var 10]]], .op .mul [.var 2, .var 3]] []),
  .ret (.call 12 [.var 4, .var 5, .var 7] [])]⟩
def d_sign_of_four : DI := ⟨("sign_of_four" : Str), [("row" : Str), ("n" : Str), ("d" : Str), ("e" : Str)], [("row" : Str), ("n" : Str), ("d" : Str), ("e" : Str), ("first" : Str), ("second" : Str), ("whole" : Str), ("greater" : Str), ("p" : Str), ("q" : Str), ("r" : Str), ("t" : Str)], top 26, f_sign_of_four⟩
/-- is_edge -/
def f_is_edge : Fn := ⟨1, 1, [.ret (.op (.isi 2) [.op .idx [.var 0, .con (.int (0))]])]⟩
def d_is_edge : DI := ⟨("is_edge" : Str), [("moment" : Str)], [("moment" : Str)], top 28, f_is_edge⟩
/-- is_edge_value -/
def f_is_edge_value : Fn := ⟨1, 1, [.iff (.or2 (.nott (.op (.isi 2) [.var 0])) (.or2 (.op .ne [.op .len [.var 0], .con (.int (2))]) (.nott (.call 2 [.op .idx [.var 0, .con (.int (0))]] [])))) [.ret (.con (.bl false))] [],
  .ret (.and2 (.call 0 [.op .idx [.var 0, .con (.int (1))]] []) (.op .memb [.op .idx [.var 0, .con (.int (1))], .op .tup [.con (.int (1)), .op .neg [.con (.int (1))]]]))]⟩
def d_is_edge_value : DI := ⟨("is_edge_value" : Str), [("value" : Str)], [("value" : Str)], top 29, f_is_edge_value⟩
/-- checked_moment -/
def f_checked_moment : Fn := ⟨1, 1, [.iff (.call 16 [.var 0] []) [.ret (.op .tup [.call 4 [.op .idx [.var 0, .con (.int (0))]] [], .op .idx [.var 0, .con (.int (1))]])] [],
  .iff (.nott (.call 8 [.var 0] [])) [.raise 0 (.con .non)] [],
  .ret (.var 0)]⟩
def d_checked_moment : DI := ⟨("checked_moment" : Str), [("value" : Str)], [("value" : Str)], top 30, f_checked_moment⟩
/-- check_edge -/
def f_check_edge : Fn := ⟨2, 2, [.iff (.and2 (.call 15 [.var 1] []) (.op .le [.call 19 [.call 4 [.op .idx [.var 1, .con (.int (0))]] [], .var 0] [], .con (.int (0))])) [.raise 0 (.con .non)] []]⟩
def d_check_edge : DI := ⟨("check_edge" : Str), [("day" : Str), ("value" : Str)], [("day" : Str), ("value" : Str)], top 31, f_check_edge⟩
/-- edge_number -/
def f_edge_number : Fn := ⟨2, 5, [.asg (.tp [.nm 2, .nm 3, .nm 4]) (.var 0),
  .ret (.op .sub [.op .mul [.op .add [.op .mul [.var 2, .var 2], .op .mul [.var 3, .var 3]], .op .sub [.op .idx [.var 1, .con (.int (1))], .op .abs [.op .idx [.var 1, .con (.int (0))]]]], .op .mul [.op .mul [.var 4, .var 4], .op .abs [.op .idx [.var 1, .con (.int (0))]]]])]⟩
def d_edge_number : DI := ⟨("edge_number" : Str), [("plane" : Str), ("day" : Str)], [("plane" : Str), ("day" : Str), ("a" : Str), ("b" : Str), ("c" : Str)], top 32, f_edge_number⟩
/-- sign_of_plane -/
def f_sign_of_plane : Fn := ⟨3, 16, [.asg (.tp [.nm 4, .nm 5, .nm 6]) (.var 0),
  .par [7, 8] [.op .abs [.op .idx [.var 1, .con (.int (0))]], .call 6 [.op .idx [.var 1, .con (.int (0))]] []],
  .iff (.nott (.call 15 [.var 2] [])) [.par [11, 12] [.var 2, .op .sub [.op .idx [.var 1, .con (.int (1))], .var 7]], .asg (.nm 9) (.op .add [.op .mul [.op .idx [.var 11, .con (.int (0))], .op .idx [.var 11, .con (.int (0))]], .op .mul [.op .idx [.var 11, .con (.int (1))], .op .idx [.var 11, .con (.int (1))]]]), .ret (.call 13 [.op .add [.op .mul [.var 4, .op .idx [.var 11, .con (.int (0))]], .op .mul [.var 5, .op .idx [.var 11, .con (.int (1))]]], .var 12, .op .mul [.var 6, .var 8], .op .mul [.var 7, .var 9]] [])] [],
  .asg (.tp [.tp [.nm 13, .nm 14, .nm 15], .nm 10]) (.var 2),
  .asg (.nm 3) (.op .sub [.op .mul [.var 6, .op .add [.op .mul [.var 13, .var 13], .op .mul [.var 14, .var 14]]], .op .mul [.var 15, .op .add [.op .mul [.var 4, .var 13], .op .mul [.var 5, .var 14]]]]),
  .ret (.call 13 [.op .mul [.var 3, .var 8], .var 7, .op .mul [.var 10, .op .sub [.op .mul [.var 4, .var 14], .op .mul [.var 5, .var 13]]], .call 19 [.op .idx [.var 2, .con (.int (0))], .var 1] []] [])]⟩
def d_sign_of_plane : DI := ⟨("sign_of_plane" : Str), [("plane" : Str), ("day" : Str), ("moment" : Str)], [("plane" : Str), ("day" : Str), ("moment" : Str), ("part" : Str), ("a" : Str), ("b" : Str), ("c" : Str), ("size" : Str), ("sense" : Str), ("squares" : Str), ("way" : Str), ("hour" : Str), ("far" : Str), ("a1" : Str), ("b1" : Str), ("c1" : Str)], top 33, f_sign_of_plane⟩
/-- sign_at -/
def f_sign_at : Fn := ⟨3, 5, [.asg (.nm 3) (.call 7 [.var 0] []),
  .drop (.call 11 [.var 1] []),
  .asg (.nm 4) (.call 17 [.var 2] []),
  .drop (.call 18 [.var 1, .var 2] []),
  .ret (.call 20 [.var 3, .var 1, .var 4] [])]⟩
def d_sign_at : DI := ⟨("sign_at" : Str), [("plane" : Str), ("day" : Str), ("moment" : Str)], [("plane" : Str), ("day" : Str), ("moment" : Str), ("checked" : Str), ("known" : Str)], top 34, f_sign_at⟩
/-- parts_of -/
def f_parts_of : Fn := ⟨2, 6, [.iff (.nott (.call 15 [.var 1] [])) [.ret (.op .tup [.op .tup [.op .idx [.var 1, .con (.int (0))], .con (.int (0)), .con (.int (0))], .op .tup [.op .idx [.var 1, .con (.int (1))], .con (.int (0)), .con (.int (0))], .con (.int (0))])] [],
  .asg (.tp [.tp [.nm 3, .nm 4, .nm 5], .nm 2]) (.var 1),
  .ret (.op .tup [.op .tup [.con (.int (0)), .op .mul [.op .neg [.var 3], .var 5], .op .mul [.var 2, .var 4]], .op .tup [.con (.int (0)), .op .mul [.op .neg [.var 4], .var 5], .op .mul [.op .neg [.var 2], .var 3]], .call 19 [.op .idx [.var 1, .con (.int (0))], .var 0] []])]⟩
def d_parts_of : DI := ⟨("parts_of" : Str), [("day" : Str), ("moment" : Str)], [("day" : Str), ("moment" : Str), ("way" : Str), ("a" : Str), ("b" : Str), ("c" : Str)], top 35, f_parts_of⟩
/-- sign_of_part -/
def f_sign_of_part : Fn := ⟨3, 3, [.iff (.and2 (.op .eq [.op .idx [.var 1, .con (.int (1))], .con (.int (0))]) (.op .eq [.op .idx [.var 1, .con (.int (2))], .con (.int (0))])) [.ret (.call 6 [.op .idx [.var 1, .con (.int (0))]] [])] [],
  .ret (.call 13 [.op .mul [.op .idx [.var 1, .con (.int (1))], .call 6 [.op .idx [.var 0, .con (.int (0))]] []], .op .abs [.op .idx [.var 0, .con (.int (0))]], .op .idx [.var 1, .con (.int (2))], .var 2] [])]⟩
def d_sign_of_part : DI := ⟨("sign_of_part" : Str), [("day" : Str), ("part" : Str), ("square" : Str)], [("day" : Str), ("part" : Str), ("square" : Str)], top 36, f_sign_of_part⟩
/-- half_of -/
def f_half_of : Fn := ⟨2, 6, [.asg (.tp [.nm 3, .nm 4, .nm 5]) (.call 22 [.var 0, .var 1] []),
  .asg (.nm 2) (.call 23 [.var 0, .var 4, .var 5] []),
  .iff (.op .eq [.var 2, .con (.int (0))]) [.ret (.op .int [.op .gt [.call 23 [.var 0, .var 3, .var 5] [], .con (.int (0))]])] [],
  .ret (.op .int [.op .gt [.var 2, .con (.int (0))]])]⟩
def d_half_of : DI := ⟨("half_of" : Str), [("day" : Str), ("moment" : Str)], [("day" : Str), ("moment" : Str), ("found" : Str), ("across" : Str), ("along" : Str), ("square" : Str)], top 37, f_half_of⟩
/-- turn_sign -/
def f_turn_sign : Fn := ⟨3, 16, [.asg (.tp [.nm 4, .nm 5, .nm 6]) (.call 22 [.var 0, .var 1] []),
  .asg (.tp [.nm 7, .nm 8, .nm 9]) (.call 22 [.var 0, .var 2] []),
  .par [10, 11] [.op .abs [.op .idx [.var 0, .con (.int (0))]], .call 6 [.op .idx [.var 0, .con (.int (0))]] []],
  .iff (.and2 (.call 15 [.var 1] []) (.call 15 [.var 2] [])) [.asg (.nm 12) (.op .mul [.var 10, .op .sub [.op .mul [.op .idx [.var 4, .con (.int (1))], .op .idx [.var 8, .con (.int (1))]], .op .mul [.op .idx [.var 5, .con (.int (1))], .op .idx [.var 7, .con (.int (1))]]]]), .asg (.nm 13) (.op .mul [.var 11, .op .sub [.op .mul [.op .idx [.var 4, .con (.int (2))], .op .idx [.var 8, .con (.int (1))]], .op .mul [.op .idx [.var 5, .con (.int (2))], .op .idx [.var 7, .con (.int (1))]]]]), .asg (.nm 14) (.op .mul [.var 11, .op .sub [.op .mul [.op .idx [.var 4, .con (.int (1))], .op .idx [.var 8, .con (.int (2))]], .op .mul [.op .idx [.var 5, .con (.int (1))], .op .idx [.var 7, .con (.int (2))]]]]), .ret (.call 14 [.op .tup [.var 12, .var 13, .var 14, .op .sub [.op .mul [.op .idx [.var 4, .con (.int (2))], .op .idx [.var 8, .con (.int (2))]], .op .mul [.op .idx [.var 5, .con (.int (2))], .op .idx [.var 7, .con (.int (2))]]]], .var 10, .var 6, .var 9] [])] [],
  .asg (.nm 3) (.comp .seq [.op .tup [.con (.int (1)), .con (.int (2))]] [15] (.con (.bl true)) (.op .sub [.op .mul [.op .add [.op .idx [.var 4, .con (.int (0))], .op .idx [.var 4, .var 15]], .op .add [.op .idx [.var 8, .con (.int (0))], .op .idx [.var 8, .var 15]]], .op .mul [.op .add [.op .idx [.var 5, .con (.int (0))], .op .idx [.var 5, .var 15]], .op .add [.op .idx [.var 7, .con (.int (0))], .op .idx [.var 7, .var 15]]]])),
  .iff (.and2 (.nott (.call 15 [.var 1] [])) (.nott (.call 15 [.var 2] []))) [.ret (.call 6 [.op .sub [.op .mul [.op .idx [.var 4, .con (.int (0))], .op .idx [.var 8, .con (.int (0))]], .op .mul [.op .idx [.var 5, .con (.int (0))], .op .idx [.var 7, .con (.int (0))]]]] [])] [],
  .ret (.call 13 [.op .mul [.op .idx [.var 3, .con (.int (0))], .var 11], .var 10, .op .idx [.var 3, .con (.int (1))], .op .max2 [.var 6, .var 9]] [])]⟩
def d_turn_sign : DI := ⟨("turn_sign" : Str), [("day" : Str), ("moment" : Str), ("other" : Str)], [("day" : Str), ("moment" : Str), ("other" : Str), ("rows" : Str), ("x" : Str), ("y" : Str), ("d" : Str), ("u" : Str), ("v" : Str), ("e" : Str), ("size" : Str), ("sense" : Str), ("whole" : Str), ("first" : Str), ("second" : Str), ("at" : Str)], top 38, f_turn_sign⟩
/-- order_of -/
def f_order_of : Fn := ⟨3, 5, [.par [3, 4] [.call 24 [.var 0, .var 1] [], .call 24 [.var 0, .var 2] []],
  .iff (.op .ne [.var 3, .var 4]) [.ret (.ifx (.op .lt [.var 3, .var 4]) (.op .neg [.con (.int (1))]) (.con (.int (1))))] [],
  .ret (.op .neg [.call 25 [.var 0, .var 1, .var 2] []])]⟩
def d_order_of : DI := ⟨("order_of" : Str), [("day" : Str), ("moment" : Str), ("other" : Str)], [("day" : Str), ("moment" : Str), ("other" : Str), ("first" : Str), ("second" : Str)], top 39, f_order_of⟩
/-- compare_moments -/
def f_compare_moments : Fn := ⟨3, 5, [.drop (.call 11 [.var 0] []),
  .par [3, 4] [.call 17 [.var 1] [], .call 17 [.var 2] []],
  .drop (.call 18 [.var 0, .var 1] []),
  .drop (.call 18 [.var 0, .var 2] []),
  .ret (.call 26 [.var 0, .var 3, .var 4] [])]⟩
def d_compare_moments : DI := ⟨("compare_moments" : Str), [("day" : Str), ("moment" : Str), ("other" : Str)], [("day" : Str), ("moment" : Str), ("other" : Str), ("first" : Str), ("second" : Str)], top 40, f_compare_moments⟩
/-- _law_well -/
def f__law_well : Fn := ⟨2, 6, [.asg (.nm 2) (.op .add [.con (.int (70207)), .op .mul [.con (.int (1613)), .var 1]]),
  .loop .seq [.op (.cut false true) [.var 0, .con (.int (9))]] (.nm 3) [.asg (.nm 2) (.op .md [.op .int [.op .add [.op .add [.op .mul [.var 2, .con (.int (48673))], .op .md [.op .int [.var 3], .con (.int (2147483563))]], .con (.int (29))]], .con (.int (2147483563))])],
  .asg (.nm 4) (.ifx (.op .lt [.var 1, .op .len [.var 0]]) (.op .int [.op .idx [.var 0, .var 1]]) (.var 2)),
  .asg (.nm 5) (.ifx (.or2 (.op .lt [.var 4, .con (.int (0))]) (.op .ge [.var 4, .op .pow [.con (.int (10)), .con (.int (18))]])) (.op .abs [.var 4]) (.con (.int (0)))),
  .ret (.ref (.op .lst [.var 5, .op .md [.op .int [.op .add [.op .add [.op .mul [.var 2, .con (.int (30011))], .op .mul [.op .md [.op .int [.var 4], .con (.int (2147483563))], .con (.int (6151))]], .con (.int (7))]], .con (.int (2147483563))], .con (.int (0))]))]⟩
def d__law_well : DI := ⟨("_law_well" : Str), [("_law_script" : Str), ("_law_spot" : Str)], [("_law_script" : Str), ("_law_spot" : Str), ("_law_mixed" : Str), ("_law_cell" : Str), ("_law_own" : Str), ("_law_rest" : Str)], top 42, f__law_well⟩
/-- _law_dip -/
def f__law_dip : Fn := ⟨2, 4, [.iff (.op .gt [.op .idx [.var 0, .con (.int (0))], .con (.int (0))]) [.asg (.tp [.sub (.var 0) (.con (.int (0))), .nm 3]) (.op .divmod [.op .idx [.var 0, .con (.int (0))], .var 1]), .ret (.var 3)] [],
  .asg (.sub (.var 0) (.con (.int (2)))) (.op .add [.op .idx [.var 0, .con (.int (2))], .con (.int (1))]),
  .asg (.nm 2) (.op .add [.op .md [.op .int [.op .idx [.var 0, .con (.int (1))]], .con (.int (10007))], .con (.int (20011))]),
  .asg (.sub (.var 0) (.con (.int (1)))) (.op .md [.op .int [.op .add [.op .add [.op .mul [.op .idx [.var 0, .con (.int (1))], .var 2], .op .mul [.con (.int (90001)), .op .idx [.var 0, .con (.int (2))]]], .con (.int (11))]], .con (.int (2147483563))]),
  .ret (.op .md [.op .int [.op .fdiv [.op .idx [.var 0, .con (.int (1))], .con (.int (61))]], .var 1])]⟩
def d__law_dip : DI := ⟨("_law_dip" : Str), [("_law_well_here" : Str), ("_law_many" : Str)], [("_law_well_here" : Str), ("_law_many" : Str), ("_law_step" : Str), ("_law_digit" : Str)], top 43, f__law_dip⟩
/-- _law_of -/
def f__law_of : Fn := ⟨2, 2, [.ret (.op .idx [.var 1, .call 29 [.var 0, .op .len [.var 1]] []])]⟩
def d__law_of : DI := ⟨("_law_of" : Str), [("_law_well_here" : Str), ("_law_some" : Str)], [("_law_well_here" : Str), ("_law_some" : Str)], top 44, f__law_of⟩
/-- _law_rounds -/
def f__law_rounds : Fn := ⟨1, 1, [.ret (.op .max2 [.con (.int (2)), .op .min2 [.op .len [.var 0], .con (.int (3))]])]⟩
def d__law_rounds : DI := ⟨("_law_rounds" : Str), [("_law_script" : Str)], [("_law_script" : Str)], top 45, f__law_rounds⟩
/-- _law_sgn -/
def f__law_sgn : Fn := ⟨1, 1, [.ret (.op .sub [.op .int [.op .gt [.var 0, .con (.int (0))]], .op .int [.op .lt [.var 0, .con (.int (0))]]])]⟩
def d__law_sgn : DI := ⟨("_law_sgn" : Str), [("_law_number" : Str)], [("_law_number" : Str)], top 46, f__law_sgn⟩
/-- _law_cut -/
def f__law_cut : Fn := ⟨1, 5, [.asg (.nm 1) (.con (.int (0))),
  .loop .seq [.var 0] (.nm 2) [.par [3, 4] [.var 1, .op .abs [.var 2]], .whl (.op .gt [.var 4, .con (.int (0))]) [.par [3, 4] [.var 4, .op .md [.op .int [.var 3], .var 4]]], .asg (.nm 1) (.var 3)],
  .ret (.op .tuple [.comp .seq [.var 0] [2] (.con (.bl true)) (.op .fdiv [.var 2, .var 1])])]⟩
def d__law_cut : DI := ⟨("_law_cut" : Str), [("_law_numbers" : Str)], [("_law_numbers" : Str), ("_law_part" : Str), ("_law_number" : Str), ("_law_left" : Str), ("_law_right_here" : Str)], top 47, f__law_cut⟩
/-- _law_row -/
def f__law_row : Fn := ⟨3, 5, [.asg (.nm 3) (.ref (.comp .rng [.var 1] [4] (.con (.bl true)) (.op .sub [.call 29 [.var 0, .op .add [.op .mul [.con (.int (2)), .var 2], .con (.int (1))]] [], .var 2]))),
  .iff (.op .eq [.var 3, .op .mul [.op .lst [.con (.int (0))], .var 1]]) [.asg (.sub (.var 3) (.call 29 [.var 0, .var 1] [])) (.op .sub [.con (.int (1)), .op .mul [.con (.int (2)), .call 29 [.var 0, .con (.int (2))] []]])] [],
  .ret (.call 33 [.var 3] [])]⟩
def d__law_row : DI := ⟨("_law_row" : Str), [("_law_well_here" : Str), ("_law_many" : Str), ("_law_most" : Str)], [("_law_well_here" : Str), ("_law_many" : Str), ("_law_most" : Str), ("_law_row_here" : Str), ("_law_turn" : Str)], top 48, f__law_row⟩
/-- _law_day -/
def f__law_day : Fn := ⟨1, 3, [.asg (.nm 1) (.call 30 [.var 0, .op .tup [.con (.int (1)), .con (.int (2)), .con (.int (4)), .con (.int (9)), .con (.int (25)), .con (.int (99)), .con (.int (9999))]] []),
  .asg (.nm 2) (.op .add [.con (.int (1)), .call 29 [.var 0, .var 1] []]),
  .ret (.call 33 [.op .tup [.op .add [.op .sub [.call 29 [.var 0, .op .sub [.op .mul [.con (.int (2)), .var 2], .con (.int (1))]] [], .var 2], .con (.int (1))], .var 2]] [])]⟩
def d__law_day : DI := ⟨("_law_day" : Str), [("_law_well_here" : Str)], [("_law_well_here" : Str), ("_law_most" : Str), ("_law_down" : Str)], top 49, f__law_day⟩
/-- _law_ray -/
def f__law_ray : Fn := ⟨2, 4, [.asg (.nm 2) (.ref (.comp .rng [.con (.int (3))] [3] (.con (.bl true)) (.op .sub [.call 29 [.var 0, .op .add [.op .mul [.con (.int (2)), .var 1], .con (.int (1))]] [], .var 1]))),
  .iff (.op .eq [.op (.cut false true) [.var 2, .con (.int (2))], .op .lst [.con (.int (0)), .con (.int (0))]]) [.asg (.sub (.var 2) (.call 29 [.var 0, .con (.int (2))] [])) (.op .sub [.con (.int (1)), .op .mul [.con (.int (2)), .call 29 [.var 0, .con (.int (2))] []]])] [],
  .ret (.call 33 [.var 2] [])]⟩
def d__law_ray : DI := ⟨("_law_ray" : Str), [("_law_well_here" : Str), ("_law_most" : Str)], [("_law_well_here" : Str), ("_law_most" : Str), ("_law_row_here" : Str), ("_law_turn" : Str)], top 50, f__law_ray⟩
/-- _law_height -/
def f__law_height : Fn := ⟨1, 4, [.asg (.tp [.nm 1, .nm 2, .nm 3]) (.var 0),
  .ret (.call 33 [.op .tup [.op .mul [.var 3, .op .abs [.var 3]], .op .add [.op .add [.op .mul [.var 1, .var 1], .op .mul [.var 2, .var 2]], .op .mul [.var 3, .var 3]]]] [])]⟩
def d__law_height : DI := ⟨("_law_height" : Str), [("_law_ray_here" : Str)], [("_law_ray_here" : Str), ("_law_x" : Str), ("_law_y" : Str), ("_law_z" : Str)], top 51, f__law_height⟩
/-- _law_cross -/
def f__law_cross : Fn := ⟨2, 8, [.asg (.tp [.nm 2, .nm 3, .nm 4]) (.var 0),
  .asg (.tp [.nm 5, .nm 6, .nm 7]) (.var 1),
  .ret (.op .tup [.op .sub [.op .mul [.var 3, .var 7], .op .mul [.var 4, .var 6]], .op .sub [.op .mul [.var 4, .var 5], .op .mul [.var 2, .var 7]], .op .sub [.op .mul [.var 2, .var 6], .op .mul [.var 3, .var 5]]])]⟩
def d__law_cross : DI := ⟨("_law_cross" : Str), [("_law_one" : Str), ("_law_two_here" : Str)], [("_law_one" : Str), ("_law_two_here" : Str), ("_law_a" : Str), ("_law_b" : Str), ("_law_c" : Str), ("_law_x" : Str), ("_law_y" : Str), ("_law_z" : Str)], top 52, f__law_cross⟩
/-- _law_root -/
def f__law_root : Fn := ⟨3, 3, [.ret (.call 32 [.op .add [.op .mul [.var 0, .op .abs [.var 0]], .op .mul [.op .mul [.var 1, .op .abs [.var 1]], .var 2]]] [])]⟩
def d__law_root : DI := ⟨("_law_root" : Str), [("_law_p" : Str), ("_law_q" : Str), ("_law_d" : Str)], [("_law_p" : Str), ("_law_q" : Str), ("_law_d" : Str)], top 53, f__law_root⟩
/-- _law_two -/
def f__law_two : Fn := ⟨4, 4, [.ret (.call 32 [.op .add [.op .mul [.op .mul [.var 0, .op .abs [.var 0]], .var 1], .op .mul [.op .mul [.var 2, .op .abs [.var 2]], .var 3]]] [])]⟩
def d__law_two : DI := ⟨("_law_two" : Str), [("_law_p" : Str), ("_law_d" : Str), ("_law_q" : Str), ("_law_e" : Str)], [("_law_p" : Str), ("_law_d" : Str), ("_law_q" : Str), ("_law_e" : Str)], top 54, f__law_two⟩
/-- _law_course -/
def f__law_course : Fn := ⟨2, 10, [.asg (.tp [.nm 3, .nm 4]) (.var 0),
  .iff (.nott (.op (.isi 2) [.op .idx [.var 1, .con (.int (0))]])) [.ret (.op .tup [.var 1, .con (.int (1)), .op .tup [.con (.int (0)), .con (.int (0))]])] [],
  .asg (.tp [.nm 5, .nm 6]) (.var 1),
  .asg (.tp [.nm 7, .nm 8, .nm 9]) (.var 5),
  .asg (.nm 2) (.op .mul [.var 9, .call 32 [.var 3] []]),
  .ret (.op .tup [.op .tup [.op .mul [.var 6, .var 8], .op .sub [.con (.int (0)), .op .mul [.var 6, .var 7]]], .op .sub [.op .mul [.op .add [.op .mul [.var 7, .var 7], .op .mul [.var 8, .var 8]], .op .sub [.var 4, .op .abs [.var 3]]], .op .mul [.op .mul [.var 9, .var 9], .op .abs [.var 3]]], .op .tup [.op .sub [.con (.int (0)), .op .mul [.var 7, .var 2]], .op .sub [.con (.int (0)), .op .mul [.var 8, .var 2]]]])]⟩
def d__law_course : DI := ⟨("_law_course" : Str), [("_law_day_here" : Str), ("_law_moment" : Str)], [("_law_day_here" : Str), ("_law_moment" : Str), ("_law_lean" : Str), ("_law_n" : Str), ("_law_m" : Str), ("_law_plane_here" : Str), ("_law_way" : Str), ("_law_a" : Str), ("_law_b" : Str), ("_law_c" : Str)], top 55, f__law_course⟩
/-- _law_bend -/
def f__law_bend : Fn := ⟨3, 16, [.asg (.tp [.nm 4, .nm 5, .nm 6]) (.var 0),
  .asg (.tp [.nm 7, .nm 8, .nm 9]) (.var 1),
  .par [10, 11] [.op .mul [.var 2, .op .sub [.op .mul [.op .idx [.var 6, .con (.int (0))], .op .idx [.var 9, .con (.int (1))]], .op .mul [.op .idx [.var 6, .con (.int (1))], .op .idx [.var 9, .con (.int (0))]]]], .op .sub [.op .mul [.op .idx [.var 4, .con (.int (0))], .op .idx [.var 7, .con (.int (1))]], .op .mul [.op .idx [.var 4, .con (.int (1))], .op .idx [.var 7, .con (.int (0))]]]],
  .par [12, 13] [.op .sub [.op .mul [.op .idx [.var 4, .con (.int (0))], .op .idx [.var 9, .con (.int (1))]], .op .mul [.op .idx [.var 4, .con (.int (1))], .op .idx [.var 9, .con (.int (0))]]], .op .sub [.op .mul [.op .idx [.var 6, .con (.int (0))], .op .idx [.var 7, .con (.int (1))]], .op .mul [.op .idx [.var 6, .con (.int (1))], .op .idx [.var 7, .con (.int (0))]]]],
  .par [14, 15] [.call 39 [.var 10, .var 11, .op .mul [.var 5, .var 8]] [], .call 40 [.var 12, .op .mul [.var 5, .var 2], .var 13, .op .mul [.var 8, .var 2]] []],
  .iff (.op .ge [.op .mul [.var 14, .var 15], .con (.int (0))]) [.ret (.ifx (.op .ne [.var 14, .con (.int (0))]) (.var 14) (.var 15))] [],
  .asg (.nm 3) (.op .sub [.op .add [.op .mul [.var 10, .var 10], .op .mul [.op .mul [.op .mul [.var 11, .var 11], .var 5], .var 8]], .op .mul [.var 2, .op .add [.op .mul [.op .mul [.var 12, .var 12], .var 5], .op .mul [.op .mul [.var 13, .var 13], .var 8]]]]),
  .ret (.op .mul [.var 14, .call 39 [.var 3, .op .sub [.op .mul [.op .mul [.con (.int (2)), .var 10], .var 11], .op .mul [.op .mul [.op .mul [.con (.int (2)), .var 2], .var 12], .var 13]], .op .mul [.var 5, .var 8]] []])]⟩
def d__law_bend : DI := ⟨("_law_bend" : Str), [("_law_one" : Str), ("_law_two_here" : Str), ("_law_far" : Str)], [("_law_one" : Str), ("_law_two_here" : Str), ("_law_far" : Str), ("_law_whole" : Str), ("_law_u" : Str), ("_law_d" : Str), ("_law_v" : Str), ("_law_w" : Str), ("_law_e" : Str), ("_law_t" : Str), ("_law_p" : Str), ("_law_q" : Str), ("_law_r" : Str), ("_law_s" : Str), ("_law_first" : Str), ("_law_second" : Str)], top 56, f__law_bend⟩
/-- _law_first_half -/
def f__law_first_half : Fn := ⟨2, 6, [.asg (.tp [.nm 3, .nm 4, .nm 5]) (.var 0),
  .asg (.nm 2) (.call 40 [.op .idx [.var 3, .con (.int (1))], .var 4, .op .idx [.var 5, .con (.int (1))], .var 1] []),
  .ret (.or2 (.op .lt [.var 2, .con (.int (0))]) (.and2 (.op .eq [.var 2, .con (.int (0))]) (.op .lt [.call 40 [.op .idx [.var 3, .con (.int (0))], .var 4, .op .idx [.var 5, .con (.int (0))], .var 1] [], .con (.int (0))])))]⟩
def d__law_first_half : DI := ⟨("_law_first_half" : Str), [("_law_one" : Str), ("_law_far" : Str)], [("_law_one" : Str), ("_law_far" : Str), ("_law_down" : Str), ("_law_u" : Str), ("_law_d" : Str), ("_law_v" : Str)], top 57, f__law_first_half⟩
/-- _law_order -/
def f__law_order : Fn := ⟨3, 6, [.par [3, 4, 5] [.op .abs [.op .idx [.var 0, .con (.int (0))]], .call 41 [.var 0, .var 1] [], .call 41 [.var 0, .var 2] []],
  .iff (.op .ne [.call 43 [.var 4, .var 3] [], .call 43 [.var 5, .var 3] []]) [.ret (.ifx (.call 43 [.var 4, .var 3] []) (.op .neg [.con (.int (1))]) (.con (.int (1))))] [],
  .ret (.op .sub [.con (.int (0)), .call 42 [.var 4, .var 5, .var 3] []])]⟩
def d__law_order : DI := ⟨("_law_order" : Str), [("_law_day_here" : Str), ("_law_one" : Str), ("_law_two_here" : Str)], [("_law_day_here" : Str), ("_law_one" : Str), ("_law_two_here" : Str), ("_law_far" : Str), ("_law_first" : Str), ("_law_second" : Str)], top 58, f__law_order⟩
/-- _law_has_edges -/
def f__law_has_edges : Fn := ⟨2, 5, [.asg (.tp [.nm 2, .nm 3, .nm 4]) (.var 0),
  .ret (.op .gt [.op .sub [.op .mul [.op .add [.op .mul [.var 2, .var 2], .op .mul [.var 3, .var 3]], .op .sub [.op .idx [.var 1, .con (.int (1))], .op .abs [.op .idx [.var 1, .con (.int (0))]]]], .op .mul [.op .mul [.var 4, .var 4], .op .abs [.op .idx [.var 1, .con (.int (0))]]]], .con (.int (0))])]⟩
def d__law_has_edges : DI := ⟨("_law_has_edges" : Str), [("_law_plane_here" : Str), ("_law_day_here" : Str)], [("_law_plane_here" : Str), ("_law_day_here" : Str), ("_law_a" : Str), ("_law_b" : Str), ("_law_c" : Str)], top 59, f__law_has_edges⟩
/-- _law_plane -/
def f__law_plane : Fn := ⟨3, 9, [.asg (.nm 3) (.call 34 [.var 0, .con (.int (3)), .call 30 [.var 0, .op .tup [.con (.int (1)), .con (.int (3)), .con (.int (9)), .con (.int (99))]] []] []),
  .par [5, 6] [.call 38 [.var 1, .var 3] [], .call 29 [.var 0, .con (.int (3))] []],
  .asg (.nm 4) (.ifx (.or2 (.op .eq [.var 6, .con (.int (0))]) (.op .eq [.var 5, .op .tup [.con (.int (0)), .con (.int (0)), .con (.int (0))]])) (.var 3) (.call 33 [.var 5] [])),
  .iff (.and2 (.op .eq [.var 6, .con (.int (2))]) (.op .ne [.op (.cut false true) [.var 4, .con (.int (2))], .op .tup [.con (.int (0)), .con (.int (0))]])) [.asg (.nm 7) (.comp .rng [.con (.int (1)), .con (.int (12))] [8] (.call 45 [.op .tup [.op .idx [.var 4, .con (.int (0))], .op .idx [.var 4, .con (.int (1))], .var 8], .var 2] []) (.op .tup [.op .idx [.var 4, .con (.int (0))], .op .idx [.var 4, .con (.int (1))], .var 8])), .asg (.nm 4) (.ifx (.op .ne [.var 7, .op .lst []]) (.call 33 [.op .idx [.var 7, .op .neg [.con (.int (1))]]] []) (.var 4))] [],
  .iff (.call 45 [.var 4, .var 2] []) [.ret (.var 4)] [],
  .ret (.ifx (.op .ne [.op (.cut false true) [.var 4, .con (.int (2))], .op .tup [.con (.int (0)), .con (.int (0))]]) (.call 33 [.op .tup [.op .idx [.var 4, .con (.int (0))], .op .idx [.var 4, .con (.int (1))], .con (.int (0))]] []) (.op .tup [.con (.int (1)), .con (.int (0)), .con (.int (0))]))]⟩
def d__law_plane : DI := ⟨("_law_plane" : Str), [("_law_well_here" : Str), ("_law_ray_here" : Str), ("_law_day_here" : Str)], [("_law_well_here" : Str), ("_law_ray_here" : Str), ("_law_day_here" : Str), ("_law_any_one" : Str), ("_law_plane_here" : Str), ("_law_through" : Str), ("_law_way" : Str), ("_law_steep" : Str), ("_law_each" : Str)], top 60, f__law_plane⟩
/-- _law_sign -/
def f__law_sign : Fn := ⟨3, 10, [.asg (.tp [.nm 4, .nm 5, .nm 6]) (.call 41 [.var 1, .var 2] []),
  .asg (.tp [.nm 7, .nm 8, .nm 9]) (.op .idx [.var 2, .con (.int (0))]),
  .asg (.nm 3) (.op .add [.op .add [.op .mul [.op .idx [.var 0, .con (.int (0))], .op .idx [.var 6, .con (.int (0))]], .op .mul [.op .idx [.var 0, .con (.int (1))], .op .idx [.var 6, .con (.int (1))]]], .op .mul [.op .mul [.op .idx [.var 0, .con (.int (2))], .op .add [.op .mul [.var 7, .var 7], .op .mul [.var 8, .var 8]]], .call 32 [.op .idx [.var 1, .con (.int (0))]] []]]),
  .ret (.call 40 [.op .add [.op .mul [.op .idx [.var 0, .con (.int (0))], .op .idx [.var 4, .con (.int (0))]], .op .mul [.op .idx [.var 0, .con (.int (1))], .op .idx [.var 4, .con (.int (1))]]], .var 5, .var 3, .op .abs [.op .idx [.var 1, .con (.int (0))]]] [])]⟩
def d__law_sign : DI := ⟨("_law_sign" : Str), [("_law_plane_here" : Str), ("_law_day_here" : Str), ("_law_edge" : Str)], [("_law_plane_here" : Str), ("_law_day_here" : Str), ("_law_edge" : Str), ("_law_level" : Str), ("_law_u" : Str), ("_law_d" : Str), ("_law_v" : Str), ("_law_a" : Str), ("_law_b" : Str), ("_law_c" : Str)], top 61, f__law_sign⟩
/-- _law_orders_right -/
def f__law_orders_right : Fn := ⟨2, 4, [.loop .seq [.var 1] (.nm 2) [.loop .seq [.var 1] (.nm 3) [.iff (.op .ne [.op .repr [.call 27 [.var 0, .var 2, .var 3] []], .op .repr [.call 44 [.var 0, .var 2, .var 3] []]]) [.ret (.con (.bl false))] []]],
  .ret (.con (.bl true))]⟩
def d__law_orders_right : DI := ⟨("_law_orders_right" : Str), [("_law_day_here" : Str), ("_law_names" : Str)], [("_law_day_here" : Str), ("_law_names" : Str), ("_law_one" : Str), ("_law_two_here" : Str)], top 62, f__law_orders_right⟩
/-- _law_right -/
def f__law_right : Fn := ⟨1, 11, [.asg (.nm 1) (.call 36 [.var 0, .call 30 [.var 0, .op .tup [.con (.int (1)), .con (.int (3)), .con (.int (9))]] []] []),
  .asg (.nm 2) (.ifx (.op .eq [.call 29 [.var 0, .con (.int (2))] [], .con (.int (0))]) (.call 37 [.var 1] []) (.call 35 [.var 0] [])),
  .asg (.nm 3) (.comp .rng [.op .add [.con (.int (2)), .call 29 [.var 0, .con (.int (2))] []]] [9] (.con (.bl true)) (.call 46 [.var 0, .var 1, .var 2] [])),
  .asg (.nm 4) (.op .add [.comp .seq [.var 3] [5] (.con (.bl true)) (.op .tup [.var 5, .con (.int (1))]), .comp .seq [.var 3] [5] (.con (.bl true)) (.op .tup [.var 5, .op .neg [.con (.int (1))]])]),
  .iff (.nott (.call 48 [.var 2, .op .add [.var 4, .op .lst [.call 33 [.op (.cut false true) [.var 1, .con (.int (2))]] []]]] [])) [.ret (.con (.bl false))] [],
  .loop .seq [.op .add [.var 3, .op .lst [.call 34 [.var 0, .con (.int (3)), .call 30 [.var 0, .op .tup [.con (.int (2)), .con (.int (9)), .con (.int (99))]] []] [], .op .tup [.con (.int (0)), .con (.int (0)), .con (.int (1))]]]] (.nm 5) [.loop .seq [.var 4] (.nm 6) [.asg (.nm 10) (.call 47 [.var 5, .var 2, .var 6] []), .iff (.op .ne [.op .repr [.op .lst [.call 21 [.var 5, .var 2, .var 6] [], .call 21 [] [.var 5, .var 2, .var 6]]], .op .repr [.op .lst [.var 10, .var 10]]]) [.ret (.con (.bl false))] []]],
  .par [7, 8] [.op .idx [.var 4, .con (.int (0))], .op .idx [.var 4, .op .neg [.con (.int (1))]]],
  .ret (.op .eq [.op .repr [.call 27 [] [.var 2, .var 7, .var 8]], .op .repr [.call 44 [.var 2, .var 7, .var 8] []]])]⟩
def d__law_right : DI := ⟨("_law_right" : Str), [("_law_well_here" : Str)], [("_law_well_here" : Str), ("_law_ray_here" : Str), ("_law_day_here" : Str), ("_law_planes" : Str), ("_law_edges" : Str), ("_law_plane_here" : Str), ("_law_edge" : Str), ("_law_first" : Str), ("_law_last" : Str), ("_law_turn" : Str), ("_law_due" : Str)], top 63, f__law_right⟩
/-- law -/
def f_law : Fn := ⟨1, 2, [.loop .rng [.call 31 [.var 0] []] (.nm 1) [.iff (.nott (.call 49 [.callr 28 [.var 0, .var 1] []] [])) [.ret (.con (.bl false))] []],
  .ret (.con (.bl true))]⟩
def d_law : DI := ⟨("law" : Str), [("_law_script" : Str)], [("_law_script" : Str), ("_law_spot" : Str)], top 64, f_law⟩
def defs0 : List DI := [d_is_whole, d_are_wholes, d_is_some_triple, d_common_divisor, d_lowest, d_is_lowest, d_sign, d_plane_in, d_is_hour, d_is_height, d_is_day, d_check_day, d_sign_of_sum, d_sign_of_roots, d_sign_of_four, d_is_edge, d_is_edge_value, d_checked_moment, d_check_edge, d_edge_number, d_sign_of_plane, d_sign_at, d_parts_of, d_sign_of_part, d_half_of, d_turn_sign, d_order_of, d_compare_moments, d__law_well, d__law_dip, d__law_of, d__law_rounds, d__law_sgn, d__law_cut, d__law_row, d__law_day, d__law_ray, d__law_height, d__law_cross, d__law_root]
def defs1 : List DI := [d__law_two, d__law_course, d__law_bend, d__law_first_half, d__law_order, d__law_has_edges, d__law_plane, d__law_sign, d__law_orders_right, d__law_right, d_law]
def defs : List DI := defs0 ++ defs1
def fs : List Fn := defs.map (·.fn)
def G : Glob where
  fn := defs.map (·.x)
  ps := defs.map (·.ps)
  con := []
  exn := []
  free := [("abs" : Str), ("all" : Str), ("bool" : Str), ("divmod" : Str), ("int" : Str), ("isinstance" : Str), ("len" : Str), ("max" : Str), ("min" : Str), ("range" : Str), ("repr" : Str), ("tuple" : Str)]
  gcd := true
  isq := false
  kws := [(21, 0), (27, 0)]
/-! ### the head -/
abbrev R : PySem.W.OpenRow := PySem.W.OpenLaw.row PySem.Challenge.rw_skyplates_k54_whole_edges_of_two_planes
abbrev hk : PySem.W.Hook := He.hookX 2 (faOf G defs) (defs.map dDef) [] [] (exB G)
def loose0 : List Str := [("SkyError" : Str), ("InvalidPlane" : Str), ("InvalidDay" : Str), ("InvalidMoment" : Str), ("NoEdge" : Str), ("is_whole" : Str), ("are_wholes" : Str), ("is_some_triple" : Str), ("common_divisor" : Str), ("lowest" : Str), ("is_lowest" : Str), ("sign" : Str), ("plane_in" : Str), ("is_hour" : Str), ("is_height" : Str), ("is_day" : Str), ("check_day" : Str), ("sign_of_sum" : Str), ("sign_of_roots" : Str), ("sign_of_four" : Str), ("is_edge" : Str), ("is_edge_value" : Str), ("checked_moment" : Str), ("check_edge" : Str), ("edge_number" : Str), ("sign_of_plane" : Str), ("sign_at" : Str), ("parts_of" : Str), ("sign_of_part" : Str), ("half_of" : Str), ("turn_sign" : Str), ("order_of" : Str), ("compare_moments" : Str), ("_law_well" : Str), ("_law_dip" : Str), ("_law_of" : Str), ("_law_rounds" : Str), ("_law_sgn" : Str), ("_law_cut" : Str), ("_law_row" : Str)]
def loose1 : List Str := [("_law_day" : Str), ("_law_ray" : Str), ("_law_height" : Str), ("_law_cross" : Str), ("_law_root" : Str), ("_law_two" : Str), ("_law_course" : Str), ("_law_bend" : Str), ("_law_first_half" : Str), ("_law_order" : Str), ("_law_has_edges" : Str), ("_law_plane" : Str), ("_law_sign" : Str), ("_law_orders_right" : Str), ("_law_right" : Str)]
def loose : List Str := loose0 ++ loose1
def ob (s : PySem.W.SharedT) : He.AlX := He.obsX 2 (faOf G defs) (defs.map dDef) [] [] (exB G) (HandSHeadRun.getT s)
theorem ob_eq (s : PySem.W.SharedT) : ob s = hk.obs s.abs := He.obsX_eq (HandSHeadRun.getT_eq s)
theorem runs (w : World) : HandSHeadRun.RunEqI R (PySem.W.view R.prog [0, 64]) hk ob 6000 loose w := by
  unfold HandSHeadRun.RunEqI
  kernel_rfl
theorem ok_is_whole : d_is_whole.ok G = true := by decide +kernel
theorem b_is_whole : BindE d_is_whole := fun _ _ _ _ _ _ us hl => match us, hl with | [_], _ => rfl
theorem ok_are_wholes : d_are_wholes.ok G = true := by decide +kernel
theorem b_are_wholes : BindE d_are_wholes := fun _ _ _ _ _ _ us hl => match us, hl with | [_, _], _ => rfl
theorem ok_is_some_triple : d_is_some_triple.ok G = true := by decide +kernel
theorem b_is_some_triple : BindE d_is_some_triple := fun _ _ _ _ _ _ us hl => match us, hl with | [_], _ => rfl
theorem ok_common_divisor : d_common_divisor.ok G = true := by decide +kernel
theorem b_common_divisor : BindE d_common_divisor := fun _ _ _ _ _ _ us hl => match us, hl with | [_], _ => rfl
theorem ok_lowest : d_lowest.ok G = true := by decide +kernel
theorem b_lowest : BindE d_lowest := fun _ _ _ _ _ _ us hl => match us, hl with | [_], _ => rfl
theorem ok_is_lowest : d_is_lowest.ok G = true := by decide +kernel
theorem b_is_lowest : BindE d_is_lowest := fun _ _ _ _ _ _ us hl => match us, hl with | [_], _ => rfl
theorem ok_sign : d_sign.ok G = true := by decide +kernel
theorem b_sign : BindE d_sign := fun _ _ _ _ _ _ us hl => match us, hl with | [_], _ => rfl
theorem ok_plane_in : d_plane_in.ok G = true := by decide +kernel
theorem b_plane_in : BindE d_plane_in := fun _ _ _ _ _ _ us hl => match us, hl with | [_], _ => rfl
theorem ok_is_hour : d_is_hour.ok G = true := by decide +kernel
theorem b_is_hour : BindE d_is_hour := fun _ _ _ _ _ _ us hl => match us, hl with | [_], _ => rfl
theorem ok_is_height : d_is_height.ok G = true := by decide +kernel
theorem b_is_height : BindE d_is_height := fun _ _ _ _ _ _ us hl => match us, hl with | [_], _ => rfl
theorem ok_is_day : d_is_day.ok G = true := by decide +kernel
theorem b_is_day : BindE d_is_day := fun _ _ _ _ _ _ us hl => match us, hl with | [_], _ => rfl
theorem ok_check_day : d_check_day.ok G = true := by decide +kernel
theorem b_check_day : BindE d_check_day := fun _ _ _ _ _ _ us hl => match us, hl with | [_], _ => rfl
theorem ok_sign_of_sum : d_sign_of_sum.ok G = true := by decide +kernel
theorem b_sign_of_sum : BindE d_sign_of_sum := fun _ _ _ _ _ _ us hl => match us, hl with | [_, _, _], _ => rfl
theorem ok_sign_of_roots : d_sign_of_roots.ok G = true := by decide +kernel
theorem b_sign_of_roots : BindE d_sign_of_roots := fun _ _ _ _ _ _ us hl => match us, hl with | [_, _, _, _], _ => rfl
theorem ok_sign_of_four : d_sign_of_four.ok G = true := by decide +kernel
theorem b_sign_of_four : BindE d_sign_of_four := fun _ _ _ _ _ _ us hl => match us, hl with | [_, _, _, _], _ => rfl
theorem ok_is_edge : d_is_edge.ok G = true := by decide +kernel
theorem b_is_edge : BindE d_is_edge := fun _ _ _ _ _ _ us hl => match us, hl with | [_], _ => rfl
theorem ok_is_edge_value : d_is_edge_value.ok G = true := by decide +kernel
theorem b_is_edge_value : BindE d_is_edge_value := fun _ _ _ _ _ _ us hl => match us, hl with | [_], _ => rfl
theorem ok_checked_moment : d_checked_moment.ok G = true := by decide +kernel
theorem b_checked_moment : BindE d_checked_moment := fun _ _ _ _ _ _ us hl => match us, hl with | [_], _ => rfl
theorem ok_check_edge : d_check_edge.ok G = true := by decide +kernel
theorem b_check_edge : BindE d_check_edge := fun _ _ _ _ _ _ us hl => match us, hl with | [_, _], _ => rfl
theorem ok_edge_number : d_edge_number.ok G = true := by decide +kernel
theorem b_edge_number : BindE d_edge_number := fun _ _ _ _ _ _ us hl => match us, hl with | [_, _], _ => rfl
theorem ok_sign_of_plane : d_sign_of_plane.ok G = true := by decide +kernel
theorem b_sign_of_plane : BindE d_sign_of_plane := fun _ _ _ _ _ _ us hl => match us, hl with | [_, _, _], _ => rfl
theorem ok_sign_at : d_sign_at.ok G = true := by decide +kernel
theorem b_sign_at : BindE d_sign_at := fun _ _ _ _ _ _ us hl => match us, hl with | [_, _, _], _ => rfl
theorem ok_parts_of : d_parts_of.ok G = true := by decide +kernel
theorem b_parts_of : BindE d_parts_of := fun _ _ _ _ _ _ us hl => match us, hl with | [_, _], _ => rfl
theorem ok_sign_of_part : d_sign_of_part.ok G = true := by decide +kernel
theorem b_sign_of_part : BindE d_sign_of_part := fun _ _ _ _ _ _ us hl => match us, hl with | [_, _, _], _ => rfl
theorem ok_half_of : d_half_of.ok G = true := by decide +kernel
theorem b_half_of : BindE d_half_of := fun _ _ _ _ _ _ us hl => match us, hl with | [_, _], _ => rfl
theorem ok_turn_sign : d_turn_sign.ok G = true := by decide +kernel
theorem b_turn_sign : BindE d_turn_sign := fun _ _ _ _ _ _ us hl => match us, hl with | [_, _, _], _ => rfl
theorem ok_order_of : d_order_of.ok G = true := by decide +kernel
theorem b_order_of : BindE d_order_of := fun _ _ _ _ _ _ us hl => match us, hl with | [_, _, _], _ => rfl
theorem ok_compare_moments : d_compare_moments.ok G = true := by decide +kernel
theorem b_compare_moments : BindE d_compare_moments := fun _ _ _ _ _ _ us hl => match us, hl with | [_, _, _], _ => rfl
theorem ok__law_well : d__law_well.ok G = true := by decide +kernel
theorem b__law_well : BindE d__law_well := fun _ _ _ _ _ _ us hl => match us, hl with | [_, _], _ => rfl
theorem ok__law_dip : d__law_dip.ok G = true := by decide +kernel
theorem b__law_dip : BindE d__law_dip := fun _ _ _ _ _ _ us hl => match us, hl with | [_, _], _ => rfl
theorem ok__law_of : d__law_of.ok G = true := by decide +kernel
theorem b__law_of : BindE d__law_of := fun _ _ _ _ _ _ us hl => match us, hl with | [_, _], _ => rfl
theorem ok__law_rounds : d__law_rounds.ok G = true := by decide +kernel
theorem b__law_rounds : BindE d__law_rounds := fun _ _ _ _ _ _ us hl => match us, hl with | [_], _ => rfl
theorem ok__law_sgn : d__law_sgn.ok G = true := by decide +kernel
theorem b__law_sgn : BindE d__law_sgn := fun _ _ _ _ _ _ us hl => match us, hl with | [_], _ => rfl
theorem ok__law_cut : d__law_cut.ok G = true := by decide +kernel
theorem b__law_cut : BindE d__law_cut := fun _ _ _ _ _ _ us hl => match us, hl with | [_], _ => rfl
theorem ok__law_row : d__law_row.ok G = true := by decide +kernel
theorem b__law_row : BindE d__law_row := fun _ _ _ _ _ _ us hl => match us, hl with | [_, _, _], _ => rfl
theorem ok__law_day : d__law_day.ok G = true := by decide +kernel
theorem b__law_day : BindE d__law_day := fun _ _ _ _ _ _ us hl => match us, hl with | [_], _ => rfl
theorem ok__law_ray : d__law_ray.ok G = true := by decide +kernel
theorem b__law_ray : BindE d__law_ray := fun _ _ _ _ _ _ us hl => match us, hl with | [_, _], _ => rfl
theorem ok__law_height : d__law_height.ok G = true := by decide +kernel
theorem b__law_height : BindE d__law_height := fun _ _ _ _ _ _ us hl => match us, hl with | [_], _ => rfl
theorem ok__law_cross : d__law_cross.ok G = true := by decide +kernel
theorem b__law_cross : BindE d__law_cross := fun _ _ _ _ _ _ us hl => match us, hl with | [_, _], _ => rfl
theorem ok__law_root : d__law_root.ok G = true := by decide +kernel
theorem b__law_root : BindE d__law_root := fun _ _ _ _ _ _ us hl => match us, hl with | [_, _, _], _ => rfl
theorem ok__law_two : d__law_two.ok G = true := by decide +kernel
theorem b__law_two : BindE d__law_two := fun _ _ _ _ _ _ us hl => match us, hl with | [_, _, _, _], _ => rfl
theorem ok__law_course : d__law_course.ok G = true := by decide +kernel
theorem b__law_course : BindE d__law_course := fun _ _ _ _ _ _ us hl => match us, hl with | [_, _], _ => rfl
theorem ok__law_bend : d__law_bend.ok G = true := by decide +kernel
theorem b__law_bend : BindE d__law_bend := fun _ _ _ _ _ _ us hl => match us, hl with | [_, _, _], _ => rfl
theorem ok__law_first_half : d__law_first_half.ok G = true := by decide +kernel
theorem b__law_first_half : BindE d__law_first_half := fun _ _ _ _ _ _ us hl => match us, hl with | [_, _], _ => rfl
theorem ok__law_order : d__law_order.ok G = true := by decide +kernel
theorem b__law_order : BindE d__law_order := fun _ _ _ _ _ _ us hl => match us, hl with | [_, _, _], _ => rfl
theorem ok__law_has_edges : d__law_has_edges.ok G = true := by decide +kernel
theorem b__law_has_edges : BindE d__law_has_edges := fun _ _ _ _ _ _ us hl => match us, hl with | [_, _], _ => rfl
theorem ok__law_plane : d__law_plane.ok G = true := by decide +kernel
theorem b__law_plane : BindE d__law_plane := fun _ _ _ _ _ _ us hl => match us, hl with | [_, _, _], _ => rfl
theorem ok__law_sign : d__law_sign.ok G = true := by decide +kernel
theorem b__law_sign : BindE d__law_sign := fun _ _ _ _ _ _ us hl => match us, hl with | [_, _, _], _ => rfl
theorem ok__law_orders_right : d__law_orders_right.ok G = true := by decide +kernel
theorem b__law_orders_right : BindE d__law_orders_right := fun _ _ _ _ _ _ us hl => match us, hl with | [_, _], _ => rfl
theorem ok__law_right : d__law_right.ok G = true := by decide +kernel
theorem b__law_right : BindE d__law_right := fun _ _ _ _ _ _ us hl => match us, hl with | [_], _ => rfl
theorem ok_law : d_law.ok G = true := by decide +kernel
theorem b_law : BindE d_law := fun _ _ _ _ _ _ us hl => match us, hl with | [_], _ => rfl
theorem oks : AllL (fun d => d.ok G = true) defs := ⟨ok_is_whole, ok_are_wholes, ok_is_some_triple, ok_common_divisor, ok_lowest, ok_is_lowest, ok_sign, ok_plane_in, ok_is_hour, ok_is_height, ok_is_day, ok_check_day, ok_sign_of_sum, ok_sign_of_roots, ok_sign_of_four, ok_is_edge, ok_is_edge_value, ok_checked_moment, ok_check_edge, ok_edge_number, ok_sign_of_plane, ok_sign_at, ok_parts_of, ok_sign_of_part, ok_half_of, ok_turn_sign, ok_order_of, ok_compare_moments, ok__law_well, ok__law_dip, ok__law_of, ok__law_rounds, ok__law_sgn, ok__law_cut, ok__law_row, ok__law_day, ok__law_ray, ok__law_height, ok__law_cross, ok__law_root, ok__law_two, ok__law_course, ok__law_bend, ok__law_first_half, ok__law_order, ok__law_has_edges, ok__law_plane, ok__law_sign, ok__law_orders_right, ok__law_right, ok_law, trivial⟩
theorem bs : AllL BindE defs := ⟨b_is_whole, b_are_wholes, b_is_some_triple, b_common_divisor, b_lowest, b_is_lowest, b_sign, b_plane_in, b_is_hour, b_is_height, b_is_day, b_check_day, b_sign_of_sum, b_sign_of_roots, b_sign_of_four, b_is_edge, b_is_edge_value, b_checked_moment, b_check_edge, b_edge_number, b_sign_of_plane, b_sign_at, b_parts_of, b_sign_of_part, b_half_of, b_turn_sign, b_order_of, b_compare_moments, b__law_well, b__law_dip, b__law_of, b__law_rounds, b__law_sgn, b__law_cut, b__law_row, b__law_day, b__law_ray, b__law_height, b__law_cross, b__law_root, b__law_two, b__law_course, b__law_bend, b__law_first_half, b__law_order, b__law_has_edges, b__law_plane, b__law_sign, b__law_orders_right, b__law_right, b_law, trivial⟩
theorem k_21_0 : KwE defs (21, 0) := fun d e => by
  have e' : d = d_sign_at := (Option.some.inj (show some d_sign_at = some d from e)).symm
  subst e'
  exact fun _ _ _ _ _ _ us ws hu hw => match us, ws, hu, hw with | [], [_, _, _], _, _ => rfl
theorem k_27_0 : KwE defs (27, 0) := fun d e => by
  have e' : d = d_compare_moments := (Option.some.inj (show some d_compare_moments = some d from e)).symm
  subst e'
  exact fun _ _ _ _ _ _ us ws hu hw => match us, ws, hu, hw with | [], [_, _, _], _, _ => rfl
theorem ks : ∀ p ∈ G.kws, KwE defs p := by
  intro p hp
  have hp : p ∈ [((21 : Nat), (0 : Nat)), ((27 : Nat), (0 : Nat))] := hp
  simp only [List.mem_cons, List.not_mem_nil, or_false] at hp
  rcases hp with rfl | rfl
  · exact k_21_0
  · exact k_27_0
def lawI : Nat := 50
noncomputable abbrev gl : Nat → Option D := glOf G
noncomputable abbrev run (k : Nat) : Nat → List D → Store → Res D := runN fs gl k
abbrev i_is_whole : Nat := 0
theorem u_is_whole (n : Nat) (a0 : D) (st : Store) : run (n + 1) 0 [a0] st = outR (denB (run n) gl f_is_whole.body [some a0] st) := rfl
abbrev i_are_wholes : Nat := 1
theorem u_are_wholes (n : Nat) (a0 a1 : D) (st : Store) : run (n + 1) 1 [a0, a1] st = outR (denB (run n) gl f_are_wholes.body [some a0, some a1, none] st) := rfl
abbrev i_is_some_triple : Nat := 2
theorem u_is_some_triple (n : Nat) (a0 : D) (st : Store) : run (n + 1) 2 [a0] st = outR (denB (run n) gl f_is_some_triple.body [some a0] st) := rfl
abbrev i_common_divisor : Nat := 3
theorem u_common_divisor (n : Nat) (a0 : D) (st : Store) : run (n + 1) 3 [a0] st = outR (denB (run n) gl f_common_divisor.body [some a0, none, none] st) := rfl
abbrev i_lowest : Nat := 4
theorem u_lowest (n : Nat) (a0 : D) (st : Store) : run (n + 1) 4 [a0] st = outR (denB (run n) gl f_lowest.body [some a0, none, none] st) := rfl
abbrev i_is_lowest : Nat := 5
theorem u_is_lowest (n : Nat) (a0 : D) (st : Store) : run (n + 1) 5 [a0] st = outR (denB (run n) gl f_is_lowest.body [some a0] st) := rfl
abbrev i_sign : Nat := 6
theorem u_sign (n : Nat) (a0 : D) (st : Store) : run (n + 1) 6 [a0] st = outR (denB (run n) gl f_sign.body [some a0] st) := rfl
abbrev i_plane_in : Nat := 7
theorem u_plane_in (n : Nat) (a0 : D) (st : Store) : run (n + 1) 7 [a0] st = outR (denB (run n) gl f_plane_in.body [some a0] st) := rfl
abbrev i_is_hour : Nat := 8
theorem u_is_hour (n : Nat) (a0 : D) (st : Store) : run (n + 1) 8 [a0] st = outR (denB (run n) gl f_is_hour.body [some a0] st) := rfl
abbrev i_is_height : Nat := 9
theorem u_is_height (n : Nat) (a0 : D) (st : Store) : run (n + 1) 9 [a0] st = outR (denB (run n) gl f_is_height.body [some a0] st) := rfl
abbrev i_is_day : Nat := 10
theorem u_is_day (n : Nat) (a0 : D) (st : Store) : run (n + 1) 10 [a0] st = outR (denB (run n) gl f_is_day.body [some a0] st) := rfl
abbrev i_check_day : Nat := 11
theorem u_check_day (n : Nat) (a0 : D) (st : Store) : run (n + 1) 11 [a0] st = outR (denB (run n) gl f_check_day.body [some a0] st) := rfl
abbrev i_sign_of_sum : Nat := 12
theorem u_sign_of_sum (n : Nat) (a0 a1 a2 : D) (st : Store) : run (n + 1) 12 [a0, a1, a2] st = outR (denB (run n) gl f_sign_of_sum.body [some a0, some a1, some a2] st) := rfl
abbrev i_sign_of_roots : Nat := 13
theorem u_sign_of_roots (n : Nat) (a0 a1 a2 a3 : D) (st : Store) : run (n + 1) 13 [a0, a1, a2, a3] st = outR (denB (run n) gl f_sign_of_roots.body [some a0, some a1, some a2, some a3, none, none] st) := rfl
abbrev i_sign_of_four : Nat := 14
theorem u_sign_of_four (n : Nat) (a0 a1 a2 a3 : D) (st : Store) : run (n + 1) 14 [a0, a1, a2, a3] st = outR (denB (run n) gl f_sign_of_four.body [some a0, some a1, some a2, some a3, none, none, none, none, none, none, none, none] st) := rfl
abbrev i_is_edge : Nat := 15
theorem u_is_edge (n : Nat) (a0 : D) (st : Store) : run (n + 1) 15 [a0] st = outR (denB (run n) gl f_is_edge.body [some a0] st) := rfl
abbrev i_is_edge_value : Nat := 16
theorem u_is_edge_value (n : Nat) (a0 : D) (st : Store) : run (n + 1) 16 [a0] st = outR (denB (run n) gl f_is_edge_value.body [some a0] st) := rfl
abbrev i_checked_moment : Nat := 17
theorem u_checked_moment (n : Nat) (a0 : D) (st : Store) : run (n + 1) 17 [a0] st = outR (denB (run n) gl f_checked_moment.body [some a0] st) := rfl
abbrev i_check_edge : Nat := 18
theorem u_check_edge (n : Nat) (a0 a1 : D) (st : Store) : run (n + 1) 18 [a0, a1] st = outR (denB (run n) gl f_check_edge.body [some a0, some a1] st) := rfl
abbrev i_edge_number : Nat := 19
theorem u_edge_number (n : Nat) (a0 a1 : D) (st : Store) : run (n + 1) 19 [a0, a1] st = outR (denB (run n) gl f_edge_number.body [some a0, some a1, none, none, none] st) := rfl
abbrev i_sign_of_plane : Nat := 20
theorem u_sign_of_plane (n : Nat) (a0 a1 a2 : D) (st : Store) : run (n + 1) 20 [a0, a1, a2] st = outR (denB (run n) gl f_sign_of_plane.body [some a0, some a1, some a2, none, none, none, none, none, none, none, none, none, none, none, none, none] st) := rfl
abbrev i_sign_at : Nat := 21
theorem u_sign_at (n : Nat) (a0 a1 a2 : D) (st : Store) : run (n + 1) 21 [a0, a1, a2] st = outR (denB (run n) gl f_sign_at.body [some a0, some a1, some a2, none, none] st) := rfl
abbrev i_parts_of : Nat := 22
theorem u_parts_of (n : Nat) (a0 a1 : D) (st : Store) : run (n + 1) 22 [a0, a1] st = outR (denB (run n) gl f_parts_of.body [some a0, some a1, none, none, none, none] st) := rfl
abbrev i_sign_of_part : Nat := 23
theorem u_sign_of_part (n : Nat) (a0 a1 a2 : D) (st : Store) : run (n + 1) 23 [a0, a1, a2] st = outR (denB (run n) gl f_sign_of_part.body [some a0, some a1, some a2] st) := rfl
abbrev i_half_of : Nat := 24
theorem u_half_of (n : Nat) (a0 a1 : D) (st : Store) : run (n + 1) 24 [a0, a1] st = outR (denB (run n) gl f_half_of.body [some a0, some a1, none, none, none, none] st) := rfl
abbrev i_turn_sign : Nat := 25
theorem u_turn_sign (n : Nat) (a0 a1 a2 : D) (st : Store) : run (n + 1) 25 [a0, a1, a2] st = outR (denB (run n) gl f_turn_sign.body [some a0, some a1, some a2, none, none, none, none, none, none, none, none, none, none, none, none, none] st) := rfl
abbrev i_order_of : Nat := 26
theorem u_order_of (n : Nat) (a0 a1 a2 : D) (st : Store) : run (n + 1) 26 [a0, a1, a2] st = outR (denB (run n) gl f_order_of.body [some a0, some a1, some a2, none, none] st) := rfl
abbrev i_compare_moments : Nat := 27
theorem u_compare_moments (n : Nat) (a0 a1 a2 : D) (st : Store) : run (n + 1) 27 [a0, a1, a2] st = outR (denB (run n) gl f_compare_moments.body [some a0, some a1, some a2, none, none] st) := rfl
abbrev i__law_well : Nat := 28
theorem u__law_well (n : Nat) (a0 a1 : D) (st : Store) : run (n + 1) 28 [a0, a1] st = outR (denB (run n) gl f__law_well.body [some a0, some a1, none, none, none, none] st) := rfl
abbrev i__law_dip : Nat := 29
theorem u__law_dip (n : Nat) (a0 a1 : D) (st : Store) : run (n + 1) 29 [a0, a1] st = outR (denB (run n) gl f__law_dip.body [some a0, some a1, none, none] st) := rfl
abbrev i__law_of : Nat := 30
theorem u__law_of (n : Nat) (a0 a1 : D) (st : Store) : run (n + 1) 30 [a0, a1] st = outR (denB (run n) gl f__law_of.body [some a0, some a1] st) := rfl
abbrev i__law_rounds : Nat := 31
theorem u__law_rounds (n : Nat) (a0 : D) (st : Store) : run (n + 1) 31 [a0] st = outR (denB (run n) gl f__law_rounds.body [some a0] st) := rfl
abbrev i__law_sgn : Nat := 32
theorem u__law_sgn (n : Nat) (a0 : D) (st : Store) : run (n + 1) 32 [a0] st = outR (denB (run n) gl f__law_sgn.body [some a0] st) := rfl
abbrev i__law_cut : Nat := 33
theorem u__law_cut (n : Nat) (a0 : D) (st : Store) : run (n + 1) 33 [a0] st = outR (denB (run n) gl f__law_cut.body [some a0, none, none, none, none] st) := rfl
abbrev i__law_row : Nat := 34
theorem u__law_row (n : Nat) (a0 a1 a2 : D) (st : Store) : run (n + 1) 34 [a0, a1, a2] st = outR (denB (run n) gl f__law_row.body [some a0, some a1, some a2, none, none] st) := rfl
abbrev i__law_day : Nat := 35
theorem u__law_day (n : Nat) (a0 : D) (st : Store) : run (n + 1) 35 [a0] st = outR (denB (run n) gl f__law_day.body [some a0, none, none] st) := rfl
abbrev i__law_ray : Nat := 36
theorem u__law_ray (n : Nat) (a0 a1 : D) (st : Store) : run (n + 1) 36 [a0, a1] st = outR (denB (run n) gl f__law_ray.body [some a0, some a1, none, none] st) := rfl
abbrev i__law_height : Nat := 37
theorem u__law_height (n : Nat) (a0 : D) (st : Store) : run (n + 1) 37 [a0] st = outR (denB (run n) gl f__law_height.body [some a0, none, none, none] st) := rfl
abbrev i__law_cross : Nat := 38
theorem u__law_cross (n : Nat) (a0 a1 : D) (st : Store) : run (n + 1) 38 [a0, a1] st = outR (denB (run n) gl f__law_cross.body [some a0, some a1, none, none, none, none, none, none] st) := rfl
abbrev i__law_root : Nat := 39
theorem u__law_root (n : Nat) (a0 a1 a2 : D) (st : Store) : run (n + 1) 39 [a0, a1, a2] st = outR (denB (run n) gl f__law_root.body [some a0, some a1, some a2] st) := rfl
abbrev i__law_two : Nat := 40
theorem u__law_two (n : Nat) (a0 a1 a2 a3 : D) (st : Store) : run (n + 1) 40 [a0, a1, a2, a3] st = outR (denB (run n) gl f__law_two.body [some a0, some a1, some a2, some a3] st) := rfl
abbrev i__law_course : Nat := 41
theorem u__law_course (n : Nat) (a0 a1 : D) (st : Store) : run (n + 1) 41 [a0, a1] st = outR (denB (run n) gl f__law_course.body [some a0, some a1, none, none, none, none, none, none, none, none] st) := rfl
abbrev i__law_bend : Nat := 42
theorem u__law_bend (n : Nat) (a0 a1 a2 : D) (st : Store) : run (n + 1) 42 [a0, a1, a2] st = outR (denB (run n) gl f__law_bend.body [some a0, some a1, some a2, none, none, none, none, none, none, none, none, none, none, none, none, none] st) := rfl
abbrev i__law_first_half : Nat := 43
theorem u__law_first_half (n : Nat) (a0 a1 : D) (st : Store) : run (n + 1) 43 [a0, a1] st = outR (denB (run n) gl f__law_first_half.body [some a0, some a1, none, none, none, none] st) := rfl
abbrev i__law_order : Nat := 44
theorem u__law_order (n : Nat) (a0 a1 a2 : D) (st : Store) : run (n + 1) 44 [a0, a1, a2] st = outR (denB (run n) gl f__law_order.body [some a0, some a1, some a2, none, none, none] st) := rfl
abbrev i__law_has_edges : Nat := 45
theorem u__law_has_edges (n : Nat) (a0 a1 : D) (st : Store) : run (n + 1) 45 [a0, a1] st = outR (denB (run n) gl f__law_has_edges.body [some a0, some a1, none, none, none] st) := rfl
abbrev i__law_plane : Nat := 46
theorem u__law_plane (n : Nat) (a0 a1 a2 : D) (st : Store) : run (n + 1) 46 [a0, a1, a2] st = outR (denB (run n) gl f__law_plane.body [some a0, some a1, some a2, none, none, none, none, none, none] st) := rfl
abbrev i__law_sign : Nat := 47
theorem u__law_sign (n : Nat) (a0 a1 a2 : D) (st : Store) : run (n + 1) 47 [a0, a1, a2] st = outR (denB (run n) gl f__law_sign.body [some a0, some a1, some a2, none, none, none, none, none, none, none] st) := rfl
abbrev i__law_orders_right : Nat := 48
theorem u__law_orders_right (n : Nat) (a0 a1 : D) (st : Store) : run (n + 1) 48 [a0, a1] st = outR (denB (run n) gl f__law_orders_right.body [some a0, some a1, none, none] st) := rfl
abbrev i__law_right : Nat := 49
theorem u__law_right (n : Nat) (a0 : D) (st : Store) : run (n + 1) 49 [a0] st = outR (denB (run n) gl f__law_right.body [some a0, none, none, none, none, none, none, none, none, none, none] st) := rfl
abbrev i_law : Nat := 50
theorem u_law (n : Nat) (a0 : D) (st : Store) : run (n + 1) 50 [a0] st = outR (denB (run n) gl f_law.body [some a0, none] st) := rfl
end LawX
open PySem PySem.W PySem.Calls PyProof.Rows
theorem law_from (k : Nat) (hr : L2.Room (k + 1) callerA) (plain : ∀ ns : List Int, ns.length ≤ 63 → ∃ st, L3.runN LawX.fs (L3.glOf LawX.G) (k + 1) LawX.lawI [.scr ns] [] = .ok (.bl true) st) : PySem.Challenge.rw_skyplates_k54_whole_edges_of_two_planes.Holds := by
  w_on; o_law
  refine HandSHeadRun.head_imp (r := OpenLaw.row PySem.Challenge.rw_skyplates_k54_whole_edges_of_two_planes) (q := view (OpenLaw.row PySem.Challenge.rw_skyplates_k54_whole_edges_of_two_planes).prog [0, 64]) (H := LawX.hk) (ob := LawX.ob) (M := 6000) (loose := LawX.loose) (d := HandSHeadRun.topDef (OpenLaw.row PySem.Challenge.rw_skyplates_k54_whole_edges_of_two_planes).prog 64) (kwd := []) LawX.ob_eq
    LawX.runs (by kernel_rfl) (by kernel_rfl) (by kernel_rfl) (by rfl) (by first | assumption | decide +kernel) (by decide +kernel) ⟨rfl, rfl, rfl, rfl, rfl, by decide +kernel⟩ ?hw ?hc
  case hw => w_witness2
  case hc => exact L3.walk_law (l := PySem.Challenge.rw_skyplates_k54_whole_edges_of_two_planes) (n := 63) (k := k) (j := LawX.lawI) (dl := LawX.d_law) rfl (by decide) (by kernel_rfl) hr rfl rfl LawX.oks LawX.bs LawX.ks rfl (by kernel_rfl) rfl plain

set_option maxHeartbeats 2000000
namespace L3
open L2 PySem PySem.Spec PyProof.Rows

/-! ### plain facts of the small semantics -/
mutual
theorem fz_pure (n : Nat) (st : Store) : ∀ d : D, d.pure = true → fz n st d = some d
  | .non, _ => by simp only [fz]
  | .bl _, _ => by simp only [fz]
  | .int _, _ => by simp only [fz]
  | .str _, _ => by simp only [fz]
  | .scr _, _ => by simp only [fz]
  | .tup xs, h => by
    simp only [fz, fzs_pure n st xs (by simpa only [D.pure] using h)]; rfl
  | .lst xs, h => by
    simp only [fz, fzs_pure n st xs (by simpa only [D.pure] using h)]; rfl
  | .loc _, h => by simp only [D.pure] at h; cases h
theorem fzs_pure (n : Nat) (st : Store) : ∀ ds : List D, pureAll ds = true → fzs n st ds = some ds
  | [], _ => by simp only [fzs]
  | d :: ds, h => by
    simp only [pureAll, Bool.and_eq_true] at h
    simp only [fzs, fz_pure n st d h.1, fzs_pure n st ds h.2]
end
theorem after_ok {st s1 : Store} {d : D} (hl : s1.length = st.length) (hp : d.pure = true) : after st (.ok d s1) = .ok d s1 := by
  simp only [after, fz_pure _ _ _ hp, ← hl, List.take_length]
theorem after_same {st : Store} {d : D} (hp : d.pure = true) : after st (.ok d st) = .ok d st := after_ok rfl hp
theorem after_more {st ex : Store} {d : D} (hp : d.pure = true) : after st (.ok d (st ++ ex)) = .ok d st := by
  simp only [after, fz_pure _ _ _ hp, List.take_left']
theorem stillB_nil (st s1 : Store) : stillB [] st s1 = true := by simp [stillB, still]
theorem stillB_same (ns : List Nat) (st : Store) : stillB ns st st = true := by simp [stillB, still]

/-- the turns of a loop: P by the number of items taken -/
theorem forL_inv {ns : List Nat} {step : D → DEnv → Store → Out} {r0 : DEnv} {s0 : Store} {xs : List D} (P : Nat → DEnv → Store → Prop) (h0 : P 0 r0 s0)
    (hs : ∀ i x r s, xs[i]? = some x → P i r s → ∃ r1 s1, step x r s = .go .nx r1 s1 ∧ stillB ns s s1 = true ∧ P (i + 1) r1 s1) : ∃ r1 s1, forL ns step xs r0 s0 = .go .nx r1 s1 ∧ P xs.length r1 s1 := by
  have key : ∀ (ys : List D) (i : Nat) (r : DEnv) (s : Store), (∀ j, ys[j]? = xs[i + j]?) → ys.length + i = xs.length → P i r s → ∃ r1 s1, forL ns step ys r s = .go .nx r1 s1 ∧ P xs.length r1 s1 := by
    intro ys
    induction ys with
    | nil =>
      intro i r s _ hl h
      refine ⟨r, s, by simp only [forL], ?_⟩
      have : i = xs.length := by simpa using hl
      rw [← this]; exact h
    | cons y ys ih =>
      intro i r s hy hl h
      obtain ⟨r1, s1, e, q, h1⟩ := hs i y r s (by have z := hy 0; rw [Nat.add_zero] at z; rw [← z]; rfl) h
      obtain ⟨r2, s2, e2, h2⟩ := ih (i + 1) r1 s1 (fun j => by have := hy (j + 1); rw [show i + (j + 1) = i + 1 + j by omega] at this; rw [← this]; rfl) (by simp at hl; omega) h1
      refine ⟨r2, s2, ?_, h2⟩
      simp only [forL, e, q, if_true]
      exact e2
  exact key xs 0 r0 s0 (fun j => by rw [Nat.zero_add]) (by simp) h0
/-- .. that may return -/
theorem forL_ret {ns : List Nat} {step : D → DEnv → Store → Out} {r0 : DEnv} {s0 : Store} {xs : List D} (P : Nat → DEnv → Store → Prop) (h0 : P 0 r0 s0) (Q : D → Store → Prop)
    (hs : ∀ i x r s, xs[i]? = some x → P i r s → (∃ r1 s1, step x r s = .go .nx r1 s1 ∧ stillB ns s s1 = true ∧ P (i + 1) r1 s1) ∨ ∃ d r1 s1, step x r s = .go (.rt d) r1 s1 ∧ Q d s1) :
    (∃ r1 s1, forL ns step xs r0 s0 = .go .nx r1 s1 ∧ P xs.length r1 s1) ∨ ∃ d r1 s1, forL ns step xs r0 s0 = .go (.rt d) r1 s1 ∧ Q d s1 := by
  have key : ∀ (ys : List D) (i : Nat) (r : DEnv) (s : Store), (∀ j, ys[j]? = xs[i + j]?) → ys.length + i = xs.length → P i r s → (∃ r1 s1, forL ns step ys r s = .go .nx r1 s1 ∧ P xs.length r1 s1) ∨ ∃ d r1 s1, forL ns step ys r s = .go (.rt d) r1 s1 ∧ Q d s1 := by
    intro ys
    induction ys with
    | nil =>
      intro i r s _ hl h
      refine .inl ⟨r, s, by simp only [forL], ?_⟩
      have : i = xs.length := by simpa using hl
      rw [← this]; exact h
    | cons y ys ih =>
      intro i r s hy hl h
      rcases hs i y r s (by have z := hy 0; rw [Nat.add_zero] at z; rw [← z]; rfl) h with ⟨r1, s1, e, q, h1⟩ | ⟨d, r1, s1, e, q⟩
      · have z := ih (i + 1) r1 s1 (fun j => by have := hy (j + 1); rw [show i + (j + 1) = i + 1 + j by omega] at this; rw [← this]; rfl) (by simp at hl; omega) h1
        simp only [forL, e, q, if_true]
        exact z
      · refine .inr ⟨d, r1, s1, ?_, q⟩
        simp only [forL, e]
  exact key xs 0 r0 s0 (fun j => by rw [Nat.zero_add]) (by simp) h0
/-- the turns of a comprehension that keep the store's length: P by what is made -/
theorem compL_inv {ns : List Nat} {body : D → Store → Res (Option D)} {s0 : Store} {xs : List D} (P : Nat → List D → Store → Prop) (h0 : P 0 [] s0)
    (hs : ∀ i x acc s, xs[i]? = some x → P i acc s → ∃ y s1, body x s = .ok y s1 ∧ stillB ns s s1 = true ∧ s1.length = s.length ∧ P (i + 1) (acc ++ y.toList) s1) : ∃ ys s1, compL ns body xs s0 = .ok ys s1 ∧ P xs.length ys s1 := by
  have key : ∀ (zs : List D) (i : Nat) (acc : List D) (s : Store), (∀ j, zs[j]? = xs[i + j]?) → zs.length + i = xs.length → P i acc s → ∃ ys s1, compL ns body zs s = .ok ys s1 ∧ P xs.length (acc ++ ys) s1 := by
    intro zs
    induction zs with
    | nil =>
      intro i acc s _ hl h
      refine ⟨[], s, by simp only [compL], ?_⟩
      have : i = xs.length := by simpa using hl
      rw [← this, List.append_nil]; exact h
    | cons z zs ih =>
      intro i acc s hy hl h
      obtain ⟨y, s1, e, q, q2, h1⟩ := hs i z acc s (by have z := hy 0; rw [Nat.add_zero] at z; rw [← z]; rfl) h
      obtain ⟨ys, s2, e2, h2⟩ := ih (i + 1) (acc ++ y.toList) s1 (fun j => by have := hy (j + 1); rw [show i + (j + 1) = i + 1 + j by omega] at this; rw [← this]; rfl) (by simp at hl; omega) h1
      cases y with
      | none => exact ⟨ys, s2, by simp only [compL, e, q, q2, decide_true, Bool.and_true, if_true, e2, Res.bind], by simpa using h2⟩
      | some y => exact ⟨y :: ys, s2, by simp only [compL, e, q, q2, decide_true, Bool.and_true, if_true, e2, Res.bind], by simpa [List.append_assoc] using h2⟩
  obtain ⟨ys, s1, e, h⟩ := key xs 0 [] s0 (fun j => by rw [Nat.zero_add]) (by simp) h0
  exact ⟨ys, s1, e, by simpa using h⟩
/-- .. each item by itself -/
theorem compL_map {ns : List Nat} {body : D → Store → Res (Option D)} {s : Store} (f : D → D) : ∀ {xs : List D}, (∀ x ∈ xs, body x s = .ok (some (f x)) s) → compL ns body xs s = .ok (xs.map f) s
  | [], _ => by simp only [compL, List.map_nil]
  | x :: xs, h => by
    have e := h x (List.mem_cons_self)
    have e2 := compL_map (ns := ns) f (xs := xs) fun z hz => h z (List.mem_cons_of_mem _ hz)
    simp only [compL, e, stillB_same, decide_true, Bool.and_self, if_true, e2, Res.bind, List.map_cons]
/-! ### for simp -/
section
variable {cf : Nat → List D → Store → Res D} {gl : Nat → Option D} {r : DEnv} {st : Store}
@[simp] theorem den_var (i : Nat) : den cf gl (.var i) r st = (match r[i]? with | some (some d) => .ok d st | _ => .stuck) := by simp only [den] <;> rfl
@[simp] theorem den_con (d : D) : den cf gl (.con d) r st = .ok d st := by simp only [den] <;> rfl
@[simp] theorem den_glo (j : Nat) : den cf gl (.glo j) r st = .of st (gl j) := by simp only [den] <;> rfl
@[simp] theorem den_op (o : Op) (es : List Ex) : den cf gl (.op o es) r st = (dens cf gl es r st).bind fun ds st' => .of st' (opD st' o ds) := by simp only [den] <;> rfl
@[simp] theorem den_nott (a : Ex) : den cf gl (.nott a) r st = (den cf gl a r st).bind fun x st' => .of st' ((truth st' x).map fun b => .bl (!b)) := by simp only [den] <;> rfl
@[simp] theorem den_and2 (a b : Ex) : den cf gl (.and2 a b) r st = (den cf gl a r st).bind fun x st' => match truth st' x with
    | some true => den cf gl b r st'
    | some false => .ok x st'
    | none => .stuck := by simp only [den] <;> rfl
@[simp] theorem den_or2 (a b : Ex) : den cf gl (.or2 a b) r st = (den cf gl a r st).bind fun x st' => match truth st' x with
    | some true => .ok x st'
    | some false => den cf gl b r st'
    | none => .stuck := by simp only [den] <;> rfl
@[simp] theorem den_ifx (c a b : Ex) : den cf gl (.ifx c a b) r st = (den cf gl c r st).bind fun x st' => match truth st' x with
    | some true => den cf gl a r st'
    | some false => den cf gl b r st'
    | none => .stuck := by simp only [den] <;> rfl
/-! truths that stay open -/
@[simp] theorem m_and (b c : Bool) (s : Store) : (match some b with
    | some true => Res.ok (D.bl c) s
    | some false => Res.ok (D.bl b) s
    | none => Res.stuck) = Res.ok (D.bl (b && c)) s := by cases b <;> rfl
@[simp] theorem m_or (b c : Bool) (s : Store) : (match some b with
    | some true => Res.ok (D.bl b) s
    | some false => Res.ok (D.bl c) s
    | none => Res.stuck) = Res.ok (D.bl (b || c)) s := by cases b <;> rfl
@[simp] theorem m_andF (b : Bool) (s : Store) : (match some b with
    | some true => Res.ok (D.bl false) s
    | some false => Res.ok (D.bl b) s
    | none => Res.stuck) = Res.ok (D.bl false) s := by cases b <;> rfl
@[simp] theorem m_if (b : Bool) (x y : Res D) : (match some b with
    | some true => x
    | some false => y
    | none => Res.stuck) = if b = true then x else y := by cases b <;> rfl
@[simp] theorem den_call (f : Nat) (es ks : List Ex) : den cf gl (.call f es ks) r st = (dens cf gl es r st).bind fun ds s1 => (dens cf gl ks r s1).bind fun zs s2 => after st (cf f (ds ++ zs) s2) := by simp only [den] <;> rfl
@[simp] theorem den_callr (f : Nat) (es ks : List Ex) : den cf gl (.callr f es ks) r st = (dens cf gl es r st).bind fun ds s1 => (dens cf gl ks r s1).bind fun zs s2 => afterR st (cf f (ds ++ zs) s2) := by simp only [den] <;> rfl
@[simp] theorem den_ref (e : Ex) : den cf gl (.ref e) r st = (den cf gl e r st).bind fun d st' => refD st' d := by simp only [den] <;> rfl
theorem den_comp (k : IK) (its : List Ex) (ts : List Nat) (c e : Ex) : den cf gl (.comp k its ts c e) r st = (dens cf gl its r st).bind fun ds st' => match itemsOf st' k ds with
    | some xs => (compL (walked k ds) (fun x s1 => match bindC ts x (wipeD r ts) with
      | some r' => (den cf gl c r' s1).bind fun b s2 => match truth s2 b with
        | some true => (den cf gl e r' s2).bind fun y s3 => .ok (some y) s3
        | some false => .ok none s2
        | none => .stuck
      | none => .stuck) xs st').bind fun ys st2 => if ys.length < sizeLine then .ok (.lst ys) st2 else .stuck
    | none => .stuck := by simp only [den] <;> rfl
theorem den_comp2 (k : IK) (its : List Ex) (ts : List Nat) (k1 : IK) (its1 : List Ex) (ts1 : List Nat) (e : Ex) : den cf gl (.comp2 k its ts k1 its1 ts1 e) r st = (dens cf gl its r st).bind fun ds st' => match itemsOf st' k ds with
    | some xs => (compLL (walked k ds) (fun x s1 => match bindC ts x (wipeD r (ts ++ ts1)) with
      | some r' => (dens cf gl its1 r' s1).bind fun ds1 s2 => match itemsOf s2 k1 ds1 with
        | some xs1 => compL (walked k1 ds1) (fun x1 s3 => match bindC ts1 x1 (wipeD r' ts1) with
          | some r2 => (den cf gl e r2 s3).bind fun y s4 => .ok (some y) s4
          | none => .stuck) xs1 s2
        | none => .stuck
      | none => .stuck) xs st').bind fun ys st2 => if ys.length < sizeLine then .ok (.lst ys) st2 else .stuck
    | none => .stuck := by simp only [den] <;> rfl
@[simp] theorem compLL_nil {ns : List Nat} {body : D → Store → Res (List D)} : compLL ns body [] st = .ok [] st := by simp only [compLL]
@[simp] theorem compLL_cons {ns : List Nat} {body : D → Store → Res (List D)} (x : D) (xs : List D) : compLL ns body (x :: xs) st = (match body x st with
    | .ok ys st1 => if stillB ns st st1 && decide (st1.length = st.length) then (compLL ns body xs st1).bind fun zs st2 => .ok (ys ++ zs) st2 else .stuck
    | _ => .stuck) := by simp only [compLL] <;> rfl
@[simp] theorem dens_nil : dens cf gl [] r st = .ok [] st := by simp only [dens] <;> rfl
@[simp] theorem dens_cons (e : Ex) (es : List Ex) : dens cf gl (e :: es) r st = (den cf gl e r st).bind fun d st' => (dens cf gl es r st').bind fun ds st2 => .ok (d :: ds) st2 := by simp only [dens] <;> rfl
@[simp] theorem denT_def (e : Ex) : denT cf gl e r st = (den cf gl e r st).bind fun x st' => .of st' (truth st' x) := (rfl)
@[simp] theorem rbind_ok {α β : Type} (a : α) (s : Store) (f : α → Store → Res β) : (Res.ok a s).bind f = f a s := (rfl)
@[simp] theorem rbind_stuck {α β : Type} (f : α → Store → Res β) : (Res.stuck : Res α).bind f = .stuck := (rfl)
@[simp] theorem rbind_exc {α β : Type} (c : Nat) (x : D) (s : Store) (f : α → Store → Res β) : (Res.exc c x s : Res α).bind f = .exc c x s := (rfl)
@[simp] theorem rof_some {α : Type} (s : Store) (a : α) : Res.of s (some a) = .ok a s := (rfl)
@[simp] theorem rof_none {α : Type} (s : Store) : Res.of s (none : Option α) = .stuck := (rfl)
@[simp] theorem outE_ok (f : D → Store → Out) (d : D) : outE r f (.ok d st) = f d st := (rfl)
@[simp] theorem outE_exc (f : D → Store → Out) (c : Nat) (d : D) : outE r f (.exc c d st) = .exc c d r st := (rfl)
@[simp] theorem outR_rt (d : D) : outR (.go (.rt d) r st) = .ok d st := (rfl)
@[simp] theorem outR_nx : outR (.go .nx r st) = .ok .non st := (rfl)
@[simp] theorem outR_exc (c : Nat) (d : D) : outR (.exc c d r st) = .exc c d st := (rfl)
@[simp] theorem denB_nil : denB cf gl [] r st = .go .nx r st := by simp only [denB] <;> rfl
@[simp] theorem denB_cons (s : Sm) (ss : List Sm) : denB cf gl (s :: ss) r st = (match denS cf gl s r st with
    | .go .nx r1 s1 => denB cf gl ss r1 s1
    | o => o) := by simp only [denB] <;> rfl
@[simp] theorem denS_asg (t : Lv) (e : Ex) : denS cf gl (.asg t e) r st = outE r (fun d s1 => match bindL cf gl t d r s1 with
      | some (r1, s2) => .go .nx r1 s2
      | none => .stuck) (den cf gl e r st) := by simp only [denS] <;> rfl
@[simp] theorem denS_par (is : List Nat) (es : List Ex) : denS cf gl (.par is es) r st = (match dens cf gl es r st with
    | .ok ds s1 => (match parSet is ds r with
      | some r1 => .go .nx r1 s1
      | none => .stuck)
    | .exc c x s1 => .exc c x r s1
    | .stuck => .stuck) := by simp only [denS] <;> rfl
@[simp] theorem denS_drop (e : Ex) : denS cf gl (.drop e) r st = outE r (fun _ s1 => .go .nx r s1) (den cf gl e r st) := by simp only [denS] <;> rfl
@[simp] theorem denS_ret (e : Ex) : denS cf gl (.ret e) r st = outE r (fun d s1 => .go (.rt d) r s1) (den cf gl e r st) := by simp only [denS] <;> rfl
@[simp] theorem denS_retN : denS cf gl .retN r st = .go (.rt .non) r st := by simp only [denS] <;> rfl
@[simp] theorem denS_brk : denS cf gl .brk r st = .go .bk r st := by simp only [denS] <;> rfl
@[simp] theorem denS_cnt : denS cf gl .cnt r st = .go .ct r st := by simp only [denS] <;> rfl
@[simp] theorem denS_pass : denS cf gl .pass r st = .go .nx r st := by simp only [denS] <;> rfl
@[simp] theorem denS_iff (c : Ex) (a b : List Sm) : denS cf gl (.iff c a b) r st = (match denT cf gl c r st with
    | .ok k s1 => if k = true then denB cf gl a r s1 else denB cf gl b r s1
    | .exc c x s1 => .exc c x r s1
    | .stuck => .stuck) := by simp only [denS] <;> rfl
theorem denS_loop (k : IK) (its : List Ex) (t : Lv) (body : List Sm) : denS cf gl (.loop k its t body) r st = (match denI cf gl k its r st with
    | .ok a s1 => forL a.2.1 (fun x r s => match bindL cf gl t x r s with
      | some (r1, s2) => denB cf gl body r1 s2
      | none => .stuck) a.1 r s1
    | .exc c x s1 => .exc c x r s1
    | .stuck => .stuck) := by simp only [denS] <;> rfl
@[simp] theorem bindL_nm (i : Nat) (d : D) : bindL cf gl (.nm i) d r st = some (r.set i (some d), st) := by simp only [bindL] <;> rfl
@[simp] theorem bindL_sub (a b : Ex) (d : D) : bindL cf gl (.sub a b) d r st = (match den cf gl a r st with
    | .ok x s1 => (match den cf gl b r s1 with
      | .ok y s2 => (setD s2 x y d).map fun s3 => (r, s3)
      | _ => none)
    | _ => none) := by simp only [bindL] <;> rfl
@[simp] theorem bindL_tpl_lst (ts : List Lv) (xs : List D) : bindL cf gl (.tp ts) (.lst xs) r st = bindLs cf gl ts xs r st := by simp only [bindL, isOwn] <;> rfl
@[simp] theorem bindL_tp (ts : List Lv) (xs : List D) : bindL cf gl (.tp ts) (.tup xs) r st = bindLs cf gl ts xs r st := by simp only [bindL] <;> rfl
@[simp] theorem bindLs_nil : bindLs cf gl [] [] r st = some (r, st) := by simp only [bindLs] <;> rfl
@[simp] theorem bindLs_cons (t : Lv) (ts : List Lv) (x : D) (xs : List D) : bindLs cf gl (t :: ts) (x :: xs) r st = (match bindL cf gl t x r st with
    | some (r1, s1) => bindLs cf gl ts xs r1 s1
    | none => none) := by simp only [bindLs] <;> rfl
@[simp] theorem parSet_two (i j : Nat) (x y : D) : parSet [i, j] [x, y] r = some ((r.set i (some x)).set j (some y)) := (rfl)
/-! truths -/
@[simp] theorem truth_bl (b : Bool) : truth st (.bl b) = some b := (rfl)
@[simp] theorem truth_int (b : Int) : truth st (.int b) = some (b != 0) := (rfl)
/-! operations -/
@[simp] theorem o_add (i j : Int) : opD st .add [.int i, .int j] = some (.int (i + j)) := (rfl)
@[simp] theorem o_sub (i j : Int) : opD st .sub [.int i, .int j] = some (.int (i - j)) := (rfl)
theorem o_mul {i j : Int} (h1 : Bd 4000 i) (h2 : Bd 4000 j) : opD st .mul [.int i, .int j] = some (.int (i * j)) := if_pos ⟨h1, h2⟩
theorem o_fdiv {i j : Int} (h1 : 0 < j) (h2 : Bd 4000 j) : opD st .fdiv [.int i, .int j] = some (.int (i / j)) := if_pos ⟨h1, h2⟩
theorem o_md {i j : Int} (h1 : 0 < j) : opD st .md [.int i, .int j] = some (.int (i % j)) := if_pos h1
theorem o_divmod {i j : Int} (h1 : 0 < j) (h2 : j < 1073741824) : opD st .divmod [.int i, .int j] = some (.tup [.int (i / j), .int (i % j)]) := if_pos ⟨h1, h2⟩
@[simp] theorem o_neg (i : Int) : opD st .neg [.int i] = some (.int (-i)) := (rfl)
@[simp] theorem o_lt (i j : Int) : opD st .lt [.int i, .int j] = some (.bl (decide (i < j))) := (rfl)
@[simp] theorem o_le (i j : Int) : opD st .le [.int i, .int j] = some (.bl (decide (i ≤ j))) := (rfl)
@[simp] theorem o_gt (i j : Int) : opD st .gt [.int i, .int j] = some (.bl (decide (j < i))) := (rfl)
@[simp] theorem o_ge (i j : Int) : opD st .ge [.int i, .int j] = some (.bl (decide (j ≤ i))) := (rfl)
@[simp] theorem o_isN (a : D) : opD st .isN [a] = some (.bl (isNonD a)) := (rfl)
@[simp] theorem o_notN (a : D) : opD st .notN [a] = some (.bl (!isNonD a)) := (rfl)
theorem small_len {n : Nat} (h : n ≤ 10000) : n ≤ sizeLine := Nat.le_trans h (by decide)
theorem o_tup {ds : List D} (h : ds.length ≤ 10000) : opD st .tup ds = some (.tup ds) := by
  rw [show opD st .tup ds = (if ds.length ≤ sizeLine then some (D.tup ds) else none) from by cases ds <;> rfl]
  exact if_pos (small_len h)
theorem o_lst {ds : List D} (h : ds.length ≤ 10000) : opD st .lst ds = some (.lst ds) := by
  rw [show opD st .lst ds = (if ds.length ≤ sizeLine then some (D.lst ds) else none) from by cases ds <;> rfl]
  exact if_pos (small_len h)
@[simp] theorem o_tup0 : opD st .tup [] = some (.tup []) := o_tup (by decide)
@[simp] theorem o_tup1 (a : D) : opD st .tup [a] = some (.tup [a]) := o_tup (by simp)
@[simp] theorem o_tup2 (a b : D) : opD st .tup [a, b] = some (.tup [a, b]) := o_tup (by simp)
@[simp] theorem o_tup3 (a b c : D) : opD st .tup [a, b, c] = some (.tup [a, b, c]) := o_tup (by simp)
@[simp] theorem o_tup4 (a b c d : D) : opD st .tup [a, b, c, d] = some (.tup [a, b, c, d]) := o_tup (by simp)
@[simp] theorem o_tup5 (a b c d e : D) : opD st .tup [a, b, c, d, e] = some (.tup [a, b, c, d, e]) := o_tup (by simp)
@[simp] theorem o_tup6 (a b c d e f : D) : opD st .tup [a, b, c, d, e, f] = some (.tup [a, b, c, d, e, f]) := o_tup (by simp)
@[simp] theorem o_tup7 (a b c d e f g : D) : opD st .tup [a, b, c, d, e, f, g] = some (.tup [a, b, c, d, e, f, g]) := o_tup (by simp)
@[simp] theorem o_tup8 (a b c d e f g h : D) : opD st .tup [a, b, c, d, e, f, g, h] = some (.tup [a, b, c, d, e, f, g, h]) := o_tup (by simp)
@[simp] theorem o_tup9 (a b c d e f g h i : D) : opD st .tup [a, b, c, d, e, f, g, h, i] = some (.tup [a, b, c, d, e, f, g, h, i]) := o_tup (by simp)
@[simp] theorem o_lst0 : opD st .lst [] = some (.lst []) := o_lst (by decide)
@[simp] theorem o_lst1 (a : D) : opD st .lst [a] = some (.lst [a]) := o_lst (by simp)
@[simp] theorem o_lst2 (a b : D) : opD st .lst [a, b] = some (.lst [a, b]) := o_lst (by simp)
@[simp] theorem o_lst3 (a b c : D) : opD st .lst [a, b, c] = some (.lst [a, b, c]) := o_lst (by simp)
@[simp] theorem o_lst4 (a b c d : D) : opD st .lst [a, b, c, d] = some (.lst [a, b, c, d]) := o_lst (by simp)
@[simp] theorem o_lst5 (a b c d e : D) : opD st .lst [a, b, c, d, e] = some (.lst [a, b, c, d, e]) := o_lst (by simp)
@[simp] theorem o_lst6 (a b c d e f : D) : opD st .lst [a, b, c, d, e, f] = some (.lst [a, b, c, d, e, f]) := o_lst (by simp)
@[simp] theorem o_lst7 (a b c d e f g : D) : opD st .lst [a, b, c, d, e, f, g] = some (.lst [a, b, c, d, e, f, g]) := o_lst (by simp)
@[simp] theorem o_lst8 (a b c d e f g h : D) : opD st .lst [a, b, c, d, e, f, g, h] = some (.lst [a, b, c, d, e, f, g, h]) := o_lst (by simp)
@[simp] theorem o_lst9 (a b c d e f g h i : D) : opD st .lst [a, b, c, d, e, f, g, h, i] = some (.lst [a, b, c, d, e, f, g, h, i]) := o_lst (by simp)
@[simp] theorem o_abs (i : Int) : opD st .abs [.int i] = some (.int (if i < 0 then -i else i)) := (rfl)
@[simp] theorem o_int (i : Int) : opD st .int [.int i] = some (.int i) := (rfl)
@[simp] theorem o_max2 (i j : Int) : opD st .max2 [.int i, .int j] = some (.int (if j > i then j else i)) := (rfl)
@[simp] theorem o_min2 (i j : Int) : opD st .min2 [.int i, .int j] = some (.int (if j < i then j else i)) := (rfl)
@[simp] theorem o_gcd (i j : Int) : opD st .gcd [.int i, .int j] = some (.int (Nat.gcd i.natAbs j.natAbs : Nat)) := (rfl)
@[simp] theorem o_isi (n : Nat) (a : D) : opD st (.isi n) [a] = some (.bl (isType n a)) := (rfl)
@[simp] theorem isT0_int (i : Int) : isType 0 (.int i) = true := (rfl)
@[simp] theorem isT1_int (i : Int) : isType 1 (.int i) = false := (rfl)
@[simp] theorem isT2_tup (xs : List D) : isType 2 (.tup xs) = true := (rfl)
@[simp] theorem o_tuple_lst (xs : List D) : opD st .tuple [.lst xs] = some (.tup xs) := (rfl)
@[simp] theorem o_len_tup (xs : List D) : opD st .len [.tup xs] = some (.int xs.length) := (rfl)
@[simp] theorem o_len_lst (xs : List D) : opD st .len [.lst xs] = some (.int xs.length) := (rfl)
theorem o_len {a : D} {xs : List D} (h : isSeq st a = some xs) : opD st .len [a] = some (.int xs.length) := by
  simp only [opD, h, Option.map]
theorem o_idx {a : D} {xs : List D} {i : Int} (h : isSeq st a = some xs) : opD st .idx [a, .int i] = atI xs i := by
  simp only [opD, h]
@[simp] theorem seq_tup (xs : List D) : isSeq st (.tup xs) = some xs := (rfl)
@[simp] theorem seq_lst (xs : List D) : isSeq st (.lst xs) = some xs := (rfl)
@[simp] theorem o_idx_tup (xs : List D) (i : Int) : opD st .idx [.tup xs, .int i] = atI xs i := (rfl)
@[simp] theorem o_idx_lst (xs : List D) (i : Int) : opD st .idx [.lst xs, .int i] = atI xs i := (rfl)
theorem at_nat {α : Type} {xs : List α} {n : Nat} {x : α} (h : xs[n]? = some x) : atI xs (n : Int) = some x := by
  have hl := (List.getElem?_eq_some_iff.mp h).1
  unfold atI ixN
  rw [if_pos (Int.natCast_nonneg n), if_pos (by omega)]
  simpa using h
@[simp] theorem at_0 {α : Type} (x0 : α) (r : List α) : atI (x0 :: r) 0 = some x0 := at_nat (n := 0) rfl
@[simp] theorem at_1 {α : Type} (x0 x1 : α) (r : List α) : atI (x0 :: x1 :: r) 1 = some x1 := at_nat (n := 1) rfl
@[simp] theorem at_2 {α : Type} (x0 x1 x2 : α) (r : List α) : atI (x0 :: x1 :: x2 :: r) 2 = some x2 := at_nat (n := 2) rfl
@[simp] theorem at_3 {α : Type} (x0 x1 x2 x3 : α) (r : List α) : atI (x0 :: x1 :: x2 :: x3 :: r) 3 = some x3 := at_nat (n := 3) rfl
@[simp] theorem at_4 {α : Type} (x0 x1 x2 x3 x4 : α) (r : List α) : atI (x0 :: x1 :: x2 :: x3 :: x4 :: r) 4 = some x4 := at_nat (n := 4) rfl
@[simp] theorem at_5 {α : Type} (x0 x1 x2 x3 x4 x5 : α) (r : List α) : atI (x0 :: x1 :: x2 :: x3 :: x4 :: x5 :: r) 5 = some x5 := at_nat (n := 5) rfl
@[simp] theorem at_6 {α : Type} (x0 x1 x2 x3 x4 x5 x6 : α) (r : List α) : atI (x0 :: x1 :: x2 :: x3 :: x4 :: x5 :: x6 :: r) 6 = some x6 := at_nat (n := 6) rfl
@[simp] theorem at_7 {α : Type} (x0 x1 x2 x3 x4 x5 x6 x7 : α) (r : List α) : atI (x0 :: x1 :: x2 :: x3 :: x4 :: x5 :: x6 :: x7 :: r) 7 = some x7 := at_nat (n := 7) rfl
@[simp] theorem at_8 {α : Type} (x0 x1 x2 x3 x4 x5 x6 x7 x8 : α) (r : List α) : atI (x0 :: x1 :: x2 :: x3 :: x4 :: x5 :: x6 :: x7 :: x8 :: r) 8 = some x8 := at_nat (n := 8) rfl

/-! equality -/
theorem pys_ints : ∀ ns : List Int, pys (ns.map .int) = some (ns.map PyData.int)
  | [] => rfl
  | n :: ns => by simp only [List.map_cons, pys, D.py, pys_ints ns]
theorem canLay_ints : ∀ ns : List Int, PyData.canLayAll0 (ns.map PyData.int) = true
  | [] => by simp only [List.map_nil, PyData.canLayAll0]
  | n :: ns => by simp only [List.map_cons, PyData.canLayAll0, PyData.canLay0, canLay_ints ns, Bool.and_self]
theorem depth_ints : ∀ ns : List Int, PyData.depthAll (ns.map PyData.int) = 0
  | [] => by simp only [List.map_nil, PyData.depthAll]
  | n :: ns => by simp only [List.map_cons, PyData.depthAll, PyData.depth, depth_ints ns, Nat.max_self]
theorem eqv_ints : ∀ is js : List Int, PyData.eqvAll (is.map PyData.int) (js.map PyData.int) = decide (is = js)
  | [], [] => by simp [PyData.eqvAll]
  | [], j :: js => by simp [PyData.eqvAll]
  | i :: is, [] => by simp [PyData.eqvAll]
  | i :: is, j :: js => by
    simp only [List.map_cons, PyData.eqvAll, eqv_ints is js, PyData.eqv]
    by_cases h : i = j
    · by_cases h2 : is = js <;> simp [h, h2]
    · simp [h]
theorem shaped_ints (ns : List Int) : SeqAt.shaped (.tuple (ns.map PyData.int)) = true := by
  simp only [SeqAt.shaped, PyData.canLay0, canLay_ints, PyData.depth, depth_ints]; decide
theorem shaped_intsL (ns : List Int) : SeqAt.shaped (.list (ns.map PyData.int)) = true := by
  simp only [SeqAt.shaped, PyData.canLay0, canLay_ints, PyData.depth, depth_ints]; decide
theorem eqD_ints (is js : List Int) : eqD st (.tup (is.map .int)) (.tup (js.map .int)) = some (decide (is = js)) := by
  simp only [eqD, strD, eqP, pyOf, D.py, pys_ints, Option.map, shaped_ints, and_self, if_true, PyData.eqv, eqv_ints]
theorem eqD_intsL (is js : List Int) : eqD st (.lst (is.map .int)) (.lst (js.map .int)) = some (decide (is = js)) := by
  simp only [eqD, strD, eqP, pyOf, D.py, pys_ints, Option.map, shaped_intsL, and_self, if_true, PyData.eqv, eqv_ints]
@[simp] theorem eq_int (i j : Int) : eqD st (.int i) (.int j) = some (decide (i = j)) := by
  have e : SeqAt.shaped (.int i) = true ∧ SeqAt.shaped (.int j) = true := by
    constructor <;> (simp [SeqAt.shaped, PyData.canLay0, PyData.depth])
  simp only [eqD, strD, eqP, pyOf, D.py, if_pos e, PyData.eqv]
  by_cases h : i = j <;> simp [h]
@[simp] theorem eq_bl (i j : Bool) : eqD st (.bl i) (.bl j) = some (decide (i = j)) := by
  have e : SeqAt.shaped (.bool i) = true ∧ SeqAt.shaped (.bool j) = true := by
    constructor <;> (simp [SeqAt.shaped, PyData.canLay0, PyData.depth])
  simp only [eqD, strD, eqP, pyOf, D.py, if_pos e, PyData.eqv]
  by_cases h : i = j <;> simp [h]
@[simp] theorem eq_str (i j : Str) : eqD st (.str i) (.str j) = some (decide (i = j)) := (rfl)
@[simp] theorem eq_tup2 (a b c d : Int) : eqD st (.tup [.int a, .int b]) (.tup [.int c, .int d]) = some (decide (a = c ∧ b = d)) := by
  have := eqD_ints (st := st) [a, b] [c, d]
  simpa using this
@[simp] theorem eq_tup3 (a b c d e f : Int) : eqD st (.tup [.int a, .int b, .int c]) (.tup [.int d, .int e, .int f]) = some (decide (a = d ∧ b = e ∧ c = f)) := by
  have := eqD_ints (st := st) [a, b, c] [d, e, f]
  simpa using this
@[simp] theorem o_eq (a b : D) : opD st .eq [a, b] = (eqD st a b).map .bl := (rfl)
@[simp] theorem o_ne (a b : D) : opD st .ne [a, b] = (eqD st a b).map fun c => .bl (!c) := (rfl)
@[simp] theorem eq_lst00 : eqD st (.lst []) (.lst []) = some true := by
  have := eqD_intsL (st := st) [] []
  simpa using this
/-! lists -/
@[simp] theorem items_tup (xs : List D) : itemsOf st .seq [.tup xs] = some xs := (rfl)
@[simp] theorem items_lst (xs : List D) : itemsOf st .seq [.lst xs] = some xs := (rfl)
@[simp] theorem walked_tup (xs : List D) : walked .seq [.tup xs] = [] := (rfl)
@[simp] theorem walked_lst (xs : List D) : walked .seq [.lst xs] = [] := (rfl)
@[simp] theorem walked_scr (xs : List Int) : walked .seq [.scr xs] = [] := (rfl)
@[simp] theorem walked_rng (xs : List D) : walked .rng xs = [] := (rfl)
@[simp] theorem bindC_one (i : Nat) (x : D) : L3.bindC [i] x r = some (r.set i (some x)) := (rfl)
@[simp] theorem wipe_nil : wipeD r [] = r := (rfl)
@[simp] theorem wipe_one (v : Nat) : wipeD r [v] = r.set v none := (rfl)
@[simp] theorem compL_nil {ns : List Nat} {body : D → Store → Res (Option D)} : compL ns body [] st = .ok [] st := by simp only [compL]
@[simp] theorem compL_cons {ns : List Nat} {body : D → Store → Res (Option D)} (x : D) (xs : List D) : compL ns body (x :: xs) st = (match body x st with
    | .ok y st1 => if stillB ns st st1 && decide (st1.length = st.length) then (compL ns body xs st1).bind fun ys st2 => .ok (match y with | some y => y :: ys | none => ys) st2 else .stuck
    | _ => .stuck) := by simp only [compL] <;> rfl
@[simp] theorem still_same (ns : List Nat) : stillB ns st st = true := stillB_same ns st
@[simp] theorem still_nil (s1 : Store) : stillB [] st s1 = true := stillB_nil st s1
@[simp] theorem pure_int (i : Int) : (D.int i).pure = true := by simp only [D.pure]
@[simp] theorem pure_bl (i : Bool) : (D.bl i).pure = true := by simp only [D.pure]
@[simp] theorem pure_non : D.non.pure = true := by simp only [D.pure]
@[simp] theorem pure_str (i : Str) : (D.str i).pure = true := by simp only [D.pure]
@[simp] theorem pure_tup (xs : List D) : (D.tup xs).pure = pureAll xs := by simp only [D.pure]
@[simp] theorem pure_lst (xs : List D) : (D.lst xs).pure = pureAll xs := by simp only [D.pure]
@[simp] theorem pureAll_nil : pureAll [] = true := by simp only [pureAll]
@[simp] theorem pureAll_cons (x : D) (xs : List D) : pureAll (x :: xs) = (x.pure && pureAll xs) := by simp only [pureAll]
@[simp] theorem after_same' {d : D} (hp : d.pure = true) : after st (.ok d st) = .ok d st := after_ok rfl hp
@[simp] theorem size_small (n : Nat) (h : n ≤ 10000) : n < sizeLine := Nat.lt_of_le_of_lt h (by decide)
@[simp] theorem o_all_lst (xs : List D) : opD st .all [.lst xs] = (boolsD xs).map fun bs => .bl (bs.all id) := (rfl)
@[simp] theorem o_any_lst (xs : List D) : opD st .any [.lst xs] = (boolsD xs).map fun bs => .bl (bs.any id) := (rfl)
@[simp] theorem bools_nil : boolsD [] = some [] := (rfl)
@[simp] theorem bools_cons (b : Bool) (xs : List D) : boolsD (.bl b :: xs) = (boolsD xs).map (b :: ·) := (rfl)
theorem o_add_lst (xs ys : List D) (h : xs.length + ys.length ≤ 10000) : opD st .add [.lst xs, .lst ys] = some (.lst (xs ++ ys)) := by
  show (if xs.length + ys.length ≤ sizeLine then some (D.lst (xs ++ ys)) else none) = _
  exact if_pos (small_len h)

@[simp] theorem forL_nil {ns : List Nat} {step : D → DEnv → Store → Out} : forL ns step [] r st = .go .nx r st := by simp only [forL]
@[simp] theorem forL_cons {ns : List Nat} {step : D → DEnv → Store → Out} (x : D) (xs : List D) : forL ns step (x :: xs) r st = (match step x r st with
    | .go .nx r1 s1 => if stillB ns st s1 = true then forL ns step xs r1 s1 else .stuck
    | .go .ct r1 s1 => if stillB ns st s1 = true then forL ns step xs r1 s1 else .stuck
    | .go .bk r1 s1 => .go .nx r1 s1
    | o => o) := by simp only [forL] <;> rfl

end
end L3

set_option maxHeartbeats 2000000
namespace L3
open L2 PySem PySem.Spec PyProof.Rows
section
variable {cf : Nat → List D → Store → Res D} {gl : Nat → Option D} {r : DEnv} {st : Store}
def rngD (n : Nat) : List D := (List.range n).map fun k : Nat => .int (k : Int)
theorem rngD_len (n : Nat) : (rngD n).length = n := by simp [rngD]
theorem rngD_at {n i : Nat} {x : D} (h : (rngD n)[i]? = some x) : x = .int (i : Int) ∧ i < n := by
  unfold rngD at h
  rw [List.getElem?_map] at h
  by_cases hi : i < n
  · rw [List.getElem?_range hi] at h
    simp at h
    exact ⟨h.symm, hi⟩
  · rw [List.getElem?_eq_none (by simpa using hi)] at h
    cases h
theorem rng_in (n : Nat) (h : n ≤ 1000000) : -(2 ^ 62) ≤ (n : Int) ∧ (n : Int) < 2 ^ 62 := by
  have e : (2 : Int) ^ 62 = 4611686018427387904 := by rfl
  rw [e]
  constructor <;> omega
theorem items_rng (n : Nat) (h : n ≤ 1000000) : itemsOf st .rng [.int (n : Int)] = some (rngD n) := by
  simp only [itemsOf]
  rw [if_pos (rng_in n h), Int.toNat_natCast]
  rfl
theorem loop_rng {ex : Ex} {v n : Nat} {body : List Sm} {s0 : Store} {s1 : Store} (he : den cf gl ex r s0 = .ok (.int (n : Int)) s1) (hn : n ≤ 1000000) : denS cf gl (.loop .rng [ex] (.nm v) body) r s0 = forL [] (fun x r s => denB cf gl body (r.set v (some x)) s) (rngD n) r s1 := by
  have e : denI cf gl .rng [ex] r s0 = .ok (rngD n, [], s1) s1 := by
    simp only [denI, dens_cons, dens_nil, he, rbind_ok, items_rng n hn]
    rfl
  rw [denS_loop, e]
  show forL [] (fun x r s => match bindL cf gl (.nm v) x r s with
      | some (r1, s2) => denB cf gl body r1 s2
      | none => .stuck) (rngD n) r s1 = _
  simp only [bindL_nm]
theorem loop_seq {ex : Ex} {v : Nat} {xs : List D} {d : D} {body : List Sm} {s0 s1 : Store} (he : den cf gl ex r s0 = .ok d s1) (hd : isSeq s1 d = some xs) : denS cf gl (.loop .seq [ex] (.nm v) body) r s0 = forL (walked .seq [d]) (fun x r s => denB cf gl body (r.set v (some x)) s) xs r s1 := by
  have e : itemsOf s1 .seq [d] = some xs := hd
  simp only [denS_loop, denI, dens_cons, dens_nil, he, rbind_ok, e, Option.map, rof_some, bindL_nm]
theorem rng_inv {ex : Ex} {v n : Nat} {body : List Sm} {s0 : Store} (P : Nat → DEnv → Store → Prop) (he : den cf gl ex r s0 = .ok (.int (n : Int)) s0) (hn : n ≤ 1000000) (h0 : P 0 r s0)
    (hs : ∀ i r s, i < n → P i r s → ∃ r1 s1, denB cf gl body (r.set v (some (.int (i : Int)))) s = .go .nx r1 s1 ∧ P (i + 1) r1 s1) : ∃ r1 s1, denS cf gl (.loop .rng [ex] (.nm v) body) r s0 = .go .nx r1 s1 ∧ P n r1 s1 := by
  rw [loop_rng he hn]
  have := forL_inv (ns := []) (step := fun x r s => denB cf gl body (r.set v (some x)) s) (xs := rngD n) P h0 fun i x r s hx hp => by
    obtain ⟨rfl, hi⟩ := rngD_at hx
    obtain ⟨r1, s1, e, p⟩ := hs i r s hi hp
    exact ⟨r1, s1, e, stillB_nil _ _, p⟩
  rw [rngD_len] at this
  exact this
theorem seq_inv {ex : Ex} {v : Nat} {xs : List D} {d : D} {body : List Sm} {s0 : Store} (P : Nat → DEnv → Store → Prop) (he : den cf gl ex r s0 = .ok d s0) (hd : isSeq s0 d = some xs) (hw : walked .seq [d] = []) (h0 : P 0 r s0)
    (hs : ∀ i x r s, xs[i]? = some x → P i r s → ∃ r1 s1, denB cf gl body (r.set v (some x)) s = .go .nx r1 s1 ∧ P (i + 1) r1 s1) : ∃ r1 s1, denS cf gl (.loop .seq [ex] (.nm v) body) r s0 = .go .nx r1 s1 ∧ P xs.length r1 s1 := by
  rw [loop_seq he hd, hw]
  exact forL_inv (ns := []) (step := fun x r s => denB cf gl body (r.set v (some x)) s) (xs := xs) P h0 fun i x r s hx hp => by
    obtain ⟨r1, s1, e, p⟩ := hs i x r s hx hp
    exact ⟨r1, s1, e, stillB_nil _ _, p⟩
/-- a comprehension over whole numbers -/
theorem comp_rng {ex c e : Ex} {v n : Nat} {s0 : Store} (P : Nat → List D → Store → Prop) (he : den cf gl ex r s0 = .ok (.int (n : Int)) s0) (hn : n < 10000) (h0 : P 0 [] s0)
    (hc : ∀ i acc s, i < n → P i acc s → den cf gl c ((r.set v none).set v (some (.int (i : Int)))) s = .ok (.bl true) s)
    (hs : ∀ i acc s, i < n → P i acc s → ∃ y s1, den cf gl e ((r.set v none).set v (some (.int (i : Int)))) s = .ok y s1 ∧ s1.length = s.length ∧ P (i + 1) (acc ++ [y]) s1) (hl : ∀ ys s, P n ys s → ys.length ≤ 10000) :
    ∃ ys s1, den cf gl (.comp .rng [ex] [v] c e) r s0 = .ok (.lst ys) s1 ∧ P n ys s1 := by
  obtain ⟨ys, s1, q, p⟩ := compL_inv (ns := []) (s0 := s0) (xs := rngD n) (body := fun x s1 => (den cf gl c ((r.set v none).set v (some x)) s1).bind fun b s2 => match truth s2 b with
        | some true => (den cf gl e ((r.set v none).set v (some x)) s2).bind fun y s3 => .ok (some y) s3
        | some false => .ok none s2
        | none => .stuck) P h0 fun i x acc s hx hp => by
    obtain ⟨rfl, hi⟩ := rngD_at hx
    obtain ⟨y, s1, e1, l, p⟩ := hs i acc s hi hp
    exact ⟨some y, s1, by simp only [hc i acc s hi hp, rbind_ok, truth_bl, e1], stillB_nil _ _, l, p⟩
  rw [rngD_len] at p
  refine ⟨ys, s1, ?_, p⟩
  have hn2 : n ≤ 1000000 := Nat.le_trans (Nat.le_of_lt hn) (by decide)
  rw [den_comp]
  simp only [dens_cons, dens_nil, he, rbind_ok]
  rw [items_rng n hn2]
  simp only [bindC_one, wipe_one]
  refine Eq.trans (congrArg (fun z : Res (List D) => z.bind fun ys st2 => if ys.length < sizeLine then Res.ok (D.lst ys) st2 else .stuck) q) ?_
  exact if_pos (size_small _ (hl ys s1 p))

/-! more for simp -/
@[simp] theorem den_chn (o1 o2 : Op) (a b c : Ex) : den cf gl (.chn o1 o2 a b c) r st = (den cf gl a r st).bind fun x s1 => (den cf gl b r s1).bind fun y s2 => match opD s2 o1 [x, y] with
    | some (.bl true) => (den cf gl c r s2).bind fun z s3 => match opD s3 o2 [y, z] with
      | some (.bl k) => .ok (.bl k) s3
      | _ => .stuck
    | some (.bl false) => .ok (.bl false) s2
    | _ => .stuck := by simp only [den] <;> rfl
@[simp] theorem den_star (a : Ex) (es : List Ex) : den cf gl (.star a es) r st = (den cf gl a r st).bind fun x s1 => match x with
    | .tup xs => (dens cf gl es r s1).bind fun ds s2 => if (xs ++ ds).length ≤ sizeLine then .ok (.tup (xs ++ ds)) s2 else .stuck
    | _ => .stuck := by simp only [den] <;> rfl
theorem o_shl {i j : Int} (h0 : 0 ≤ j) (h1 : j ≤ 1000000) (h2 : Bd 64 i) : opD st .shl [.int i, .int j] = some (.int (i * 2 ^ j.toNat)) := if_pos ⟨h0, h1, h2⟩
@[simp] theorem parSet_three (i j l : Nat) (x y z : D) : parSet [i, j, l] [x, y, z] r = some (((r.set i (some x)).set j (some y)).set l (some z)) := (rfl)
@[simp] theorem o_memb (a b : D) : opD st .memb [a, b] = (inD st a b).map .bl := (rfl)
@[simp] theorem o_nmemb (a b : D) : opD st .nmemb [a, b] = (inD st a b).map fun c => .bl (!c) := (rfl)
@[simp] theorem o_isB (a b : Bool) : opD st .isB [.bl a, .bl b] = some (.bl (decide (a = b))) := (rfl)
@[simp] theorem o_nisB (a b : Bool) : opD st .nisB [.bl a, .bl b] = some (.bl (!decide (a = b))) := (rfl)
theorem o_isqrt {i : Int} (h0 : 0 ≤ i) (h1 : Bd 4000 i) : opD st .isqrt [.int i] = some (.int ((Float64.isqrt i.toNat : Nat) : Int)) := if_pos ⟨h0, h1⟩
@[simp] theorem o_sub_bl (a b : Bool) : opD st .sub [.bl a, .bl b] = some (.int (b2i a - b2i b)) := (rfl)
@[simp] theorem o_int_bl (a : Bool) : opD st .int [.bl a] = some (.int (if a then 1 else 0)) := (rfl)
@[simp] theorem isNon_int (i : Int) : isNonD (.int i) = false := (rfl)
@[simp] theorem isNon_tup (i : List D) : isNonD (.tup i) = false := (rfl)
@[simp] theorem isNon_non : isNonD .non = true := (rfl)
@[simp] theorem items_zip_tup (xs ys : List D) : itemsOf st .zip [.tup xs, .tup ys] = some ((xs.zip ys).map fun p => .tup [p.1, p.2]) := (rfl)
@[simp] theorem walked_zip_tup (xs ys : List D) : walked .zip [.tup xs, .tup ys] = [] := (rfl)
@[simp] theorem o_sum_lst (xs : List D) : opD st .sum [.lst xs] = (intsD xs).map fun ns => .int ns.sum := (rfl)
@[simp] theorem intsD_nil : intsD [] = some [] := (rfl)
@[simp] theorem intsD_cons (i : Int) (xs : List D) : intsD (.int i :: xs) = (intsD xs).map (i :: ·) := (rfl)
theorem intsD_map (ns : List Int) : intsD (ns.map .int) = some ns := by
  induction ns with
  | nil => rfl
  | cons n ns ih => rw [List.map_cons, intsD_cons, ih]; rfl
/-- each item by itself -/
theorem comp_map {ex c e : Ex} {v : Nat} {xs : List D} {d : D} {s0 : Store} (f : D → D) (he : den cf gl ex r s0 = .ok d s0) (hd : isSeq s0 d = some xs) (hc : ∀ x ∈ xs, den cf gl c ((r.set v none).set v (some x)) s0 = .ok (.bl true) s0)
    (hs : ∀ x ∈ xs, den cf gl e ((r.set v none).set v (some x)) s0 = .ok (f x) s0) (hl : xs.length ≤ 10000) : den cf gl (.comp .seq [ex] [v] c e) r s0 = .ok (.lst (xs.map f)) s0 := by
  have e1 : itemsOf s0 .seq [d] = some xs := hd
  rw [den_comp]
  simp only [dens_cons, dens_nil, he, rbind_ok]
  rw [e1]
  simp only [bindC_one, wipe_one]
  refine Eq.trans (congrArg (fun z : Res (List D) => z.bind fun ys st2 => if ys.length < sizeLine then Res.ok (D.lst ys) st2 else .stuck) (compL_map f fun x hx => ?_)) ?_
  · simp only [hc x hx, rbind_ok, truth_bl, hs x hx]
  · exact if_pos (size_small _ (by rw [List.length_map]; exact hl))

/-! ### tuples of whole numbers -/
def tpl (ns : List Int) : D := .tup (ns.map .int)
theorem tpl_def (ns : List Int) : tpl ns = .tup (ns.map .int) := rfl
theorem fold1 (a : Int) : D.tup [.int a] = tpl [a] := rfl
theorem fold2 (a b : Int) : D.tup [.int a, .int b] = tpl [a, b] := rfl
theorem fold3 (a b c : Int) : D.tup [.int a, .int b, .int c] = tpl [a, b, c] := rfl
theorem fold4 (a b c d : Int) : D.tup [.int a, .int b, .int c, .int d] = tpl [a, b, c, d] := rfl
theorem foldm (ns : List Int) : D.tup (ns.map .int) = tpl ns := rfl
@[simp] theorem pureAll_ints : ∀ ns : List Int, pureAll (ns.map .int) = true
  | [] => by simp only [List.map_nil, pureAll]
  | n :: ns => by simp [pureAll_ints ns]
@[simp] theorem pure_tpl (ns : List Int) : (tpl ns).pure = true := by simp [tpl]
@[simp] theorem seq_tpl (ns : List Int) : isSeq st (tpl ns) = some (ns.map .int) := (rfl)
@[simp] theorem items_tpl (ns : List Int) : itemsOf st .seq [tpl ns] = some (ns.map .int) := (rfl)
@[simp] theorem walked_tpl (ns : List Int) : walked .seq [tpl ns] = [] := (rfl)
@[simp] theorem len_tpl (ns : List Int) : opD st .len [tpl ns] = some (.int ns.length) := by
  show some (D.int ((ns.map D.int).length : Int)) = _
  rw [List.length_map]
theorem atI_map (ns : List Int) (i : Int) : atI (ns.map D.int) i = (atI ns i).map .int := by
  unfold atI
  rw [List.length_map]
  cases ixN ns.length i with
  | none => rfl
  | some j => simp
@[simp] theorem idx_tpl (ns : List Int) (i : Int) : opD st .idx [tpl ns, .int i] = (atI ns i).map .int := atI_map ns i
@[simp] theorem eq_tpl (a b : List Int) : eqD st (tpl a) (tpl b) = some (decide (a = b)) := eqD_ints a b
@[simp] theorem isT2_tpl (ns : List Int) : isType 2 (tpl ns) = true := (rfl)
@[simp] theorem isNon_tpl (ns : List Int) : isNonD (tpl ns) = false := (rfl)
@[simp] theorem bind_tpl (ts : List Lv) (ns : List Int) : bindL cf gl (.tp ts) (tpl ns) r st = bindLs cf gl ts (ns.map .int) r st := by
  rw [tpl_def, bindL_tp]
theorem tuple_ints (ns : List Int) : opD st .tuple [.lst (ns.map .int)] = some (tpl ns) := (rfl)
@[simp] theorem items_zip_tpl (a b : List Int) : itemsOf st .zip [tpl a, tpl b] = some (((a.map D.int).zip (b.map D.int)).map fun p => .tup [p.1, p.2]) := (rfl)
@[simp] theorem walked_zip_tpl (a b : List Int) : walked .zip [tpl a, tpl b] = [] := (rfl)
end
/-! texts -/
def shw (d : D) : Str := match d.py with
  | some p => p.shown
  | none => Str.empty
def Rp (d : D) (c : Nat) : Prop := ∃ p, d.py = some p ∧ plainP p = true ∧ cost p ≤ c ∧ p.depth ≤ 10
theorem Rp.mono {d : D} {c c' : Nat} (h : Rp d c) (hc : c ≤ c') : Rp d c' := by
  obtain ⟨p, h1, h2, h3, h4⟩ := h
  exact ⟨p, h1, h2, Nat.le_trans h3 hc, h4⟩
theorem o_repr {st : Store} {d : D} {c : Nat} (h : Rp d c) (hc : c ≤ 100000) : opD st .repr [d] = some (.str (shw d)) := by
  obtain ⟨p, h1, h2, h3, h4⟩ := h
  have e : pyOf st d = some p := by
    cases d <;> first | exact h1 | (simp only [D.py] at h1; cases h1)
  have e2 : shw d = p.shown := by unfold shw; rw [h1]
  simp only [opD, e, e2]
  exact if_pos ⟨h2, Nat.le_trans h3 (Nat.le_trans hc (by decide)), Nat.le_trans h4 (by decide)⟩
theorem Rp.bl (b : Bool) : Rp (.bl b) 5 := ⟨.bool b, rfl, by simp [plainP], by simp [cost], by simp [PyData.depth]⟩
theorem Rp.non : Rp .non 5 := ⟨.none, rfl, by simp [plainP], by simp [cost], by simp [PyData.depth]⟩
theorem Rp.int {i : Int} (h : Bd 1900 i) : Rp (.int i) 1921 := ⟨.int i, rfl, by simp [plainP, h], by simp [cost], by simp [PyData.depth]⟩
/-- parts whose texts may be asked -/
def Rps (ds : List D) (c : Nat) (k : Nat) : Prop := ∃ ps, pys ds = some ps ∧ plainPs ps = true ∧ costs ps ≤ c ∧ PyData.depthAll ps ≤ k
theorem Rps.nil (k : Nat) : Rps [] 0 k := ⟨[], rfl, by simp [plainPs], by simp [costs], by simp [PyData.depthAll]⟩
theorem Rps.cons {d : D} {ds : List D} {c c' k : Nat} (h : ∃ p, d.py = some p ∧ plainP p = true ∧ cost p ≤ c ∧ p.depth ≤ k) (hs : Rps ds c' k) : Rps (d :: ds) (c + 2 + c') k := by
  obtain ⟨p, h1, h2, h3, h4⟩ := h
  obtain ⟨ps, g1, g2, g3, g4⟩ := hs
  refine ⟨p :: ps, by simp only [pys, h1, g1], by simp only [plainPs, h2, g2, Bool.and_self], ?_, ?_⟩
  · simp only [costs]; omega
  · simp only [PyData.depthAll]; omega
def RpK (d : D) (c k : Nat) : Prop := ∃ p, d.py = some p ∧ plainP p = true ∧ cost p ≤ c ∧ p.depth ≤ k
theorem RpK.tup {ds : List D} {c k : Nat} (h : Rps ds c k) : RpK (.tup ds) (c + 3) (k + 1) := by
  obtain ⟨ps, g1, g2, g3, g4⟩ := h
  refine ⟨.tuple ps, by simp only [D.py, g1, Option.map], by simp only [plainP, g2], ?_, ?_⟩
  · simp only [cost]; omega
  · simp only [PyData.depth]; omega
theorem RpK.lst {ds : List D} {c k : Nat} (h : Rps ds c k) : RpK (.lst ds) (c + 2) (k + 1) := by
  obtain ⟨ps, g1, g2, g3, g4⟩ := h
  refine ⟨.list ps, by simp only [D.py, g1, Option.map], by simp only [plainP, g2], ?_, ?_⟩
  · simp only [cost]; omega
  · simp only [PyData.depth]; omega
theorem RpK.int {i : Int} (h : Bd 1900 i) (k : Nat) : RpK (.int i) 1921 k := ⟨.int i, rfl, by simp [plainP, h], by simp [cost], by simp [PyData.depth]⟩
theorem RpK.bl (b : Bool) (k : Nat) : RpK (.bl b) 5 k := ⟨.bool b, rfl, by simp [plainP], by simp [cost], by simp [PyData.depth]⟩
theorem RpK.non (k : Nat) : RpK .non 5 k := ⟨.none, rfl, by simp [plainP], by simp [cost], by simp [PyData.depth]⟩
theorem RpK.mono {d : D} {c k c' k' : Nat} (h : RpK d c k) (hc : c ≤ c') (hk : k ≤ k') : RpK d c' k' := by
  obtain ⟨p, h1, h2, h3, h4⟩ := h
  exact ⟨p, h1, h2, Nat.le_trans h3 hc, Nat.le_trans h4 hk⟩
theorem RpK.rp {d : D} {c k : Nat} (h : RpK d c k) (hk : k ≤ 10) : Rp d c := by
  obtain ⟨p, h1, h2, h3, h4⟩ := h
  exact ⟨p, h1, h2, h3, Nat.le_trans h4 hk⟩
theorem Rps.ints {k : Nat} : ∀ {ns : List Int}, (∀ n ∈ ns, Bd 1900 n) → Rps (ns.map .int) (1923 * ns.length) k
  | [], _ => Rps.nil k
  | n :: ns, h => by
    have := Rps.cons (RpK.int (h n List.mem_cons_self) k) (Rps.ints (ns := ns) (k := k) fun m hm => h m (List.mem_cons_of_mem _ hm))
    have e : 1921 + 2 + 1923 * ns.length = 1923 * (n :: ns).length := by rw [List.length_cons]; omega
    rw [e] at this
    exact this
theorem RpK.tpl {ns : List Int} (h : ∀ n ∈ ns, Bd 1900 n) : RpK (tpl ns) (1923 * ns.length + 3) 1 := RpK.tup (Rps.ints h)
end L3

set_option maxHeartbeats 1000000
/-! ### rows of whole numbers, reduced -/
namespace Vec
def gcdL : List Int → Nat
  | [] => 0
  | n :: ns => Nat.gcd n.natAbs (gcdL ns)
theorem gcd_fold : ∀ (ns : List Int) (g : Nat), ns.foldl (fun g x => Nat.gcd g x.natAbs) g = Nat.gcd g (gcdL ns)
  | [], g => by simp [gcdL]
  | n :: ns, g => by
    rw [List.foldl_cons, gcd_fold ns, gcdL, Nat.gcd_assoc]
def scale (k : Int) (ns : List Int) : List Int := ns.map (k * ·)
def neg (ns : List Int) : List Int := ns.map (- ·)
def red (ns : List Int) : List Int := ns.map (· / (gcdL ns : Int))
def Zer (ns : List Int) : Prop := ∀ n ∈ ns, n = 0
instance (ns : List Int) : Decidable (Zer ns) := inferInstanceAs (Decidable (∀ n ∈ ns, n = 0))
theorem gcdL_dvd : ∀ {ns : List Int} {n : Int}, n ∈ ns → gcdL ns ∣ n.natAbs
  | m :: ns, n, h => by
    rcases List.mem_cons.mp h with rfl | h
    · exact Nat.gcd_dvd_left _ _
    · exact Nat.dvd_trans (Nat.gcd_dvd_right _ _) (gcdL_dvd h)
theorem gcdL_zero : ∀ {ns : List Int}, gcdL ns = 0 ↔ Zer ns
  | [] => by simp [gcdL, Zer]
  | n :: ns => by
    rw [gcdL, Nat.gcd_eq_zero_iff, gcdL_zero (ns := ns)]
    simp [Zer]
theorem gcdL_pos {ns : List Int} (h : ¬ Zer ns) : 0 < gcdL ns := Nat.pos_of_ne_zero fun e => h (gcdL_zero.mp e)
theorem gcdL_scale (k : Int) : ∀ ns : List Int, gcdL (scale k ns) = k.natAbs * gcdL ns
  | [] => by simp [scale, gcdL]
  | n :: ns => by
    have ih := gcdL_scale k ns
    show Nat.gcd (k * n).natAbs (gcdL (scale k ns)) = _
    rw [ih, Int.natAbs_mul, Nat.gcd_mul_left, gcdL]
theorem neg_scale (ns : List Int) : neg ns = scale (-1) ns := by
  unfold neg scale
  exact List.map_congr_left fun n _ => by omega
theorem gcdL_neg (ns : List Int) : gcdL (neg ns) = gcdL ns := by rw [neg_scale, gcdL_scale]; simp
theorem neg_neg (ns : List Int) : neg (neg ns) = ns := by
  unfold neg
  rw [List.map_map]
  conv => rhs; rw [← List.map_id ns]
  exact List.map_congr_left fun n _ => by simp
theorem Zer.scale {k : Int} {ns : List Int} (hk : k ≠ 0) : Zer (scale k ns) ↔ Zer ns := by
  rw [← gcdL_zero, ← gcdL_zero, gcdL_scale]
  constructor
  · intro h
    rcases Nat.mul_eq_zero.mp h with h | h
    · omega
    · exact h
  · intro h; rw [h, Nat.mul_zero]
theorem red_len (ns : List Int) : (red ns).length = ns.length := by unfold red; rw [List.length_map]
theorem scale_red (ns : List Int) : scale (gcdL ns) (red ns) = ns := by
  unfold scale red
  rw [List.map_map]
  conv => rhs; rw [← List.map_id ns]
  refine List.map_congr_left fun n hn => ?_
  show (gcdL ns : Int) * (n / (gcdL ns : Int)) = n
  exact Int.mul_ediv_cancel' (Int.ofNat_dvd_left.mpr (gcdL_dvd hn))
theorem gcdL_red {ns : List Int} (h : ¬ Zer ns) : gcdL (red ns) = 1 := by
  have e := gcdL_scale (gcdL ns) (red ns)
  rw [scale_red, Int.natAbs_natCast] at e
  have hp := gcdL_pos h
  have : gcdL ns * 1 = gcdL ns * gcdL (red ns) := by rw [Nat.mul_one]; exact e
  exact (Nat.eq_of_mul_eq_mul_left hp this).symm
theorem red_zer {ns : List Int} (h : ¬ Zer ns) : ¬ Zer (red ns) := fun z => by
  have := gcdL_red h
  rw [gcdL_zero.mpr z] at this
  cases this
theorem red_scale {k : Int} (hk : 0 < k) (ns : List Int) : red (scale k ns) = red ns := by
  unfold red
  rw [gcdL_scale]
  unfold scale
  rw [List.map_map]
  refine List.map_congr_left fun n hn => ?_
  show k * n / ((k.natAbs * gcdL ns : Nat) : Int) = _
  rw [Int.natCast_mul, Int.natAbs_of_nonneg (Int.le_of_lt hk)]
  exact Int.mul_ediv_mul_of_pos _ _ hk
theorem red_neg (ns : List Int) : red (neg ns) = neg (red ns) := by
  unfold red
  rw [gcdL_neg]
  unfold neg
  rw [List.map_map, List.map_map]
  refine List.map_congr_left fun n hn => ?_
  show -n / (gcdL ns : Int) = -(n / (gcdL ns : Int))
  exact Int.neg_ediv_of_dvd (Int.ofNat_dvd_left.mpr (gcdL_dvd hn))
theorem red_unit {ns : List Int} (h : gcdL ns = 1) : red ns = ns := by
  unfold red
  rw [h]
  conv => rhs; rw [← List.map_id ns]
  exact List.map_congr_left fun n _ => by simp
theorem red_red {ns : List Int} (h : ¬ Zer ns) : red (red ns) = red ns := red_unit (gcdL_red h)
/-- what is along is reduced alike -/
theorem red_along {a b : Int} {v w : List Int} (ha : 0 < a) (hb : 0 < b) (e : scale a v = scale b w) : red v = red w := by
  rw [← red_scale ha v, e, red_scale hb]
theorem gcdL_le {ns : List Int} {b : Nat} (h : ¬ Zer ns) (hb : ∀ n ∈ ns, n.natAbs ≤ b) : gcdL ns ≤ b := by
  have : ∃ n ∈ ns, n ≠ 0 := by
    refine Classical.byContradiction fun z => h fun n hn => Classical.byContradiction fun q => z ⟨n, hn, q⟩
  obtain ⟨n, hn, h0⟩ := this
  exact Nat.le_trans (Nat.le_of_dvd (by omega) (gcdL_dvd hn)) (hb n hn)
theorem red_le {ns : List Int} {n : Int} {b : Nat} (h : n ∈ red ns) (hb : ∀ n ∈ ns, n.natAbs ≤ b) : n.natAbs ≤ b := by
  unfold red at h
  obtain ⟨m, hm, rfl⟩ := List.mem_map.mp h
  rw [Int.natAbs_ediv_of_dvd (Int.ofNat_dvd_left.mpr (gcdL_dvd hm))]
  exact Nat.le_trans (Nat.div_le_self _ _) (hb m hm)
theorem gcdL_max (ns : List Int) : (if (gcdL ns : Int) > 1 then (gcdL ns : Int) else 1) = ((max 1 (gcdL ns) : Nat) : Int) := by
  split <;> omega
/-! signs -/
def sg (n : Int) : Int := if 0 < n then 1 else if n < 0 then -1 else 0
theorem sg_mul_pos {k : Int} (hk : 0 < k) (n : Int) : sg (k * n) = sg n := by
  unfold sg
  rcases Int.lt_trichotomy n 0 with h | h | h
  · have := Int.mul_neg_of_pos_of_neg hk h
    simp [h, this, Int.not_lt.mpr (Int.le_of_lt h), Int.not_lt.mpr (Int.le_of_lt this)]
  · subst h; simp
  · have := Int.mul_pos hk h
    simp [h, this]
theorem sg_neg (n : Int) : sg (-n) = -sg n := by
  unfold sg
  rcases Int.lt_trichotomy n 0 with h | h | h
  · simp [h, Int.not_lt.mpr (Int.le_of_lt h), Int.neg_pos.mpr h]
  · subst h; simp
  · have : -n < 0 := by omega
    simp [h, this, Int.not_lt.mpr (Int.le_of_lt this)]
    omega
end Vec

set_option maxHeartbeats 2000000
namespace L3
open L2 PySem PySem.Spec PyProof.Rows
section
variable {st : Store}
@[simp] theorem idx_loc0 (xs : List D) (i : Int) : opD (xs :: st) .idx [.loc 0, .int i] = atI xs i := (rfl)
@[simp] theorem set_0 (a b c d : D) : setD ([a, b, c] :: st) (.loc 0) (.int 0) d = if d.pure = true then some ([d, b, c] :: st) else none := (rfl)
@[simp] theorem set_1 (a b c d : D) : setD ([a, b, c] :: st) (.loc 0) (.int 1) d = if d.pure = true then some ([a, d, c] :: st) else none := (rfl)
@[simp] theorem set_2 (a b c d : D) : setD ([a, b, c] :: st) (.loc 0) (.int 2) d = if d.pure = true then some ([a, b, d] :: st) else none := (rfl)
theorem after_cons {xs ys : List D} {d : D} (hp : d.pure = true) : after (xs :: st) (.ok d (ys :: st)) = .ok d (ys :: st) := after_ok rfl hp
@[simp] theorem after_cons_int {xs ys : List D} {i : Int} : after (xs :: st) (.ok (.int i) (ys :: st)) = .ok (.int i) (ys :: st) := after_ok rfl (by simp)
@[simp] theorem after_cons_bl {xs ys : List D} {i : Bool} : after (xs :: st) (.ok (.bl i) (ys :: st)) = .ok (.bl i) (ys :: st) := after_ok rfl (by simp)
end
/-- the drawing's spring -/
def Spr (b : Nat) (xs : List D) : Prop := ∃ x y z : Int, xs = [.int x, .int y, .int z] ∧ 0 ≤ x ∧ 0 ≤ y ∧ y < 10000000000 ∧ 0 ≤ z ∧ z ≤ b
theorem bd_small {x : Int} {n : Nat} (h0 : 0 ≤ x) (h : x ≤ n) (hn : n ≤ 1000000000000000000) : Bd 4000 x := by
  refine Nat.lt_of_le_of_lt (m := 2 ^ 60) (by omega) (Nat.pow_lt_pow_right (by decide) (by decide))
theorem Spr.mono {b c : Nat} {xs : List D} (h : Spr b xs) (hc : b ≤ c) : Spr c xs := by
  obtain ⟨x, y, z, e, h1, h2, h3, h4, h5⟩ := h
  exact ⟨x, y, z, e, h1, h2, h3, h4, by omega⟩
theorem mem_cut {xs : List D} {a b : Option Int} {i : Nat} {x : D} (h : (cutD xs a b)[i]? = some x) : x ∈ xs := List.mem_of_mem_drop (List.mem_of_mem_take (List.mem_of_getElem? h))
theorem bools_rep : ∀ m : Nat, boolsD (List.replicate m (.bl true)) = some (List.replicate m true)
  | 0 => rfl
  | m + 1 => by simp [List.replicate_succ, bools_rep m]

/-! lists of the store -/
section
variable {st : Store}
@[simp] theorem idx_loc (n : Nat) (i : Int) : opD st .idx [.loc n, .int i] = (match st[n]? with | some xs => atI xs i | none => none) := by
  cases h : st[n]? <;> simp only [opD, isSeq, h]
@[simp] theorem tuple_loc (n : Nat) : opD st .tuple [.loc n] = (st[n]?).map .tup := (rfl)
@[simp] theorem len_loc (n : Nat) : opD st .len [.loc n] = (st[n]?).map fun xs => .int xs.length := (rfl)
theorem setD_of {n : Nat} {xs : List D} {i : Int} {j : Nat} {d : D} (h : st[n]? = some xs) (hj : ixN xs.length i = some j) (hp : d.pure = true) : setD st (.loc n) (.int i) d = some (st.set n (xs.set j d)) := by
  simp only [setD, h, hj, hp, if_true]
theorem setD3_0 {n : Nat} {a b c d : D} (h : st[n]? = some [a, b, c]) (hp : d.pure = true) : setD st (.loc n) (.int 0) d = some (st.set n [d, b, c]) := setD_of (j := 0) h rfl hp
theorem setD3_1 {n : Nat} {a b c d : D} (h : st[n]? = some [a, b, c]) (hp : d.pure = true) : setD st (.loc n) (.int 1) d = some (st.set n [a, d, c]) := setD_of (j := 1) h rfl hp
theorem setD3_2 {n : Nat} {a b c d : D} (h : st[n]? = some [a, b, c]) (hp : d.pure = true) : setD st (.loc n) (.int 2) d = some (st.set n [a, b, d]) := setD_of (j := 2) h rfl hp
theorem eq_loc_lst {n : Nat} {a b : List Int} (h : st[n]? = some (a.map .int)) : eqD st (.loc n) (.lst (b.map .int)) = some (decide (a = b)) := by
  simp only [eqD, strD, eqP, pyOf, h, D.py, pys_ints, Option.map, shaped_intsL, and_self, if_true, PyData.eqv, eqv_ints]
theorem eq_loc3 {n : Nat} {a b c d e f : Int} (h : st[n]? = some [.int a, .int b, .int c]) : eqD st (.loc n) (.lst [.int d, .int e, .int f]) = some (decide (a = d ∧ b = e ∧ c = f)) := by
  have := eq_loc_lst (st := st) (n := n) (a := [a, b, c]) (b := [d, e, f]) h
  simpa using this
theorem eq_lst3 {a b c d e f : Int} : eqD st (.lst [.int a, .int b, .int c]) (.lst [.int d, .int e, .int f]) = some (decide (a = d ∧ b = e ∧ c = f)) := by
  have := eqD_intsL (st := st) [a, b, c] [d, e, f]
  simpa using this
theorem after_ex {rest ex : Store} {xs xs' : List D} {d : D} (hp : d.pure = true) : after (xs :: rest) (.ok d (xs' :: (rest ++ ex))) = .ok d (xs' :: rest) := by
  simp only [after, fz_pure _ _ _ hp, List.length_cons, List.take_succ_cons, List.take_left']
theorem refD_at {ys : List D} (hp : pureAll ys = true) : refD st (.lst ys) = .ok (.loc st.length) (st ++ [ys]) := by
  simp only [refD, hp, if_true]
end
end L3

set_option maxHeartbeats 1000000
/-! ### rays and planes: rows of three -/
namespace Vec
open L3
def dot : List Int → List Int → Int
  | [a, b, c], [x, y, z] => a * x + b * y + c * z
  | _, _ => 0
def cross : List Int → List Int → List Int
  | [a, b, c], [x, y, z] => [b * z - c * y, c * x - a * z, a * y - b * x]
  | _, _ => []
def T3 (v : List Int) : Prop := ∃ a b c, v = [a, b, c]
theorem T3.of {v : List Int} (h : v.length = 3) : T3 v := by
  match v, h with
  | [a, b, c], _ => exact ⟨a, b, c, rfl⟩
theorem T3.len {v : List Int} (h : T3 v) : v.length = 3 := by obtain ⟨a, b, c, rfl⟩ := h; rfl
theorem T3.red {v : List Int} (h : T3 v) : T3 (red v) := T3.of (by rw [red_len]; exact h.len)
theorem T3.neg {v : List Int} (h : T3 v) : T3 (neg v) := T3.of (by unfold Vec.neg; rw [List.length_map]; exact h.len)
theorem T3.scale {v : List Int} (k : Int) (h : T3 v) : T3 (scale k v) := T3.of (by unfold Vec.scale; rw [List.length_map]; exact h.len)
theorem T3.cross {v w : List Int} (h : T3 v) (k : T3 w) : T3 (cross v w) := by
  obtain ⟨a, b, c, rfl⟩ := h
  obtain ⟨x, y, z, rfl⟩ := k
  exact ⟨_, _, _, rfl⟩
/-- numbers within 2 ^ e -/
def Bs (e : Nat) (v : List Int) : Prop := ∀ k ∈ v, k.natAbs ≤ 2 ^ e
theorem Bs.mono {e f : Nat} {v : List Int} (h : Bs e v) (hf : e ≤ f) : Bs f v := fun k hk => Nat.le_trans (h k hk) (Nat.pow_le_pow_right (by decide) hf)
theorem Bs.red {e : Nat} {v : List Int} (h : Bs e v) : Bs e (red v) := fun k hk => red_le hk h
theorem Bs.neg {e : Nat} {v : List Int} (h : Bs e v) : Bs e (neg v) := fun k hk => by
  obtain ⟨m, hm, rfl⟩ := List.mem_map.mp hk
  rw [Int.natAbs_neg]; exact h m hm
theorem Bs.bd {e m : Nat} {v : List Int} (h : Bs e v) (he : e < m) {k : Int} (hk : k ∈ v) : Bd m k := Nat.lt_of_le_of_lt (h k hk) (Nat.pow_lt_pow_right (by decide) he)
theorem mul_le' {a b : Int} {e f : Nat} (h1 : a.natAbs ≤ 2 ^ e) (h2 : b.natAbs ≤ 2 ^ f) : (a * b).natAbs ≤ 2 ^ (e + f) := by
  rw [Int.natAbs_mul, Nat.pow_add]; exact Nat.mul_le_mul h1 h2
theorem Bs.cross {e f : Nat} {v w : List Int} (h : Bs e v) (k : Bs f w) : Bs (e + f + 1) (cross v w) := by
  unfold Vec.cross
  split
  · rename_i a b c x y z
    have ha := h a (by simp); have hb := h b (by simp); have hc := h c (by simp)
    have kx := k x (by simp); have ky := k y (by simp); have kz := k z (by simp)
    have p : (2 : Nat) ^ (e + f + 1) = 2 ^ (e + f) + 2 ^ (e + f) := by rw [Nat.pow_succ]; omega
    intro m hm
    rw [p]
    have s : ∀ p q : Int, p.natAbs ≤ 2 ^ (e + f) → q.natAbs ≤ 2 ^ (e + f) → (p - q).natAbs ≤ 2 ^ (e + f) + 2 ^ (e + f) := fun p q hp hq => by omega
    simp at hm
    rcases hm with rfl | rfl | rfl
    · exact s _ _ (mul_le' hb kz) (mul_le' hc ky)
    · exact s _ _ (mul_le' hc kx) (mul_le' ha kz)
    · exact s _ _ (mul_le' ha ky) (mul_le' hb kx)
  · intro k hk; cases hk
theorem Bs.dot {e f : Nat} {v w : List Int} (h : Bs e v) (k : Bs f w) : (dot v w).natAbs ≤ 2 ^ (e + f + 2) := by
  unfold Vec.dot
  split
  · rename_i a b c x y z
    have h1 := mul_le' (h a (by simp)) (k x (by simp)); have h2 := mul_le' (h b (by simp)) (k y (by simp)); have h3 := mul_le' (h c (by simp)) (k z (by simp))
    have p : (2 : Nat) ^ (e + f + 2) = 4 * 2 ^ (e + f) := by rw [Nat.pow_add]; omega
    rw [p]
    omega
  · exact Nat.zero_le _
theorem dot_scaleL (k : Int) {v w : List Int} (h : T3 v) (g : T3 w) : dot (scale k v) w = k * dot v w := by
  obtain ⟨a, b, c, rfl⟩ := h
  obtain ⟨x, y, z, rfl⟩ := g
  simp only [scale, List.map_cons, List.map_nil, dot]; grind
theorem dot_comm {v w : List Int} (h : T3 v) (g : T3 w) : dot v w = dot w v := by
  obtain ⟨a, b, c, rfl⟩ := h
  obtain ⟨x, y, z, rfl⟩ := g
  simp only [dot]; grind
theorem dot_scaleR (k : Int) {v w : List Int} (h : T3 v) (g : T3 w) : dot v (scale k w) = k * dot v w := by
  rw [dot_comm h (g.scale k), dot_scaleL k g h, dot_comm h g]
theorem dot_negL {v w : List Int} (h : T3 v) (g : T3 w) : dot (neg v) w = -dot v w := by rw [neg_scale, dot_scaleL _ h g]; omega
theorem dot_negR {v w : List Int} (h : T3 v) (g : T3 w) : dot v (neg w) = -dot v w := by rw [neg_scale, dot_scaleR _ h g]; omega
theorem cross_scaleL (k : Int) {v w : List Int} (h : T3 v) (g : T3 w) : cross (scale k v) w = scale k (cross v w) := by
  obtain ⟨a, b, c, rfl⟩ := h
  obtain ⟨x, y, z, rfl⟩ := g
  simp only [scale, List.map_cons, List.map_nil, cross, List.cons.injEq, and_true]
  refine ⟨?_, ?_, ?_⟩ <;> grind
theorem cross_scaleR (k : Int) {v w : List Int} (h : T3 v) (g : T3 w) : cross v (scale k w) = scale k (cross v w) := by
  obtain ⟨a, b, c, rfl⟩ := h
  obtain ⟨x, y, z, rfl⟩ := g
  simp only [scale, List.map_cons, List.map_nil, cross, List.cons.injEq, and_true]
  refine ⟨?_, ?_, ?_⟩ <;> grind
theorem cross_anti {v w : List Int} (h : T3 v) (g : T3 w) : cross w v = neg (cross v w) := by
  obtain ⟨a, b, c, rfl⟩ := h
  obtain ⟨x, y, z, rfl⟩ := g
  simp only [neg, List.map_cons, List.map_nil, cross, List.cons.injEq, and_true]
  refine ⟨?_, ?_, ?_⟩ <;> grind
/-- the side does not hang on the lengths -/
theorem sg_red {v w : List Int} (h : T3 v) (g : T3 w) (hv : ¬ Zer v) (hw : ¬ Zer w) : sg (dot (red v) (red w)) = sg (dot v w) := by
  have a : (0 : Int) < (gcdL v : Int) := by have := gcdL_pos hv; omega
  have b : (0 : Int) < (gcdL w : Int) := by have := gcdL_pos hw; omega
  have e : dot v w = (gcdL v : Int) * ((gcdL w : Int) * dot (red v) (red w)) := by
    rw [← dot_scaleR _ h.red g.red, ← dot_scaleL _ h.red (g.red.scale _), scale_red, scale_red]
  rw [e, sg_mul_pos a, sg_mul_pos b]
theorem sg_red1 {v w : List Int} (h : T3 v) (g : T3 w) (hv : ¬ Zer v) : sg (dot (red v) w) = sg (dot v w) := by
  have a : (0 : Int) < (gcdL v : Int) := by have := gcdL_pos hv; omega
  have e : dot v w = (gcdL v : Int) * dot (red v) w := by
    rw [← dot_scaleL _ h.red g, scale_red]
  rw [e, sg_mul_pos a]
end Vec

set_option maxHeartbeats 1000000
/-! ### hours: pairs along a direction, reduced -/
namespace Vec
open L3
def T2 (v : List Int) : Prop := ∃ a b, v = [a, b]
theorem T2.of {v : List Int} (h : v.length = 2) : T2 v := by
  match v, h with
  | [a, b], _ => exact ⟨a, b, rfl⟩
theorem T2.len {v : List Int} (h : T2 v) : v.length = 2 := by obtain ⟨a, b, rfl⟩ := h; rfl
theorem T2.red {v : List Int} (h : T2 v) : T2 (red v) := T2.of (by rw [red_len]; exact h.len)
def hm : List Int → List Int → List Int
  | [a, b], [c, d] => [a * c - b * d, a * d + b * c]
  | _, _ => []
theorem T2.hm {v w : List Int} (h : T2 v) (g : T2 w) : T2 (hm v w) := by
  obtain ⟨a, b, rfl⟩ := h
  obtain ⟨c, d, rfl⟩ := g
  exact ⟨_, _, rfl⟩
theorem hm_scaleL (k : Int) {v w : List Int} (h : T2 v) (g : T2 w) : hm (scale k v) w = scale k (hm v w) := by
  obtain ⟨a, b, rfl⟩ := h
  obtain ⟨c, d, rfl⟩ := g
  simp only [scale, List.map_cons, List.map_nil, hm, List.cons.injEq, and_true]
  refine ⟨?_, ?_⟩ <;> grind
theorem hm_comm {v w : List Int} (h : T2 v) (g : T2 w) : hm v w = hm w v := by
  obtain ⟨a, b, rfl⟩ := h
  obtain ⟨c, d, rfl⟩ := g
  simp only [hm, List.cons.injEq, and_true]
  refine ⟨?_, ?_⟩ <;> grind
theorem hm_assoc {u v w : List Int} (f : T2 u) (h : T2 v) (g : T2 w) : hm (hm u v) w = hm u (hm v w) := by
  obtain ⟨x, y, rfl⟩ := f
  obtain ⟨a, b, rfl⟩ := h
  obtain ⟨c, d, rfl⟩ := g
  simp only [hm, List.cons.injEq, and_true]
  refine ⟨?_, ?_⟩ <;> grind
/-- an hour: a reduced pair -/
def Hr (v : List Int) : Prop := T2 v ∧ gcdL v = 1
theorem Hr.nz {v : List Int} (h : Hr v) : ¬ Zer v := fun z => by
  have := h.2
  rw [gcdL_zero.mpr z] at this; cases this
theorem Hr.red {v : List Int} (h : T2 v) (hz : ¬ Zer v) : Hr (red v) := ⟨h.red, gcdL_red hz⟩
theorem hm_nz {v w : List Int} (h : T2 v) (g : T2 w) (hv : ¬ Zer v) (hw : ¬ Zer w) : ¬ Zer (hm v w) := by
  obtain ⟨a, b, rfl⟩ := h
  obtain ⟨c, d, rfl⟩ := g
  intro z
  have z1 : a * c - b * d = 0 := z _ (by simp [hm])
  have z2 : a * d + b * c = 0 := z _ (by simp [hm])
  have e : (a * a + b * b) * (c * c + d * d) = 0 := by
    have : (a * a + b * b) * (c * c + d * d) = (a * c - b * d) * (a * c - b * d) + (a * d + b * c) * (a * d + b * c) := by grind
    rw [this, z1, z2]; rfl
  have sq : ∀ x : Int, 0 ≤ x * x := fun x => by
    rcases Int.le_total 0 x with q | q
    · exact Int.mul_nonneg q q
    · exact Int.mul_nonneg_of_nonpos_of_nonpos q q
  have zr : ∀ x y : Int, x * x + y * y = 0 → x = 0 ∧ y = 0 := fun x y q => by
    have := sq x; have := sq y
    exact ⟨by have : x * x = 0 := by omega
              exact (Int.mul_eq_zero.mp this).elim id id, by have : y * y = 0 := by omega
                                                             exact (Int.mul_eq_zero.mp this).elim id id⟩
  rcases Int.mul_eq_zero.mp e with q | q
  · obtain ⟨rfl, rfl⟩ := zr a b q
    exact hv (by intro k hk; simp at hk; exact hk)
  · obtain ⟨rfl, rfl⟩ := zr c d q
    exact hw (by intro k hk; simp at hk; exact hk)
def hj (v w : List Int) : List Int := red (hm v w)
theorem hj_hr {v w : List Int} (h : Hr v) (g : Hr w) : Hr (hj v w) := Hr.red (h.1.hm g.1) (hm_nz h.1 g.1 h.nz g.nz)
theorem hj_comm {v w : List Int} (h : T2 v) (g : T2 w) : hj v w = hj w v := by unfold hj; rw [hm_comm h g]
theorem red_hm {v w : List Int} (h : T2 v) (g : T2 w) (hz : ¬ Zer v) : red (hm (red v) w) = red (hm v w) := by
  have a : (0 : Int) < (gcdL v : Int) := by have := gcdL_pos hz; omega
  rw [← red_scale a (hm (red v) w), ← hm_scaleL _ h.red g, scale_red]
theorem hj_assoc {u v w : List Int} (f : Hr u) (h : Hr v) (g : Hr w) : hj (hj u v) w = hj u (hj v w) := by
  have e1 : hj (hj u v) w = red (hm (hm u v) w) := red_hm (f.1.hm h.1) g.1 (hm_nz f.1 h.1 f.nz h.nz)
  have e2 : hj u (hj v w) = red (hm (hm v w) u) := by
    rw [hj_comm f.1 (show T2 (hj v w) from (h.1.hm g.1).red)]
    exact red_hm (h.1.hm g.1) f.1 (hm_nz h.1 g.1 h.nz g.nz)
  rw [e1, e2, hm_comm (h.1.hm g.1) f.1, hm_assoc f.1 h.1 g.1]
def noon : List Int := [1, 0]
theorem noon_hr : Hr noon := ⟨⟨1, 0, rfl⟩, by decide⟩
theorem hj_noon {v : List Int} (h : Hr v) : hj v noon = v := by
  have e : hm v noon = v := by
    obtain ⟨⟨a, b, rfl⟩, _⟩ := h
    simp [hm, noon]
  unfold hj
  rw [e, red_unit h.2]
def hb : List Int → List Int
  | [a, b] => [a, -b]
  | v => v
theorem hb_hr {v : List Int} (h : Hr v) : Hr (hb v) := by
  obtain ⟨⟨a, b, rfl⟩, g⟩ := h
  refine ⟨⟨a, -b, rfl⟩, ?_⟩
  simpa [hb, gcdL, Int.natAbs_neg] using g
theorem hb_hb {v : List Int} (h : T2 v) : hb (hb v) = v := by
  obtain ⟨a, b, rfl⟩ := h
  simp [hb]
theorem hj_back {v : List Int} (h : Hr v) : hj v (hb v) = noon := by
  have hz := h.nz
  obtain ⟨⟨a, b, rfl⟩, g⟩ := h
  have sq : ∀ x : Int, 0 ≤ x * x := fun x => by
    rcases Int.le_total 0 x with q | q
    · exact Int.mul_nonneg q q
    · exact Int.mul_nonneg_of_nonpos_of_nonpos q q
  have pos : 0 < a * a + b * b := by
    have h1 := sq a; have h2 := sq b
    rcases Int.lt_or_eq_of_le (show 0 ≤ a * a + b * b by omega) with q | q
    · exact q
    · exfalso
      have ha : a * a = 0 := by omega
      have hb : b * b = 0 := by omega
      have ha' := (Int.mul_eq_zero.mp ha).elim id id
      have hb' := (Int.mul_eq_zero.mp hb).elim id id
      exact hz (by intro k hk; simp at hk; omega)
  have e : hm [a, b] (hb [a, b]) = scale (a * a + b * b) noon := by
    simp only [hm, hb, scale, noon, List.map_cons, List.map_nil, List.cons.injEq, and_true]
    refine ⟨?_, ?_⟩ <;> grind
  unfold hj
  rw [e, red_scale pos, red_unit noon_hr.2]
end Vec

set_option maxHeartbeats 2000000
/-! ### bounds and texts found by simp -/
namespace L3
open L2 PySem PySem.Spec PyProof.Rows Vec
theorem Bd.mono {n m : Nat} {i : Int} (h : Bd n i) (hm : n ≤ m) : Bd m i := Nat.lt_of_lt_of_le h (Nat.pow_le_pow_right (by decide) hm)
/-- an int of at most e bits -/
abbrev Sz (e : Nat) (i : Int) : Prop := ∀ n, e ≤ n → Bd n i
theorem Sz.of {e : Nat} {i : Int} (h : Bd e i) : Sz e i := fun _ hn => h.mono hn
theorem Sz.le {e : Nat} {i : Int} (h : i.natAbs ≤ 2 ^ e) : Sz (e + 1) i := .of (Nat.lt_of_le_of_lt h (Nat.pow_lt_pow_right (by decide) (Nat.lt_succ_self e)))
@[simp] theorem Bd_mul {n : Nat} {a b : Int} (h : Bd (n / 2) a) (k : Bd (n / 2) b) : Bd n (a * b) := by
  unfold Bd at h k ⊢
  rw [Int.natAbs_mul]
  refine Nat.lt_of_lt_of_le (Nat.mul_lt_mul_of_lt_of_le h (Nat.le_of_lt k) (Nat.pos_of_ne_zero fun e => ?_)) ?_
  · exact absurd e (Nat.ne_of_gt (Nat.pow_pos (by decide)))
  · rw [← Nat.pow_add]; exact Nat.pow_le_pow_right (by decide) (by omega)
theorem two_pow_pred (n : Nat) : 2 ^ (n - 1) + 2 ^ (n - 1) ≤ 2 ^ n ∨ n = 0 := by
  cases n with
  | zero => exact .inr rfl
  | succ m => left; rw [Nat.add_sub_cancel, Nat.pow_succ]; omega
@[simp] theorem Bd_add {n : Nat} {a b : Int} (h : Bd (n - 1) a) (k : Bd (n - 1) b) : Bd n (a + b) := by
  unfold Bd at h k ⊢
  rcases two_pow_pred n with p | rfl
  · omega
  · simp at h k ⊢; omega
@[simp] theorem Bd_sub {n : Nat} {a b : Int} (h : Bd (n - 1) a) (k : Bd (n - 1) b) : Bd n (a - b) := by
  unfold Bd at h k ⊢
  rcases two_pow_pred n with p | rfl
  · omega
  · simp at h k ⊢; omega
@[simp] theorem Bd_neg {n : Nat} {a : Int} : Bd n (-a) ↔ Bd n a := by unfold Bd; rw [Int.natAbs_neg]
@[simp] theorem Bd_natAbs {n : Nat} {a : Int} : Bd n ((a.natAbs : Nat) : Int) ↔ Bd n a := by unfold Bd; rw [Int.natAbs_natCast]
@[simp] theorem Bd_ite {n : Nat} {c : Prop} [Decidable c] {a b : Int} (h : Bd n a) (k : Bd n b) : Bd n (if c then a else b) := by split <;> assumption
@[simp] theorem Bd_div {n : Nat} {a b : Int} (h : Bd n a) : Bd n (a / b) := Nat.lt_of_le_of_lt (Int.natAbs_ediv_le_natAbs a b) h
@[simp] theorem Bd_lit {n k : Nat} (h : 64 ≤ n) (hk : k < 18446744073709551616) : Bd n (no_index (OfNat.ofNat k) : Int) := by
  refine Bd.mono (n := 64) ?_ h
  show k < 2 ^ 64
  exact hk
@[simp] theorem Bd_zero {n : Nat} : Bd n 0 := by show 0 < 2 ^ n; exact Nat.pow_pos (by decide)
@[simp] theorem Bd_one {n : Nat} (h : 1 ≤ n) : Bd n 1 := Bd.mono (n := 1) (by decide) h
@[simp] theorem Bd_sg {n : Nat} {a : Int} (h : 1 ≤ n) : Bd n (sg a) := Bd.mono (n := 1) (by unfold sg; split <;> (try split) <;> decide) h
/-- rows -/
def Bv (n : Nat) (v : List Int) : Prop := ∀ k ∈ v, Bd n k
abbrev Bw (e : Nat) (v : List Int) : Prop := ∀ n, e ≤ n → Bv n v
theorem Bv.mono {n m : Nat} {v : List Int} (h : Bv n v) (hm : n ≤ m) : Bv m v := fun k hk => (h k hk).mono hm
theorem Bw.of {e : Nat} {v : List Int} (h : Bv e v) : Bw e v := fun _ hn => h.mono hn
theorem Bv.bs {n : Nat} {v : List Int} (h : Bv n v) : Bs n v := fun k hk => Nat.le_of_lt (h k hk)
theorem Bw.bs {e : Nat} {v : List Int} (h : Bs e v) : Bw (e + 1) v := .of fun k hk => Sz.le (h k hk) _ (Nat.le_refl _)
theorem Bv.lt {v : List Int} (h : Bv 1000 v) : ∀ m ∈ v, m.natAbs < 2 ^ 1000 := h
@[simp] theorem Bv_nil {n : Nat} : Bv n [] := fun k hk => by cases hk
@[simp] theorem Bv_cons {n : Nat} {a : Int} {v : List Int} : Bv n (a :: v) ↔ Bd n a ∧ Bv n v := by unfold Bv; simp
@[simp] theorem Bv_red {n : Nat} {v : List Int} (h : Bv n v) : Bv n (red v) := fun k hk => by
  unfold red at hk
  obtain ⟨m, hm, rfl⟩ := List.mem_map.mp hk
  exact Bd_div (h m hm)
@[simp] theorem Bv_neg {n : Nat} {v : List Int} : Bv n (neg v) ↔ Bv n v := by unfold Bv neg; simp
@[simp] theorem Bv_scale {n : Nat} {k : Int} {v : List Int} (hk : Bd (n / 2) k) (h : Bv (n / 2) v) : Bv n (scale k v) := fun m hm => by
  obtain ⟨j, hj, rfl⟩ := List.mem_map.mp hm
  exact Bd_mul hk (h j hj)
@[simp] theorem Bv_cross {n : Nat} {v w : List Int} (h : Bv ((n - 1) / 2) v) (k : Bv ((n - 1) / 2) w) : Bv n (cross v w) := by
  unfold Vec.cross
  split
  · rename_i a b c x y z
    simp only [Bv_cons] at h k ⊢
    exact ⟨Bd_sub (Bd_mul h.2.1 k.2.2.1) (Bd_mul h.2.2.1 k.2.1), Bd_sub (Bd_mul h.2.2.1 k.1) (Bd_mul h.1 k.2.2.1), Bd_sub (Bd_mul h.1 k.2.1) (Bd_mul h.2.1 k.1), Bv_nil⟩
  · exact Bv_nil
@[simp] theorem Bd_dot {n : Nat} {v w : List Int} (h : Bv ((n - 2) / 2) v) (k : Bv ((n - 2) / 2) w) : Bd n (dot v w) := by
  unfold Vec.dot
  split
  · rename_i a b c x y z
    simp only [Bv_cons] at h k ⊢
    exact Bd_add (Bd_add (Bd_mul (h.1.mono (by omega)) (k.1.mono (by omega))) (Bd_mul (h.2.1.mono (by omega)) (k.2.1.mono (by omega)))) (Bd_mul (h.2.2.1.mono (by omega)) (k.2.2.1.mono (by omega)))
  · exact Bd_zero
@[simp] theorem T3_lit (a b c : Int) : T3 [a, b, c] := ⟨a, b, c, rfl⟩
@[simp] theorem T3_red {v : List Int} (h : T3 v) : T3 (red v) := h.red
@[simp] theorem T3_neg {v : List Int} (h : T3 v) : T3 (neg v) := h.neg
@[simp] theorem T3_scale {k : Int} {v : List Int} (h : T3 v) : T3 (scale k v) := h.scale k
@[simp] theorem T3_cross {v w : List Int} (h : T3 v) (k : T3 w) : T3 (cross v w) := h.cross k
@[simp] theorem Zer_red {v : List Int} : Zer (red v) ↔ Zer v := by
  constructor
  · intro h
    rw [← scale_red v]
    intro k hk
    obtain ⟨m, hm, rfl⟩ := List.mem_map.mp hk
    rw [h m hm, Int.mul_zero]
  · intro h k hk
    obtain ⟨m, hm, rfl⟩ := List.mem_map.mp hk
    rw [h m hm]; simp
@[simp] theorem Zer_neg {v : List Int} : Zer (neg v) ↔ Zer v := by rw [neg_scale]; exact Zer.scale (by decide)
@[simp] theorem Zer_nil : Zer [] := fun k hk => by cases hk
@[simp] theorem Zer_cons {a : Int} {v : List Int} : Zer (a :: v) ↔ a = 0 ∧ Zer v := by unfold Zer; simp
theorem red_len3 {v : List Int} (h : T3 v) : (red v).length = 3 := h.red.len
/-! texts -/
section
variable {st : Store}
theorem o_reprB {d : D} {c : Nat} (h : Rp d c) (hc : c ≤ 16770000) : opD st .repr [d] = some (.str (shw d)) := by
  obtain ⟨p, h1, h2, h3, h4⟩ := h
  have e : pyOf st d = some p := by
    cases d <;> first | exact h1 | (simp only [D.py] at h1; cases h1)
  have e2 : shw d = p.shown := by unfold shw; rw [h1]
  simp only [opD, e, e2]
  exact if_pos ⟨h2, Nat.le_trans h3 (Nat.le_trans hc (by decide)), Nat.le_trans h4 (by decide)⟩
/-- data k deep of at most eighteen parts -/
def Sh (k : Nat) (d : D) : Prop := RpK d (2000 * 20 ^ k) k
theorem Sh_up {k : Nat} {d : D} (h : Sh k d) : Sh (k + 1) d := RpK.mono h (Nat.mul_le_mul_left _ (Nat.pow_le_pow_right (by decide) (by omega))) (by omega)
theorem Sh.mono {k m : Nat} {d : D} (h : Sh k d) (hm : k ≤ m) : Sh m d := RpK.mono h (Nat.mul_le_mul_left _ (Nat.pow_le_pow_right (by decide) hm)) hm
@[simp] theorem Sh_int {k : Nat} {i : Int} (h : Bd 1900 i) : Sh k (.int i) := RpK.mono (RpK.int h k) (by have := Nat.pow_pos (n := k) (show 0 < 20 by decide); omega) (Nat.le_refl _)
@[simp] theorem Sh_bl {k : Nat} {b : Bool} : Sh k (.bl b) := RpK.mono (RpK.bl b k) (by have := Nat.pow_pos (n := k) (show 0 < 20 by decide); omega) (Nat.le_refl _)
@[simp] theorem Sh_non {k : Nat} : Sh k .non := RpK.mono (RpK.non k) (by have := Nat.pow_pos (n := k) (show 0 < 20 by decide); omega) (Nat.le_refl _)
theorem Shs {k : Nat} : ∀ {ds : List D}, (∀ d ∈ ds, Sh k d) → Rps ds ((2000 * 20 ^ k + 2) * ds.length) k
  | [], _ => Rps.nil k
  | d :: ds, h => by
    have := Rps.cons (h d List.mem_cons_self) (Shs (ds := ds) fun m hm => h m (List.mem_cons_of_mem _ hm))
    have e : 2000 * 20 ^ k + 2 + (2000 * 20 ^ k + 2) * ds.length = (2000 * 20 ^ k + 2) * (d :: ds).length := by rw [List.length_cons, Nat.mul_succ]; omega
    rw [e] at this
    exact this
theorem Sh_room (k m : Nat) (h : m ≤ 18) : (2000 * 20 ^ k + 2) * m + 3 ≤ 2000 * 20 ^ (k + 1) := by
  have p := Nat.pow_pos (n := k) (show 0 < 20 by decide)
  have : (2000 * 20 ^ k + 2) * m ≤ (2000 * 20 ^ k + 2) * 18 := Nat.mul_le_mul_left _ h
  rw [Nat.pow_succ]
  omega
@[simp] theorem Sh_tup {k : Nat} {ds : List D} (hl : ds.length ≤ 18) (h : ∀ d ∈ ds, Sh k d) : Sh (k + 1) (.tup ds) := RpK.mono (RpK.tup (Shs h)) (Sh_room k _ hl) (Nat.le_refl _)
@[simp] theorem Sh_lst {k : Nat} {ds : List D} (hl : ds.length ≤ 18) (h : ∀ d ∈ ds, Sh k d) : Sh (k + 1) (.lst ds) := RpK.mono (RpK.lst (Shs h)) (Nat.le_trans (by omega) (Sh_room k _ hl)) (Nat.le_refl _)
theorem Sh_tpl {k : Nat} {ns : List Int} (hl : ns.length ≤ 18) (h : Bv 1900 ns) : Sh (k + 1) (tpl ns) := Sh_tup (by rw [List.length_map]; exact hl) fun d hd => by
  obtain ⟨m, hm, rfl⟩ := List.mem_map.mp hd
  exact Sh_int (h m hm)
@[simp] theorem Sh_tpl3 {k : Nat} {ns : List Int} (hl : T3 ns) (h : Bv 1900 ns) : Sh (k + 1) (tpl ns) := Sh_tpl (by rw [hl.len]; decide) h
@[simp] theorem Sh_tplL {k : Nat} {a : Int} {ns : List Int} (hl : (a :: ns).length ≤ 18) (h : Bv 1900 (a :: ns)) : Sh (k + 1) (tpl (a :: ns)) := Sh_tpl hl h
@[simp] theorem o_reprS {d : D} (h : Sh 3 d) : opD st .repr [d] = some (.str (shw d)) := o_reprB (h.rp (by decide)) (by decide)
/-! operations whose room is found -/
@[simp] theorem o_mulS {i j : Int} (h1 : Bd 4000 i) (h2 : Bd 4000 j) : opD st .mul [.int i, .int j] = some (.int (i * j)) := o_mul h1 h2
@[simp] theorem o_fdivS {i j : Int} (h1 : 0 < j) (h2 : Bd 4000 j) : opD st .fdiv [.int i, .int j] = some (.int (i / j)) := o_fdiv h1 h2
@[simp] theorem o_mdS {i j : Int} (h1 : 0 < j) : opD st .md [.int i, .int j] = some (.int (i % j)) := o_md h1
@[simp] theorem bindC_two (i j : Nat) (ts : List Nat) (xs : List D) (r : DEnv) : L3.bindC (i :: j :: ts) (.tup xs) r = setAll (i :: j :: ts) xs r := rfl
@[simp] theorem bindC_twoL (i j : Nat) (ts : List Nat) (xs : List D) (r : DEnv) : L3.bindC (i :: j :: ts) (.lst xs) r = setAll (i :: j :: ts) xs r := rfl
@[simp] theorem bindC_twoI (i j : Nat) (ts : List Nat) (xs : List Int) (r : DEnv) : L3.bindC (i :: j :: ts) (tpl xs) r = setAll (i :: j :: ts) (xs.map .int) r := rfl
@[simp] theorem setAll_one (i : Nat) (x : D) (r : DEnv) : setAll [i] [x] r = some (r.set i (some x)) := rfl
@[simp] theorem setAll_more (i j : Nat) (is : List Nat) (x y : D) (xs : List D) (r : DEnv) : setAll (i :: j :: is) (x :: y :: xs) r = setAll (j :: is) (y :: xs) (r.set i (some x)) := rfl
@[simp] theorem wipe_more (v w : Nat) (vs : List Nat) (r : DEnv) : wipeD r (v :: w :: vs) = (wipeD r (w :: vs)).set v none := rfl
@[simp] theorem foldmS (ns : List Int) : D.tup (ns.map .int) = tpl ns := rfl
@[simp] theorem fold1S (a : Int) : D.tup [.int a] = tpl [a] := rfl
@[simp] theorem fold2S (a b : Int) : D.tup [.int a, .int b] = tpl [a, b] := rfl
@[simp] theorem fold3S (a b c : Int) : D.tup [.int a, .int b, .int c] = tpl [a, b, c] := rfl
@[simp] theorem fold4S (a b c d : Int) : D.tup [.int a, .int b, .int c, .int d] = tpl [a, b, c, d] := rfl
end
end L3
namespace Vec
open L3
theorem sg_pos_mul {k a b : Int} (hk : 0 < k) (e : a = k * b) : sg a = sg b := by rw [e, sg_mul_pos hk]
@[simp] theorem sg_dotL {v w : List Int} (h : T3 v) (g : T3 w) (hv : ¬ Zer v) : sg (dot (red v) w) = sg (dot v w) := sg_red1 h g hv
@[simp] theorem sg_dotR {v w : List Int} (h : T3 v) (g : T3 w) (hw : ¬ Zer w) : sg (dot v (red w)) = sg (dot v w) := by
  rw [dot_comm h g.red, sg_red1 g h hw, dot_comm g h]
/-- the sense does not hang on the lengths -/
theorem sg_det {u v w : List Int} (f : T3 u) (h : T3 v) (g : T3 w) (hu : ¬ Zer u) (hv : ¬ Zer v) (hw : ¬ Zer w) : sg (dot (cross (red u) (red v)) (red w)) = sg (dot (cross u v) w) := by
  have a : (0 : Int) < (gcdL u : Int) := by have := gcdL_pos hu; omega
  have b : (0 : Int) < (gcdL v : Int) := by have := gcdL_pos hv; omega
  have c : (0 : Int) < (gcdL w : Int) := by have := gcdL_pos hw; omega
  have e : dot (cross u v) w = (gcdL u : Int) * ((gcdL v : Int) * ((gcdL w : Int) * dot (cross (red u) (red v)) (red w))) := by
    rw [← dot_scaleR _ (f.red.cross h.red) g.red, ← dot_scaleL _ (f.red.cross h.red) (g.red.scale _), ← cross_scaleR _ f.red h.red, ← dot_scaleL _ (f.red.cross (h.red.scale _)) (g.red.scale _), ← cross_scaleL _ f.red (h.red.scale _), scale_red, scale_red, scale_red]
  rw [e, sg_mul_pos a, sg_mul_pos b, sg_mul_pos c]
@[simp] theorem sg_crL {u v w : List Int} (f : T3 u) (h : T3 v) (g : T3 w) (hu : ¬ Zer u) : sg (dot (cross (red u) v) w) = sg (dot (cross u v) w) := by
  have a : (0 : Int) < (gcdL u : Int) := by have := gcdL_pos hu; omega
  refine (sg_pos_mul a ?_).symm
  rw [← dot_scaleL _ (f.red.cross h) g, ← cross_scaleL _ f.red h, scale_red]
@[simp] theorem sg_crR {u v w : List Int} (f : T3 u) (h : T3 v) (g : T3 w) (hv : ¬ Zer v) : sg (dot (cross u (red v)) w) = sg (dot (cross u v) w) := by
  have a : (0 : Int) < (gcdL v : Int) := by have := gcdL_pos hv; omega
  refine (sg_pos_mul a ?_).symm
  rw [← dot_scaleL _ (f.cross h.red) g, ← cross_scaleR _ f h.red, scale_red]
@[simp] theorem sg_crL' {u v w : List Int} (f : T3 u) (h : T3 v) (g : T3 w) (hu : ¬ Zer u) : sg (dot w (cross (red u) v)) = sg (dot w (cross u v)) := by
  rw [dot_comm g (f.red.cross h), sg_crL f h g hu, dot_comm g (f.cross h)]
@[simp] theorem sg_crR' {u v w : List Int} (f : T3 u) (h : T3 v) (g : T3 w) (hv : ¬ Zer v) : sg (dot w (cross u (red v))) = sg (dot w (cross u v)) := by
  rw [dot_comm g (f.cross h.red), sg_crR f h g hv, dot_comm g (f.cross h)]
@[simp] theorem sg_0 : sg 0 = 0 := rfl
@[simp] theorem gcdL_red1 {v : List Int} (h : ¬ Zer v) : gcdL (red v) = 1 := gcdL_red h
@[simp] theorem red_red' {v : List Int} : red (red v) = red v := by
  by_cases h : Zer v
  · have z : Zer (red v) := Zer_red.mpr h
    unfold red at z ⊢
    rw [List.map_map]
    refine List.map_congr_left fun n hn => ?_
    rw [h n hn]; simp
  · exact red_red h
@[simp] theorem red_neg' {v : List Int} : red (neg v) = neg (red v) := red_neg v
@[simp] theorem neg_neg' {v : List Int} : neg (neg v) = v := neg_neg v
@[simp] theorem dot_negL' {v w : List Int} (h : T3 v) (g : T3 w) : dot (neg v) w = -dot v w := dot_negL h g
@[simp] theorem dot_negR' {v w : List Int} (h : T3 v) (g : T3 w) : dot v (neg w) = -dot v w := dot_negR h g
@[simp] theorem cross_negL {v w : List Int} (h : T3 v) (g : T3 w) : cross (neg v) w = neg (cross v w) := by rw [neg_scale, cross_scaleL _ h g, ← neg_scale]
@[simp] theorem cross_negR {v w : List Int} (h : T3 v) (g : T3 w) : cross v (neg w) = neg (cross v w) := by rw [neg_scale, cross_scaleR _ h g, ← neg_scale]
@[simp] theorem sg_neg' {n : Int} : sg (-n) = -sg n := sg_neg n
@[simp] theorem red_cr {u v : List Int} (f : T3 u) (h : T3 v) (hu : ¬ Zer u) : red (cross (red u) v) = red (cross u v) := by
  have a : (0 : Int) < (gcdL u : Int) := by have := gcdL_pos hu; omega
  rw [← red_scale a, ← cross_scaleL _ f.red h, scale_red]
@[simp] theorem red_cr' {u v : List Int} (f : T3 u) (h : T3 v) (hv : ¬ Zer v) : red (cross u (red v)) = red (cross u v) := by
  have a : (0 : Int) < (gcdL v : Int) := by have := gcdL_pos hv; omega
  rw [← red_scale a, ← cross_scaleR _ f h.red, scale_red]
@[simp] theorem zer_cr {u v : List Int} (f : T3 u) (h : T3 v) (hu : ¬ Zer u) : Zer (cross (red u) v) ↔ Zer (cross u v) := by
  have a : (gcdL u : Int) ≠ 0 := by have := gcdL_pos hu; omega
  rw [← Zer.scale a, ← cross_scaleL _ f.red h, scale_red]
@[simp] theorem zer_cr' {u v : List Int} (f : T3 u) (h : T3 v) (hv : ¬ Zer v) : Zer (cross u (red v)) ↔ Zer (cross u v) := by
  have a : (gcdL v : Int) ≠ 0 := by have := gcdL_pos hv; omega
  rw [← Zer.scale a, ← cross_scaleR _ f h.red, scale_red]
end Vec

set_option maxHeartbeats 2000000
/-! ### blocks in two, rows drawn, rows sifted -/
namespace L3
open L2 PySem PySem.Spec PyProof.Rows Vec
section
variable {cf : Nat → List D → Store → Res D} {gl : Nat → Option D} {r : DEnv} {st : Store}
theorem denB_app {tt : List Sm} : ∀ {ss : List Sm} {r r1 : DEnv} {s s1 : Store}, denB cf gl ss r s = .go .nx r1 s1 → denB cf gl (ss ++ tt) r s = denB cf gl tt r1 s1
  | [], r, r1, s, s1, e => by
    rw [denB_nil] at e
    cases e; rfl
  | s0 :: ss, r, r1, s, s1, e => by
    rw [denB_cons] at e
    rw [List.cons_append, denB_cons]
    split at e
    · rename_i r2 s2 q
      exact denB_app e
    · rename_i o hne
      exact absurd e (fun e => hne _ _ e)
/-- the first k rows of a block, then the others -/
theorem denB_at (k : Nat) {ss : List Sm} {r r1 : DEnv} {s s1 : Store} (e : denB cf gl (ss.take k) r s = .go .nx r1 s1) : denB cf gl ss r s = denB cf gl (ss.drop k) r1 s1 := by
  have := denB_app (tt := ss.drop k) e
  rwa [List.take_append_drop] at this
theorem compL_fil {ns : List Nat} {body : D → Store → Res (Option D)} {s : Store} (p : D → Bool) (f : D → D) : ∀ {xs : List D}, (∀ x ∈ xs, body x s = .ok (if p x then some (f x) else none) s) → compL ns body xs s = .ok ((xs.filter p).map f) s
  | [], _ => by simp only [compL, List.filter_nil, List.map_nil]
  | x :: xs, h => by
    have e := h x (List.mem_cons_self)
    have e2 := compL_fil (ns := ns) p f (xs := xs) fun z hz => h z (List.mem_cons_of_mem _ hz)
    simp only [compL, e, stillB_same, decide_true, Bool.and_self, if_true, e2, Res.bind]
    cases q : p x
    · rw [List.filter_cons_of_neg (by rw [q]; decide)]; rfl
    · rw [List.filter_cons_of_pos q]; rfl
/-- what is sifted -/
theorem comp_fil {k : IK} {its : List Ex} {c e : Ex} {ts : List Nat} {ds xs : List D} {s0 : Store} (p : D → Bool) (f : D → D) (he : dens cf gl its r s0 = .ok ds s0) (hd : itemsOf s0 k ds = some xs)
    (hb : ∀ x ∈ xs, ∃ r', L3.bindC ts x (wipeD r ts) = some r' ∧ den cf gl c r' s0 = .ok (.bl (p x)) s0 ∧ (p x = true → den cf gl e r' s0 = .ok (f x) s0)) (hl : xs.length ≤ 10000) : den cf gl (.comp k its ts c e) r s0 = .ok (.lst ((xs.filter p).map f)) s0 := by
  rw [den_comp]
  simp only [he, rbind_ok]
  rw [hd]
  refine Eq.trans (congrArg (fun z : Res (List D) => z.bind fun ys st2 => if ys.length < sizeLine then Res.ok (D.lst ys) st2 else .stuck) (compL_fil p f fun x hx => ?_)) ?_
  · obtain ⟨r', h1, h2, h3⟩ := hb x hx
    simp only [h1, h2, rbind_ok, truth_bl]
    cases q : p x
    · rfl
    · simp only [h3 q, rbind_ok, if_true]
  · exact if_pos (size_small _ (by rw [List.length_map]; exact Nat.le_trans (List.length_filter_le _ _) hl))
/-- .. where nothing is left -/
theorem comp_none {k : IK} {its : List Ex} {c e : Ex} {ts : List Nat} {ds xs : List D} {s0 : Store} (he : dens cf gl its r s0 = .ok ds s0) (hd : itemsOf s0 k ds = some xs)
    (hb : ∀ x ∈ xs, ∃ r', L3.bindC ts x (wipeD r ts) = some r' ∧ den cf gl c r' s0 = .ok (.bl false) s0) (hl : xs.length ≤ 10000) : den cf gl (.comp k its ts c e) r s0 = .ok (.lst []) s0 := by
  have := comp_fil (cf := cf) (gl := gl) (r := r) (k := k) (its := its) (c := c) (e := e) (ts := ts) (xs := xs) (s0 := s0) (fun _ => false) id he hd (fun x hx => by
    obtain ⟨r', h1, h2⟩ := hb x hx
    exact ⟨r', h1, h2, fun h => by cases h⟩) hl
  have z : xs.filter (fun _ => false) = [] := by induction xs <;> simp_all
  rw [z] at this
  exact this
/-- rows drawn: each turn one value more -/
theorem comp_drawn {ex e : Ex} {v m : Nat} {s0 : Store} {xs : List D} {b c : Nat} (P : D → Prop) (he : den cf gl ex r s0 = .ok (.int (m : Int)) (xs :: st)) (hm : m < 10000) (h : Spr b xs)
    (hs : ∀ (i : Nat) (j : Nat) (x : List D), i < m → Spr (b + c * i) x → ∃ x' d, den cf gl e ((r.set v none).set v (some (.int (i : Int)))) (x :: st) = .ok d (x' :: st) ∧ Spr (b + c * (i + 1)) x' ∧ P d) :
    ∃ x' ds, den cf gl (.comp .rng [ex] [v] (.con (.bl true)) e) r s0 = .ok (.lst ds) (x' :: st) ∧ Spr (b + c * m) x' ∧ ds.length = m ∧ ∀ d ∈ ds, P d := by
  obtain ⟨ys, s1, q, x, rfl, h1, l1, p1⟩ := compL_inv (ns := []) (s0 := xs :: st) (xs := rngD m) (body := fun x s1 => (den cf gl (.con (.bl true)) ((r.set v none).set v (some x)) s1).bind fun b s2 => match truth s2 b with
        | some true => (den cf gl e ((r.set v none).set v (some x)) s2).bind fun y s3 => .ok (some y) s3
        | some false => .ok none s2
        | none => .stuck) (fun i acc s => ∃ x, s = x :: st ∧ Spr (b + c * i) x ∧ acc.length = i ∧ ∀ d ∈ acc, P d) ⟨xs, rfl, h, rfl, by simp⟩ (by
      rintro i x acc s hx ⟨z, rfl, hz, hl, hp⟩
      obtain ⟨rfl, hi⟩ := rngD_at hx
      obtain ⟨x', d, e1, h1, p1⟩ := hs i 0 z hi hz
      refine ⟨some d, x' :: st, by simp only [den_con, rbind_ok, truth_bl, e1], stillB_nil _ _, rfl, x', rfl, h1, by simp [hl], ?_⟩
      intro q hq
      rcases List.mem_append.mp hq with w | w
      · exact hp q w
      · have : q = d := by simpa using w
        rw [this]; exact p1)
  rw [rngD_len] at h1 l1
  refine ⟨x, ys, ?_, h1, l1, p1⟩
  have hn2 : m ≤ 1000000 := by omega
  rw [den_comp]
  simp only [dens_cons, dens_nil, he, rbind_ok]
  rw [items_rng m hn2]
  simp only [bindC_one, wipe_one]
  refine Eq.trans (congrArg (fun z : Res (List D) => z.bind fun ys st2 => if ys.length < sizeLine then Res.ok (D.lst ys) st2 else .stuck) q) ?_
  exact if_pos (size_small _ (by omega))
theorem ints_of {ds : List D} {Q : Int → Prop} (h : ∀ d ∈ ds, ∃ k, d = .int k ∧ Q k) : ∃ ns : List Int, ds = ns.map .int ∧ ∀ k ∈ ns, Q k := by
  induction ds with
  | nil => exact ⟨[], rfl, by simp⟩
  | cons d ds ih =>
    obtain ⟨ns, rfl, hq⟩ := ih fun x hx => h x (List.mem_cons_of_mem _ hx)
    obtain ⟨k, rfl, hk⟩ := h d List.mem_cons_self
    exact ⟨k :: ns, rfl, by intro q hq'; rcases List.mem_cons.mp hq' with rfl | w; exact hk; exact hq q w⟩
@[simp] theorem add_tup {xs ys : List D} (h : xs.length + ys.length ≤ 10000) : opD st .add [.tup xs, .tup ys] = some (.tup (xs ++ ys)) := by
  show (if xs.length + ys.length ≤ sizeLine then some (D.tup (xs ++ ys)) else none) = _
  exact if_pos (small_len h)
@[simp] theorem add_tpl {xs ys : List Int} (h : xs.length + ys.length ≤ 10000) : opD st .add [tpl xs, tpl ys] = some (tpl (xs ++ ys)) := by
  show opD st .add [.tup (xs.map .int), .tup (ys.map .int)] = _
  rw [add_tup (by simpa using h), ← List.map_append]; rfl
@[simp] theorem add_lst {xs ys : List D} (h : xs.length + ys.length ≤ 10000) : opD st .add [.lst xs, .lst ys] = some (.lst (xs ++ ys)) := o_add_lst xs ys h
@[simp] theorem tuple_map (ns : List Int) : opD st .tuple [.lst (ns.map .int)] = some (tpl ns) := rfl
theorem cut_tail (ns : List Int) : opD st (.cut true false) [tpl ns, .int 1] = some (tpl ns.tail) := by
  show some (D.tup (cutD (ns.map .int) (some 1) none)) = _
  have : cutD (ns.map D.int) (some 1) none = ns.tail.map .int := by
    cases ns with
    | nil => rfl
    | cons n ns =>
      have e1 : HT.sIx ((n :: ns).map D.int).length 0 (some 1) = 1 := by simp [HT.sIx]
      have e2 : HT.sIx ((n :: ns).map D.int).length ((n :: ns).map D.int).length none = ns.length + 1 := by simp [HT.sIx]
      unfold cutD
      rw [e1, e2]
      show List.take ns.length (ns.map D.int) = ns.map D.int
      rw [List.take_of_length_le (by simp)]
  rw [this]; rfl
theorem eq_none_lst (a : List Int) : eqD st (.lst (a.map .int)) (.lst []) = some (decide (a = [])) := eqD_intsL a []
@[simp] theorem after_consS {xs ys : List D} {d : D} (hp : d.pure = true) : after (xs :: st) (.ok d (ys :: st)) = .ok d (ys :: st) := after_cons hp
@[simp] theorem after_exS {ex : Store} {xs xs' : List D} {d : D} (hp : d.pure = true) : after (xs :: st) (.ok d (xs' :: (st ++ ex))) = .ok d (xs' :: st) := after_ex hp
theorem bv_of {v : List Int} {m : Nat} {e : Nat} (hm : m < 2 ^ e) (h : ∀ k ∈ v, k.natAbs ≤ m) : Bw e v := .of fun k hk => Nat.lt_of_le_of_lt (h k hk) hm
theorem eq_zero3 {v : List Int} (h : T3 v) : v = [0, 0, 0] ↔ Zer v := by
  obtain ⟨a, b, c, rfl⟩ := h
  simp
theorem _root_.Vec.T3.parts {v : List Int} (h : T3 v) {e : Nat} (b : Bw e v) : ∃ x y z, v = [x, y, z] ∧ Sz e x ∧ Sz e y ∧ Sz e z := by
  obtain ⟨x, y, z, rfl⟩ := h
  have p := fun n hn => Bv_cons.mp (b n hn)
  exact ⟨x, y, z, rfl, fun n hn => (p n hn).1, fun n hn => (Bv_cons.mp (p n hn).2).1, fun n hn => (Bv_cons.mp (Bv_cons.mp (p n hn).2).2).1⟩
theorem Sz.up {e f : Nat} {i : Int} (h : Sz e i) (k : e ≤ f) : Sz f i := fun n hn => h n (Nat.le_trans k hn)
theorem Bw.up {e f : Nat} {v : List Int} (h : Bw e v) (k : e ≤ f) : Bw f v := fun n hn => h n (Nat.le_trans k hn)
theorem Sz.nat {e : Nat} {i : Int} (h : i.natAbs < 2 ^ e) : Sz e i := .of h
/-- a walk that leaves the store as it is -/
theorem seq_same {ex : Ex} {v : Nat} {xs : List D} {d : D} {body : List Sm} {s0 : Store} (P : DEnv → Prop) (he : den cf gl ex r s0 = .ok d s0) (hd : isSeq s0 d = some xs) (h0 : P r)
    (hs : ∀ x ∈ xs, ∀ r, P r → ∃ r1, denB cf gl body (r.set v (some x)) s0 = .go .nx r1 s0 ∧ P r1) : ∃ r1, denS cf gl (.loop .seq [ex] (.nm v) body) r s0 = .go .nx r1 s0 ∧ P r1 := by
  rw [loop_seq he hd]
  obtain ⟨r1, s1, e, h1, h2⟩ := forL_inv (ns := walked .seq [d]) (step := fun x r s => denB cf gl body (r.set v (some x)) s) (r0 := r) (s0 := s0) (xs := xs) (fun _ r s => P r ∧ s = s0) ⟨h0, rfl⟩ (fun i x r s hx hp => by
    obtain ⟨hp, rfl⟩ := hp
    obtain ⟨r1, e, p⟩ := hs x (List.mem_of_getElem? hx) r hp
    exact ⟨r1, s, e, stillB_same _ _, p, rfl⟩)
  subst h2
  exact ⟨r1, e, h1⟩
theorem two_of {ds : List D} (h : ds.length = 2) : ∃ a b, ds = [a, b] := by
  match ds, h with
  | [a, b], _ => exact ⟨a, b, rfl⟩
theorem three_of {ds : List D} (h : ds.length = 3) : ∃ a b c, ds = [a, b, c] := by
  match ds, h with
  | [a, b, c], _ => exact ⟨a, b, c, rfl⟩
@[simp] theorem isLoc_loc (n : Nat) : isSeq st (.loc n) = st[n]? := rfl
@[simp] theorem items_loc (n : Nat) : itemsOf st .seq [.loc n] = st[n]? := rfl
theorem items_rng3 : itemsOf st .rng [.int 3] = some [.int 0, .int 1, .int 2] := (items_rng (st := st) 3 (by decide)).trans rfl
theorem items_rng2 : itemsOf st .rng [.int 2] = some [.int 0, .int 1] := (items_rng (st := st) 2 (by decide)).trans rfl
theorem items_rng4 : itemsOf st .rng [.int 4] = some [.int 0, .int 1, .int 2, .int 3] := (items_rng (st := st) 4 (by decide)).trans rfl
end
end L3

set_option maxHeartbeats 2000000
/-! ### rows of three along one another -/
namespace Vec
open L3
theorem sq_nn (a : Int) : 0 ≤ a * a := by
  rcases Int.le_total 0 a with q | q
  · exact Int.mul_nonneg q q
  · exact Int.mul_nonneg_of_nonpos_of_nonpos q q
theorem sq_zero {a : Int} (h : a * a = 0) : a = 0 := (Int.mul_eq_zero.mp h).elim id id
@[simp] theorem dot_pos {v : List Int} (h : T3 v) (hz : ¬ Zer v) : 0 < dot v v := by
  obtain ⟨a, b, c, rfl⟩ := h
  have h1 := sq_nn a; have h2 := sq_nn b; have h3 := sq_nn c
  simp only [dot]
  rcases Int.lt_or_eq_of_le (show 0 ≤ a * a + b * b + c * c by omega) with q | q
  · exact q
  · exfalso
    exact hz (by simp; exact ⟨sq_zero (by omega), sq_zero (by omega), sq_zero (by omega)⟩)
@[simp] theorem cross_self {v : List Int} (h : T3 v) : Zer (cross v v) := by
  obtain ⟨a, b, c, rfl⟩ := h
  simp [cross]
  refine ⟨?_, ?_, ?_⟩ <;> grind
@[simp] theorem dot_crL {v w : List Int} (h : T3 v) (g : T3 w) : dot (cross v w) v = 0 := by
  obtain ⟨a, b, c, rfl⟩ := h
  obtain ⟨x, y, z, rfl⟩ := g
  simp only [dot, cross]; grind
@[simp] theorem dot_crR {v w : List Int} (h : T3 v) (g : T3 w) : dot (cross v w) w = 0 := by
  obtain ⟨a, b, c, rfl⟩ := h
  obtain ⟨x, y, z, rfl⟩ := g
  simp only [dot, cross]; grind
@[simp] theorem dot_crL' {v w : List Int} (h : T3 v) (g : T3 w) : dot v (cross v w) = 0 := by rw [dot_comm h (h.cross g), dot_crL h g]
@[simp] theorem dot_crR' {v w : List Int} (h : T3 v) (g : T3 w) : dot w (cross v w) = 0 := by rw [dot_comm g (h.cross g), dot_crR h g]
theorem dot_red_pos {v w : List Int} (h : T3 v) (g : T3 w) (hv : ¬ Zer v) : 0 < dot (red v) w ↔ 0 < dot v w := by
  have a : (0 : Int) < (gcdL v : Int) := by have := gcdL_pos hv; omega
  have e : dot v w = (gcdL v : Int) * dot (red v) w := by rw [← dot_scaleL _ h.red g, scale_red]
  rw [e]
  constructor
  · exact fun q => Int.mul_pos a q
  · exact fun q => by
      rcases Int.lt_trichotomy 0 (dot (red v) w) with z | z | z
      · exact z
      · rw [← z, Int.mul_zero] at q; omega
      · have := Int.mul_neg_of_pos_of_neg a z; omega
@[simp] theorem dot_red_pos' {v w : List Int} (h : T3 v) (g : T3 w) (hv : ¬ Zer v) : (0 < dot (red v) w) = (0 < dot v w) := propext (dot_red_pos h g hv)
@[simp] theorem dot_red_posR {v w : List Int} (h : T3 v) (g : T3 w) (hw : ¬ Zer w) : (0 < dot v (red w)) = (0 < dot v w) := by
  rw [dot_comm h g.red, dot_red_pos' g h hw, dot_comm g h]
@[simp] theorem sg_pos {n : Int} (h : 0 < n) : sg n = 1 := if_pos h
theorem lag {u v : List Int} (f : T3 u) (h : T3 v) (z : Zer (cross u v)) : scale (dot v v) u = scale (dot u v) v := by
  obtain ⟨a, b, c, rfl⟩ := f
  obtain ⟨x, y, w, rfl⟩ := h
  simp [cross] at z
  obtain ⟨z1, z2, z3⟩ := z
  simp only [scale, dot, List.map_cons, List.map_nil, List.cons.injEq, and_true]
  refine ⟨?_, ?_, ?_⟩ <;> grind
theorem scale_neg (k : Int) (v : List Int) : scale (-k) v = scale k (neg v) := by
  unfold scale neg
  rw [List.map_map]
  exact List.map_congr_left fun n _ => by grind
/-- along one another -/
theorem para {u v : List Int} (f : T3 u) (h : T3 v) (hu : ¬ Zer u) (hv : ¬ Zer v) (z : Zer (cross u v)) (p : 0 < dot u v) : red u = red v := red_along (dot_pos h hv) p (lag f h z)
theorem dot_para {u v : List Int} (f : T3 u) (h : T3 v) (hu : ¬ Zer u) (hv : ¬ Zer v) (z : Zer (cross u v)) : dot u v ≠ 0 := fun q => by
  have e := lag f h z
  rw [q] at e
  refine hu ((Zer.scale (k := dot v v) (by have := dot_pos h hv; omega)).mp ?_)
  rw [e]
  intro k hk
  obtain ⟨m, _, rfl⟩ := List.mem_map.mp hk
  simp
theorem para_neg {u v : List Int} (f : T3 u) (h : T3 v) (hu : ¬ Zer u) (hv : ¬ Zer v) (z : Zer (cross u v)) (p : dot u v < 0) : red u = neg (red v) := by
  rw [← red_neg]
  refine para f h.neg hu (by simpa using hv) (by rw [cross_negR f h]; simpa using z) ?_
  rw [dot_negR f h]; omega
theorem para_or {u v : List Int} (f : T3 u) (h : T3 v) (hu : ¬ Zer u) (hv : ¬ Zer v) (z : Zer (cross u v)) : red u = red v ∨ red u = neg (red v) := by
  have := dot_para f h hu hv z
  rcases Int.lt_trichotomy 0 (dot u v) with p | p | p
  · exact .inl (para f h hu hv z p)
  · omega
  · exact .inr (para_neg f h hu hv z p)
theorem det_cyc {u v w : List Int} (f : T3 u) (h : T3 v) (g : T3 w) : dot u (cross v w) = dot (cross u v) w := by
  obtain ⟨a, b, c, rfl⟩ := f
  obtain ⟨x, y, z, rfl⟩ := h
  obtain ⟨p, q, r, rfl⟩ := g
  simp only [dot, cross]; grind
theorem det_rot {u v w : List Int} (f : T3 u) (h : T3 v) (g : T3 w) : dot (cross v w) u = dot (cross u v) w := by rw [dot_comm (h.cross g) f, det_cyc f h g]
theorem det_swap {u v w : List Int} (f : T3 u) (h : T3 v) (g : T3 w) : dot (cross v u) w = -dot (cross u v) w := by rw [cross_anti f h, dot_negL (f.cross h) g]
/-- two planes through one ray meet along it -/
theorem cross_cross {u v w : List Int} (f : T3 u) (h : T3 v) (g : T3 w) : cross (cross u v) (cross u w) = scale (dot (cross u v) w) u := by
  obtain ⟨a, b, c, rfl⟩ := f
  obtain ⟨x, y, z, rfl⟩ := h
  obtain ⟨p, q, r, rfl⟩ := g
  simp only [dot, cross, scale, List.map_cons, List.map_nil, List.cons.injEq, and_true]
  refine ⟨?_, ?_, ?_⟩ <;> grind
/-- what lies on two planes lies along their line -/
theorem on_both {r u v : List Int} (f : T3 r) (h : T3 u) (g : T3 v) (a : dot u r = 0) (b : dot v r = 0) : Zer (cross r (cross u v)) := by
  obtain ⟨p, q, s, rfl⟩ := f
  obtain ⟨x, y, z, rfl⟩ := h
  obtain ⟨k, l, m, rfl⟩ := g
  simp [dot] at a b
  simp [cross]
  refine ⟨?_, ?_, ?_⟩ <;> grind
end Vec

set_option maxHeartbeats 2000000
/-! ### turns, turned rows, heights -/
namespace Vec
open L3
@[simp] theorem T2_lit (a b : Int) : T2 [a, b] := ⟨a, b, rfl⟩
@[simp] theorem Sh_tpl2 {k : Nat} {ns : List Int} (hl : T2 ns) (h : Bv 1900 ns) : Sh (k + 1) (tpl ns) := Sh_tpl (by rw [hl.len]; decide) h
@[simp] theorem T2_red {v : List Int} (h : T2 v) : T2 (red v) := h.red
@[simp] theorem T2_neg {v : List Int} (h : T2 v) : T2 (neg v) := T2.of (by unfold Vec.neg; rw [List.length_map]; exact h.len)
@[simp] theorem T2_scale {k : Int} {v : List Int} (h : T2 v) : T2 (scale k v) := T2.of (by unfold Vec.scale; rw [List.length_map]; exact h.len)
@[simp] theorem T2_hm {v w : List Int} (h : T2 v) (g : T2 w) : T2 (hm v w) := h.hm g
@[simp] theorem Bv_hm {n : Nat} {v w : List Int} (h : Bv ((n - 1) / 2) v) (k : Bv ((n - 1) / 2) w) : Bv n (hm v w) := by
  unfold Vec.hm
  split
  · rename_i a b c d
    simp only [Bv_cons] at h k ⊢
    exact ⟨Bd_sub (Bd_mul h.1 k.1) (Bd_mul h.2.1 k.2.1), Bd_add (Bd_mul h.1 k.2.1) (Bd_mul h.2.1 k.1), Bv_nil⟩
  · exact Bv_nil
theorem Zer_hm {v w : List Int} (h : T2 v) (g : T2 w) : Zer (hm v w) ↔ (Zer v ∨ Zer w) := by
  constructor
  · intro z
    by_cases a : Zer v
    · exact .inl a
    · by_cases b : Zer w
      · exact .inr b
      · exact absurd z (hm_nz h g a b)
  · obtain ⟨a, b, rfl⟩ := h
    obtain ⟨c, d, rfl⟩ := g
    simp [hm]
    rintro (⟨rfl, rfl⟩ | ⟨rfl, rfl⟩) <;> simp
@[simp] theorem Zer_hm' {v w : List Int} (h : T2 v) (g : T2 w) (a : ¬ Zer v) (b : ¬ Zer w) : Zer (hm v w) = False := eq_false (hm_nz h g a b)
theorem hm_scaleR (k : Int) {v w : List Int} (h : T2 v) (g : T2 w) : hm v (scale k w) = scale k (hm v w) := by
  rw [hm_comm h (T2_scale g), hm_scaleL k g h, hm_comm g h]
@[simp] theorem red_hmL {v w : List Int} (h : T2 v) (g : T2 w) (hz : ¬ Zer v) : red (hm (red v) w) = red (hm v w) := red_hm h g hz
@[simp] theorem red_hmR {v w : List Int} (h : T2 v) (g : T2 w) (hz : ¬ Zer w) : red (hm v (red w)) = red (hm v w) := by
  rw [hm_comm h g.red, red_hm g h hz, hm_comm g h]
/-- x and y -/
def p2 : List Int → List Int
  | [x, y, _] => [x, y]
  | v => v
@[simp] theorem p2_lit (x y z : Int) : p2 [x, y, z] = [x, y] := rfl
@[simp] theorem T2_p2 {v : List Int} (h : T3 v) : T2 (p2 v) := by obtain ⟨a, b, c, rfl⟩ := h; exact ⟨a, b, rfl⟩
@[simp] theorem Bv_p2 {n : Nat} {v : List Int} (h : T3 v) (b : Bv n v) : Bv n (p2 v) := by
  obtain ⟨x, y, z, rfl⟩ := h
  simp only [Bv_cons, p2] at b ⊢
  exact ⟨b.1, b.2.1, Bv_nil⟩
theorem p2_scale (k : Int) {v : List Int} (h : T3 v) : p2 (scale k v) = scale k (p2 v) := by obtain ⟨a, b, c, rfl⟩ := h; rfl
theorem p2_neg {v : List Int} (h : T3 v) : p2 (neg v) = neg (p2 v) := by obtain ⟨a, b, c, rfl⟩ := h; rfl
theorem scale_red_pos {v : List Int} (hz : ¬ Zer v) : ∃ k : Int, 0 < k ∧ v = scale k (red v) := ⟨gcdL v, by have := gcdL_pos hz; omega, (scale_red v).symm⟩
@[simp] theorem red_p2 {v : List Int} (h : T3 v) (hz : ¬ Zer v) : red (p2 (red v)) = red (p2 v) := by
  obtain ⟨k, hk, e⟩ := scale_red_pos hz
  conv => rhs; rw [e, p2_scale k h.red, red_scale hk]
@[simp] theorem Zer_p2 {v : List Int} (h : T3 v) (hz : ¬ Zer v) : Zer (p2 (red v)) ↔ Zer (p2 v) := by
  obtain ⟨k, hk, e⟩ := scale_red_pos hz
  conv => rhs; rw [e, p2_scale k h.red, Zer.scale (by omega)]
/-- a turn: reduced, the second number above 0 (0: the first) -/
def Up : List Int → Prop
  | [a, b] => 0 < b ∨ (b = 0 ∧ 0 < a)
  | _ => False
def Tn (t : List Int) : Prop := T2 t ∧ gcdL t = 1 ∧ Up t
theorem Tn.t2 {t : List Int} (h : Tn t) : T2 t := h.1
theorem Tn.nz {t : List Int} (h : Tn t) : ¬ Zer t := fun z => by
  have := h.2.1
  rw [gcdL_zero.mpr z] at this; cases this
theorem Tn_one : Tn [0, 1] := ⟨⟨0, 1, rfl⟩, by decide, by simp [Up]⟩
theorem Tn_half : Tn [1, 0] := ⟨⟨1, 0, rfl⟩, by decide, by simp [Up]⟩
/-- the length of a turn: the sum of both squares -/
def nm : List Int → Int
  | [a, b] => a * a + b * b
  | _ => 0
theorem nm_pos {t : List Int} (h : T2 t) (hz : ¬ Zer t) : 0 < nm t := by
  obtain ⟨a, b, rfl⟩ := h
  have h1 := sq_nn a; have h2 := sq_nn b
  simp only [nm]
  rcases Int.lt_or_eq_of_le (show 0 ≤ a * a + b * b by omega) with q | q
  · exact q
  · exact absurd (by simp; exact ⟨sq_zero (by omega), sq_zero (by omega)⟩) hz
/-- cosine and sine of a turn, by its length -/
def ph : List Int → List Int
  | [a, b] => [b * b - a * a, 2 * a * b]
  | v => v
@[simp] theorem T2_ph {t : List Int} (h : T2 t) : T2 (ph t) := by obtain ⟨a, b, rfl⟩ := h; exact ⟨_, _, rfl⟩
theorem nm_ph {t : List Int} (h : T2 t) : nm (ph t) = nm t * nm t := by
  obtain ⟨a, b, rfl⟩ := h
  simp only [nm, ph]; grind
theorem ph_nz {t : List Int} (h : T2 t) (hz : ¬ Zer t) : ¬ Zer (ph t) := fun z => by
  have e := nm_ph h
  have p := nm_pos h hz
  obtain ⟨a, b, e2⟩ := T2_ph h
  rw [e2] at z e
  simp at z
  obtain ⟨rfl, rfl⟩ := z
  have q := Int.mul_pos p p
  rw [← e] at q
  simp [nm] at q
@[simp] theorem ph_nz' {t : List Int} (h : T2 t) (hz : ¬ Zer t) : Zer (ph t) = False := eq_false (ph_nz h hz)
@[simp] theorem Bv_ph {n : Nat} {t : List Int} (h : T2 t) (b : Bv ((n - 1) / 2 - 1) t) : Bv n (ph t) := by
  obtain ⟨x, y, rfl⟩ := h
  simp only [Bv_cons, ph] at b ⊢
  have two : n = 0 ∨ n = 1 ∨ n = 2 ∨ 3 ≤ n := by omega
  have m : ∀ {p q : Int}, Bd ((n - 1) / 2 - 1) p → Bd ((n - 1) / 2 - 1) q → Bd ((n - 1) - 1) (p * q) := fun hp hq => Bd_mul (hp.mono (by omega)) (hq.mono (by omega))
  have b2 : (2 * x * y).natAbs < 2 ^ n := by
    rw [Int.mul_assoc, Int.natAbs_mul]
    have h1 := m b.1 b.2.1
    unfold Bd at h1
    by_cases hn : 2 ≤ n
    · have e : 2 ^ n = 2 * 2 ^ (n - 1) := by rw [← Nat.pow_succ']; congr 1; omega
      have e2 : 2 ^ (n - 1) = 2 * 2 ^ (n - 1 - 1) := by rw [← Nat.pow_succ']; congr 1; omega
      have : (2 : Int).natAbs = 2 := rfl
      rw [this]; omega
    · have hx := b.1
      have hn' : (n - 1) / 2 - 1 = 0 := by omega
      rw [hn'] at hx
      unfold Bd at hx
      have : x = 0 := by simp at hx; exact hx
      subst this
      simp
      exact Nat.pow_pos (by decide)
  exact ⟨Bd_sub ((m b.2.1 b.2.1).mono (by omega)) ((m b.1 b.1).mono (by omega)), b2, Bv_nil⟩
theorem Bd_nm {n : Nat} {t : List Int} (h : T2 t) (b : Bv ((n - 1) / 2) t) : Bd n (nm t) := by
  obtain ⟨x, y, rfl⟩ := h
  simp only [Bv_cons, nm] at b ⊢
  exact Bd_add (Bd_mul b.1 b.1) (Bd_mul b.2.1 b.2.1)
/-- turned -/
def rot : List Int → List Int → List Int
  | [x, y, z], [a, b] => [(b * b - a * a) * x - 2 * a * b * y, 2 * a * b * x + (b * b - a * a) * y, (a * a + b * b) * z]
  | _, _ => []
section
variable {u v w s t : List Int}
@[simp] theorem T3_rot (f : T3 u) (h : T2 t) : T3 (rot u t) := by
  obtain ⟨x, y, z, rfl⟩ := f
  obtain ⟨a, b, rfl⟩ := h
  exact ⟨_, _, _, rfl⟩
@[simp] theorem Bv_rot {n : Nat} (f : T3 u) (h : T2 t) (a : Bv (n / 2 - 1) u) (b : Bv (n / 4 - 2) t) : Bv n (rot u t) := by
  have p := Bv_ph (n := n / 2 - 1) h (b.mono (by omega))
  have q := Bd_nm (n := n / 2 - 1) h (b.mono (by omega))
  obtain ⟨x, y, z, rfl⟩ := f
  obtain ⟨c, d, rfl⟩ := h
  simp only [Bv_cons, ph, nm, rot] at a p q ⊢
  have m : ∀ {p q : Int}, Bd (n / 2 - 1) p → Bd (n / 2 - 1) q → Bd (n - 1) (p * q) := fun hp hq => Bd_mul (hp.mono (by omega)) (hq.mono (by omega))
  exact ⟨Bd_sub (m p.1 a.1) (m p.2.1 a.2.1), Bd_add (m p.2.1 a.1) (m p.1 a.2.1), (m q a.2.2.1).mono (by omega), Bv_nil⟩
theorem rot_scale (k : Int) (f : T3 u) (h : T2 t) : rot (scale k u) t = scale k (rot u t) := by
  obtain ⟨x, y, z, rfl⟩ := f
  obtain ⟨a, b, rfl⟩ := h
  simp only [rot, scale, List.map_cons, List.map_nil, List.cons.injEq, and_true]
  refine ⟨?_, ?_, ?_⟩ <;> grind
@[simp] theorem rot_neg (f : T3 u) (h : T2 t) : rot (neg u) t = neg (rot u t) := by rw [neg_scale, rot_scale _ f h, ← neg_scale]
theorem dot_rot (f : T3 u) (g : T3 v) (h : T2 t) : dot (rot u t) (rot v t) = nm t * nm t * dot u v := by
  obtain ⟨x, y, z, rfl⟩ := f
  obtain ⟨p, q, r, rfl⟩ := g
  obtain ⟨a, b, rfl⟩ := h
  simp only [rot, dot, nm]; grind
theorem rot_nz (f : T3 u) (h : T2 t) (hu : ¬ Zer u) (ht : ¬ Zer t) : ¬ Zer (rot u t) := fun z => by
  have e := dot_rot f f h
  have p := dot_pos f hu
  have q := nm_pos h ht
  have r := Int.mul_pos (Int.mul_pos q q) p
  rw [← e] at r
  obtain ⟨x, y, w, e2⟩ := T3_rot f h
  rw [e2] at z r
  simp at z
  obtain ⟨rfl, rfl, rfl⟩ := z
  simp [dot] at r
@[simp] theorem rot_nz' (f : T3 u) (h : T2 t) (hu : ¬ Zer u) (ht : ¬ Zer t) : Zer (rot u t) = False := eq_false (rot_nz f h hu ht)
@[simp] theorem red_rot (f : T3 u) (h : T2 t) (hu : ¬ Zer u) : red (rot (red u) t) = red (rot u t) := by
  obtain ⟨k, hk, e⟩ := scale_red_pos hu
  conv => rhs; rw [e, rot_scale k f.red h, red_scale hk]
theorem cross_rot (f : T3 u) (g : T3 v) (h : T2 t) : cross (rot u t) (rot v t) = scale (nm t) (rot (cross u v) t) := by
  obtain ⟨x, y, z, rfl⟩ := f
  obtain ⟨p, q, r, rfl⟩ := g
  obtain ⟨a, b, rfl⟩ := h
  simp only [rot, cross, nm, scale, List.map_cons, List.map_nil, List.cons.injEq, and_true]
  refine ⟨?_, ?_, ?_⟩ <;> grind
@[simp] theorem red_cross_rot (f : T3 u) (g : T3 v) (h : T2 t) (ht : ¬ Zer t) : red (cross (rot u t) (rot v t)) = red (rot (cross u v) t) := by
  rw [cross_rot f g h, red_scale (nm_pos h ht)]
@[simp] theorem zer_cross_rot (f : T3 u) (g : T3 v) (h : T2 t) (ht : ¬ Zer t) : Zer (cross (rot u t) (rot v t)) ↔ Zer (cross u v) := by
  rw [cross_rot f g h, Zer.scale (by have := nm_pos h ht; omega)]
  constructor
  · intro z
    exact Classical.byContradiction fun q => rot_nz (f.cross g) h q ht z
  · intro z
    obtain ⟨x, y, w, e⟩ := f.cross g
    obtain ⟨a, b, rfl⟩ := h
    rw [e] at z ⊢
    simp at z
    obtain ⟨rfl, rfl, rfl⟩ := z
    simp [rot]
@[simp] theorem sg_dot_rot (f : T3 u) (g : T3 v) (h : T2 t) (ht : ¬ Zer t) : sg (dot (rot u t) (rot v t)) = sg (dot u v) :=
  sg_pos_mul (Int.mul_pos (nm_pos h ht) (nm_pos h ht)) (dot_rot f g h)
@[simp] theorem sg_det_rot (f : T3 u) (g : T3 v) (i : T3 w) (h : T2 t) (ht : ¬ Zer t) : sg (dot (cross (rot u t) (rot v t)) (rot w t)) = sg (dot (cross u v) w) := by
  rw [cross_rot f g h, dot_scaleL _ (T3_rot (f.cross g) h) (T3_rot i h), sg_mul_pos (nm_pos h ht), sg_dot_rot (f.cross g) i h ht]
/-- turns one after the other -/
def tm : List Int → List Int → List Int
  | [a, b], [c, d] => [a * d + c * b, b * d - a * c]
  | _, _ => []
@[simp] theorem T2_tm (h : T2 s) (g : T2 t) : T2 (tm s t) := by
  obtain ⟨a, b, rfl⟩ := h
  obtain ⟨c, d, rfl⟩ := g
  exact ⟨_, _, rfl⟩
@[simp] theorem Bv_tm {n : Nat} (h : Bv ((n - 1) / 2) s) (k : Bv ((n - 1) / 2) t) : Bv n (tm s t) := by
  unfold tm
  split
  · simp only [Bv_cons] at h k ⊢
    exact ⟨Bd_add (Bd_mul h.1 k.2.1) (Bd_mul k.1 h.2.1), Bd_sub (Bd_mul h.2.1 k.2.1) (Bd_mul h.1 k.1), Bv_nil⟩
  · exact Bv_nil
theorem tm_comm (h : T2 s) (g : T2 t) : tm s t = tm t s := by
  obtain ⟨a, b, rfl⟩ := h
  obtain ⟨c, d, rfl⟩ := g
  simp only [tm, List.cons.injEq, and_true]
  refine ⟨?_, ?_⟩ <;> grind
theorem nm_tm (h : T2 s) (g : T2 t) : nm (tm s t) = nm s * nm t := by
  obtain ⟨a, b, rfl⟩ := h
  obtain ⟨c, d, rfl⟩ := g
  simp only [tm, nm]; grind
theorem tm_nz (h : T2 s) (g : T2 t) (hs : ¬ Zer s) (ht : ¬ Zer t) : ¬ Zer (tm s t) := fun z => by
  have e := nm_tm h g
  have p := Int.mul_pos (nm_pos h hs) (nm_pos g ht)
  obtain ⟨a, b, e2⟩ := T2_tm h g
  rw [← e, e2] at p
  rw [e2] at z
  simp at z
  obtain ⟨rfl, rfl⟩ := z
  simp [nm] at p
@[simp] theorem tm_nz' (h : T2 s) (g : T2 t) (hs : ¬ Zer s) (ht : ¬ Zer t) : Zer (tm s t) = False := eq_false (tm_nz h g hs ht)
theorem rot_rot (f : T3 u) (h : T2 s) (g : T2 t) : rot (rot u s) t = rot u (tm s t) := by
  obtain ⟨x, y, z, rfl⟩ := f
  obtain ⟨a, b, rfl⟩ := h
  obtain ⟨c, d, rfl⟩ := g
  simp only [rot, tm, List.cons.injEq, and_true]
  refine ⟨?_, ?_, ?_⟩ <;> grind
theorem rot_scaleR (k : Int) (f : T3 u) (h : T2 t) : rot u (scale k t) = scale (k * k) (rot u t) := by
  obtain ⟨x, y, z, rfl⟩ := f
  obtain ⟨a, b, rfl⟩ := h
  simp only [rot, scale, List.map_cons, List.map_nil, List.cons.injEq, and_true]
  refine ⟨?_, ?_, ?_⟩ <;> grind
/-- a pair made a turn -/
def upr (v : List Int) : List Int := match red v with
  | [a, b] => if b < 0 ∨ (b = 0 ∧ a < 0) then [-a, -b] else [a, b]
  | w => w
theorem upr_cases (h : T2 v) : upr v = red v ∨ upr v = neg (red v) := by
  obtain ⟨a, b, e⟩ := h.red
  unfold upr
  rw [e]
  dsimp only
  split
  · right; rfl
  · left; rfl
@[simp] theorem T2_upr (h : T2 v) : T2 (upr v) := by
  rcases upr_cases h with e | e <;> rw [e]
  · exact h.red
  · exact T2_neg h.red
@[simp] theorem Tn_upr (h : T2 v) (hz : ¬ Zer v) : Tn (upr v) := by
  refine ⟨T2_upr h, ?_, ?_⟩
  · rcases upr_cases h with e | e <;> rw [e]
    · exact gcdL_red hz
    · rw [gcdL_neg]; exact gcdL_red hz
  · have nz : ¬ Zer (red v) := red_zer hz
    obtain ⟨a, b, e⟩ := h.red
    unfold upr
    rw [e] at nz ⊢
    simp at nz
    dsimp only
    split
    · show 0 < -b ∨ (-b = 0 ∧ 0 < -a); omega
    · show 0 < b ∨ (b = 0 ∧ 0 < a); omega
@[simp] theorem Bv_upr {n : Nat} (h : T2 v) (b : Bv n v) : Bv n (upr v) := by
  rcases upr_cases h with e | e <;> rw [e]
  · exact Bv_red b
  · exact Bv_neg.mpr (Bv_red b)
theorem upr_scale (h : T2 v) (hz : ¬ Zer v) : ∃ k : Int, k ≠ 0 ∧ v = scale k (upr v) := by
  have g := gcdL_pos hz
  rcases upr_cases h with e | e <;> rw [e]
  · exact ⟨gcdL v, by omega, (scale_red v).symm⟩
  · refine ⟨-(gcdL v : Int), by omega, ?_⟩
    rw [scale_neg, neg_neg, scale_red]
theorem sqp {k : Int} (h : k ≠ 0) : 0 < k * k := by
  have := sq_nn k
  rcases Int.lt_or_eq_of_le this with q | q
  · exact q
  · exact absurd (sq_zero q.symm) h
@[simp] theorem red_rot_upr (f : T3 u) (h : T2 t) (ht : ¬ Zer t) : red (rot u (upr t)) = red (rot u t) := by
  obtain ⟨k, hk, e⟩ := upr_scale h ht
  conv => rhs; rw [e, rot_scaleR k f (T2_upr h), red_scale (sqp hk)]
/-- a turn is known by its direction -/
theorem upr_tn (h : Tn t) : upr t = t := by
  obtain ⟨⟨a, b, rfl⟩, g, p⟩ := h
  unfold upr
  rw [red_unit g]
  simp only [Up] at p
  dsimp only
  rw [if_neg (by omega)]
def tb : List Int → List Int
  | [a, b] => if b = 0 then [a, b] else [-a, b]
  | v => v
@[simp] theorem Tn_tb (h : Tn t) : Tn (tb t) := by
  obtain ⟨⟨a, b, rfl⟩, g, p⟩ := h
  simp only [tb]
  split
  · exact ⟨⟨a, b, rfl⟩, g, p⟩
  · refine ⟨⟨-a, b, rfl⟩, ?_, ?_⟩
    · simpa [gcdL] using g
    · simp only [Up] at p ⊢; omega
@[simp] theorem T2_tb (h : T2 t) : T2 (tb t) := by
  obtain ⟨a, b, rfl⟩ := h
  simp only [tb]
  split <;> exact ⟨_, _, rfl⟩
@[simp] theorem Zer_tb (h : T2 t) : Zer (tb t) ↔ Zer t := by
  obtain ⟨a, b, rfl⟩ := h
  simp only [tb]
  split <;> simp
@[simp] theorem Zer_upr (h : T2 v) : Zer (upr v) ↔ Zer v := by
  rcases upr_cases h with e | e <;> rw [e] <;> simp
@[simp] theorem Bv_tb {n : Nat} (b : Bv n t) : Bv n (tb t) := by
  unfold tb
  split
  · simp only [Bv_cons] at b
    split
    · simp; exact ⟨b.1, b.2.1⟩
    · simp; exact ⟨b.1, b.2.1⟩
  · exact b
/-- back again -/
theorem rot_tb (f : T3 u) (h : Tn t) : rot (rot u t) (tb t) = scale (nm t * nm t) u := by
  obtain ⟨x, y, z, rfl⟩ := f
  obtain ⟨⟨a, b, rfl⟩, g, p⟩ := h
  simp only [tb]
  split
  · rename_i q
    subst q
    simp only [rot, nm, scale, List.map_cons, List.map_nil, List.cons.injEq, and_true]
    refine ⟨?_, ?_, ?_⟩ <;> grind
  · simp only [rot, nm, scale, List.map_cons, List.map_nil, List.cons.injEq, and_true]
    refine ⟨?_, ?_, ?_⟩ <;> grind
@[simp] theorem red_rot_tb (f : T3 u) (h : Tn t) : red (rot (rot u t) (tb t)) = red u := by
  rw [rot_tb f h, red_scale (Int.mul_pos (nm_pos h.1 h.nz) (nm_pos h.1 h.nz))]
theorem rot_one (f : T3 u) : rot u [0, 1] = u := by
  obtain ⟨x, y, z, rfl⟩ := f
  simp [rot]
theorem p2_rot (f : T3 u) (h : T2 t) : p2 (rot u t) = hm (p2 u) (ph t) := by
  obtain ⟨x, y, z, rfl⟩ := f
  obtain ⟨a, b, rfl⟩ := h
  simp only [rot, p2, hm, ph, List.cons.injEq, and_true]
  refine ⟨?_, ?_⟩ <;> grind
/-- heights: the signed square of z, and the square of the length -/
def ht : List Int → List Int
  | [x, y, z] => [z * (if z < 0 then -z else z), x * x + y * y + z * z]
  | v => v
@[simp] theorem T2_ht (f : T3 u) : T2 (ht u) := by obtain ⟨x, y, z, rfl⟩ := f; exact ⟨_, _, rfl⟩
@[simp] theorem ht_nz (f : T3 u) (hu : ¬ Zer u) : Zer (ht u) = False := by
  have p := dot_pos f hu
  obtain ⟨x, y, z, rfl⟩ := f
  simp only [dot] at p
  simp [ht]
  intro _; omega
@[simp] theorem Bv_ht {n : Nat} (f : T3 u) (b : Bv (n / 2 - 1) u) : Bv n (ht u) := by
  have d := Bd_dot (n := n) (v := u) (w := u) (b.mono (by omega)) (b.mono (by omega))
  obtain ⟨x, y, z, rfl⟩ := f
  simp only [Bv_cons, ht, dot] at b d ⊢
  exact ⟨Bd_mul (b.2.2.1.mono (by omega)) (Bd_ite (Bd_neg.mpr (b.2.2.1.mono (by omega))) (b.2.2.1.mono (by omega))), d, Bv_nil⟩
theorem ht_scale {k : Int} (hk : 0 < k) (f : T3 u) : ht (scale k u) = scale (k * k) (ht u) := by
  obtain ⟨x, y, z, rfl⟩ := f
  have s : k * z < 0 ↔ z < 0 := by
    constructor
    · intro q
      rcases Int.lt_trichotomy z 0 with w | w | w
      · exact w
      · subst w; simp at q
      · have := Int.mul_pos hk w; omega
    · exact fun q => Int.mul_neg_of_pos_of_neg hk q
  simp only [ht, scale, List.map_cons, List.map_nil, List.cons.injEq, and_true]
  refine ⟨?_, ?_⟩
  · by_cases q : z < 0
    · rw [if_pos (s.mpr q), if_pos q]; grind
    · rw [if_neg (fun w => q (s.mp w)), if_neg q]; grind
  · grind
@[simp] theorem red_ht (f : T3 u) (hu : ¬ Zer u) : red (ht (red u)) = red (ht u) := by
  obtain ⟨k, hk, e⟩ := scale_red_pos hu
  conv => rhs; rw [e, ht_scale hk f.red, red_scale (Int.mul_pos hk hk)]
theorem ht_rot (f : T3 u) (h : T2 t) (hn : 0 < nm t) : ht (rot u t) = scale (nm t * nm t) (ht u) := by
  obtain ⟨x, y, z, rfl⟩ := f
  obtain ⟨a, b, rfl⟩ := h
  simp only [nm] at hn
  have s : (a * a + b * b) * z < 0 ↔ z < 0 := by
    constructor
    · intro q
      rcases Int.lt_trichotomy z 0 with w | w | w
      · exact w
      · subst w; simp at q
      · have := Int.mul_pos hn w; omega
    · exact fun q => Int.mul_neg_of_pos_of_neg hn q
  simp only [ht, rot, scale, nm, List.map_cons, List.map_nil, List.cons.injEq, and_true]
  refine ⟨?_, ?_⟩
  · by_cases q : z < 0
    · rw [if_pos (s.mpr q), if_pos q]; grind
    · rw [if_neg (fun w => q (s.mp w)), if_neg q]; grind
  · grind
@[simp] theorem red_ht_rot (f : T3 u) (h : T2 t) (ht' : ¬ Zer t) : red (ht (rot u t)) = red (ht u) := by
  rw [ht_rot f h (nm_pos h ht'), red_scale (Int.mul_pos (nm_pos h ht') (nm_pos h ht'))]
end
end Vec

set_option maxHeartbeats 2000000
/-! ### days and hours -/
namespace Vec
open L3
/-- the signed square -/
def sq (z : Int) : Int := z * (if z < 0 then -z else z)
theorem sq_neg (z : Int) : sq (-z) = -sq z := by
  unfold sq
  split <;> split <;> grind
theorem sq_mul {k : Int} (hk : 0 < k) (z : Int) : sq (k * z) = k * k * sq z := by
  have s : k * z < 0 ↔ z < 0 := by
    constructor
    · intro q
      rcases Int.lt_trichotomy z 0 with w | w | w
      · exact w
      · subst w; simp at q
      · have := Int.mul_pos hk w; omega
    · exact fun q => Int.mul_neg_of_pos_of_neg hk q
  unfold sq
  by_cases q : z < 0
  · rw [if_pos (s.mpr q), if_pos q]; grind
  · rw [if_neg (fun w => q (s.mp w)), if_neg q]; grind
theorem sq_lt {x y : Int} : sq x < sq y ↔ x < y := by
  have key : ∀ {x y : Int}, x < y → sq x < sq y := fun {x y} h => by
    unfold sq
    by_cases a : x < 0
    · by_cases b : y < 0
      · rw [if_pos a, if_pos b]
        have h1 := Int.mul_pos_of_neg_of_neg (show x - y < 0 by omega) (show x + y < 0 by omega)
        have : (x - y) * (x + y) = x * x - y * y := by grind
        have e1 : x * -x = -(x * x) := by grind
        have e2 : y * -y = -(y * y) := by grind
        omega
      · rw [if_pos a, if_neg b]
        have h1 := Int.mul_pos_of_neg_of_neg a a
        have e1 : x * -x = -(x * x) := by grind
        have h2 := sq_nn y
        omega
    · rw [if_neg a, if_neg (by omega)]
      have h1 := Int.mul_pos (show 0 < y - x by omega) (show 0 < y + x by omega)
      have : (y - x) * (y + x) = y * y - x * x := by grind
      omega
  constructor
  · intro h
    rcases Int.lt_trichotomy x y with w | w | w
    · exact w
    · subst w; omega
    · have := key w; omega
  · exact key
@[simp] theorem Bd_sq {n : Nat} {z : Int} (h : Bd (n / 2) z) : Bd n (sq z) := Bd_mul h (Bd_ite (Bd_neg.mpr h) h)
theorem ht_sq (x y z : Int) : ht [x, y, z] = [sq z, x * x + y * y + z * z] := rfl
/-- a turn by less than a quarter -/
def Dy (t : List Int) : Prop := ∃ a b, t = [a, b] ∧ -b < a ∧ a < b
def Day (t : List Int) : Prop := Tn t ∧ Dy t
/-- the height of a day's turn -/
def hd : List Int → List Int
  | [a, b] => [sq (2 * a * b), (a * a + b * b) * (a * a + b * b)]
  | v => v
/-- the ray of a day at noon -/
def dr : List Int → List Int
  | [a, b] => [b * b - a * a, 0, 2 * a * b]
  | v => v
section
variable {s t u v w : List Int}
@[simp] theorem T2_hd (h : T2 t) : T2 (hd t) := by obtain ⟨a, b, rfl⟩ := h; exact ⟨_, _, rfl⟩
@[simp] theorem T3_dr (h : T2 t) : T3 (dr t) := by obtain ⟨a, b, rfl⟩ := h; exact ⟨_, _, _, rfl⟩
theorem ht_dr (h : T2 t) : ht (dr t) = hd t := by
  obtain ⟨a, b, rfl⟩ := h
  simp only [dr, ht_sq, hd, List.cons.injEq, and_true, true_and]
  grind
theorem dr_nz (h : T2 t) (hz : ¬ Zer t) : ¬ Zer (dr t) := fun z => by
  refine ph_nz h hz ?_
  obtain ⟨a, b, rfl⟩ := h
  simp only [ph, dr, Zer_cons, Zer_nil, and_true] at z ⊢
  exact ⟨z.1, z.2.2⟩
theorem hd_nz (h : T2 t) (hz : ¬ Zer t) : ¬ Zer (hd t) := by
  rw [← ht_dr h, ht_nz (T3_dr h) (dr_nz h hz)]; exact id
@[simp] theorem dr_nz' (h : T2 t) (hz : ¬ Zer t) : Zer (dr t) = False := eq_false (dr_nz h hz)
@[simp] theorem hd_nz' (h : T2 t) (hz : ¬ Zer t) : Zer (hd t) = False := eq_false (hd_nz h hz)
@[simp] theorem Bv_dr {n : Nat} (h : T2 t) (b : Bv ((n - 1) / 2 - 1) t) : Bv n (dr t) := by
  have p := Bv_ph h b
  obtain ⟨x, y, rfl⟩ := h
  simp only [Bv_cons, ph, dr] at p ⊢
  exact ⟨p.1, Bd_zero, p.2.1, Bv_nil⟩
@[simp] theorem Bv_hd {n : Nat} (h : T2 t) (b : Bv ((n / 2 - 1) / 2 - 1) t) : Bv n (hd t) := by
  have p := Bv_ph (n := n / 2) h (b.mono (by omega))
  have q := Bd_nm (n := n / 2) h (b.mono (by omega))
  obtain ⟨x, y, rfl⟩ := h
  simp only [Bv_cons, ph, nm, hd] at p q ⊢
  exact ⟨Bd_sq p.2.1, Bd_mul q q, Bv_nil⟩
theorem red_ht_day (h : T2 s) (hs : ¬ Zer s) (g : T2 t) (hg : ¬ Zer t) : red (ht (rot (dr s) t)) = red (hd s) := by
  rw [red_ht_rot (T3_dr h) g hg, ht_dr h]
theorem cos_pos (h : Dy s) : ∃ k : Int, 0 < k ∧ p2 (dr s) = [k, 0] := by
  obtain ⟨a, b, rfl, h1, h2⟩ := h
  refine ⟨b * b - a * a, ?_, rfl⟩
  have h := Int.mul_pos (show 0 < b - a by omega) (show 0 < b + a by omega)
  have : (b - a) * (b + a) = b * b - a * a := by grind
  omega
theorem red_p2_day (h : Day s) (g : T2 t) : red (p2 (rot (dr s) t)) = red (ph t) := by
  obtain ⟨k, hk, e⟩ := cos_pos h.2
  rw [p2_rot (T3_dr h.1.1) g, e]
  obtain ⟨a, b, e2⟩ := T2_ph g
  have : hm [k, 0] (ph t) = scale k (ph t) := by rw [e2]; simp [hm, scale]
  rw [this, red_scale hk]
theorem p2_day_nz (h : Day s) (g : T2 t) (hg : ¬ Zer t) : ¬ Zer (p2 (rot (dr s) t)) := by
  obtain ⟨k, hk, e⟩ := cos_pos h.2
  rw [p2_rot (T3_dr h.1.1) g, e, Zer_hm (T2_lit _ _) (T2_ph g)]
  simp [ph_nz g hg]
  omega
@[simp] theorem Day_tb (h : Day t) : Day (tb t) := by
  refine ⟨Tn_tb h.1, ?_⟩
  obtain ⟨_, a, b, rfl, h1, h2⟩ := h
  simp only [tb]
  rw [if_neg (by omega)]
  exact ⟨-a, b, rfl, by omega, by omega⟩
theorem back_day (h : Day s) (g : T2 t) : rot (dr (tb s)) (tm t [1, 0]) = neg (rot (dr s) t) := by
  obtain ⟨_, a, b, rfl, h1, h2⟩ := h
  obtain ⟨c, d, rfl⟩ := g
  simp only [tb]
  rw [if_neg (by omega)]
  simp only [dr, rot, tm, neg, List.map_cons, List.map_nil, List.cons.injEq, and_true]
  refine ⟨?_, ?_, ?_⟩ <;> grind
/-- the first number's sign changed -/
def fl : List Int → List Int
  | [a, b] => [-a, b]
  | v => v
@[simp] theorem T2_fl (h : T2 t) : T2 (fl t) := by obtain ⟨a, b, rfl⟩ := h; exact ⟨_, _, rfl⟩
@[simp] theorem Bv_fl {n : Nat} (h : Bv n t) : Bv n (fl t) := by
  unfold fl
  split
  · simp only [Bv_cons] at h ⊢; exact ⟨Bd_neg.mpr h.1, h.2⟩
  · exact h
theorem gcdL_fl (h : T2 t) : gcdL (fl t) = gcdL t := by obtain ⟨a, b, rfl⟩ := h; simp [fl, gcdL]
@[simp] theorem red_fl (h : T2 t) : red (fl t) = fl (red t) := by
  have g := gcdL_fl h
  have d : ∀ k ∈ t, (gcdL t : Int) ∣ k := fun k hk => Int.ofNat_dvd_left.mpr (gcdL_dvd hk)
  obtain ⟨a, b, rfl⟩ := h
  unfold red
  rw [g]
  simp only [fl, List.map_cons, List.map_nil, List.cons.injEq, and_true]
  exact Int.neg_ediv_of_dvd (d a (by simp))
@[simp] theorem fl_fl (h : T2 t) : fl (fl t) = t := by obtain ⟨a, b, rfl⟩ := h; simp [fl]
theorem hd_tb (h : Day t) : hd (tb t) = fl (hd t) := by
  obtain ⟨_, a, b, rfl, h1, h2⟩ := h
  simp only [tb]
  rw [if_neg (by omega)]
  simp only [hd, fl, List.cons.injEq, and_true]
  refine ⟨?_, by grind⟩
  rw [← sq_neg]; congr 1; grind
theorem ht_neg (f : T3 u) : ht (neg u) = fl (ht u) := by
  obtain ⟨x, y, z, rfl⟩ := f
  simp only [neg, List.map_cons, List.map_nil, ht_sq, fl, sq_neg, List.cons.injEq, and_true, true_and]
  grind
@[simp] theorem red_ht_neg (f : T3 u) : red (ht (neg u)) = fl (red (ht u)) := by rw [ht_neg f, red_fl (T2_ht f)]
/-- the order of fractions -/
def blw : List Int → List Int → Prop
  | [a, b], [c, d] => a * d < c * b
  | _, _ => False
instance (v w : List Int) : Decidable (blw v w) := by unfold blw; split <;> infer_instance
theorem blw_scaleL {k : Int} (hk : 0 < k) (h : T2 v) (g : T2 w) : blw (scale k v) w ↔ blw v w := by
  obtain ⟨a, b, rfl⟩ := h
  obtain ⟨c, d, rfl⟩ := g
  simp only [blw, scale, List.map_cons, List.map_nil]
  have e1 : k * a * d = k * (a * d) := by grind
  have e2 : c * (k * b) = k * (c * b) := by grind
  rw [e1, e2]
  exact ⟨fun q => Int.lt_of_mul_lt_mul_left q (Int.le_of_lt hk), fun q => Int.mul_lt_mul_of_pos_left q hk⟩
theorem blw_scaleR {k : Int} (hk : 0 < k) (h : T2 v) (g : T2 w) : blw v (scale k w) ↔ blw v w := by
  obtain ⟨a, b, rfl⟩ := h
  obtain ⟨c, d, rfl⟩ := g
  simp only [blw, scale, List.map_cons, List.map_nil]
  have e1 : a * (k * d) = k * (a * d) := by grind
  have e2 : k * c * b = k * (c * b) := by grind
  rw [e1, e2]
  exact ⟨fun q => Int.lt_of_mul_lt_mul_left q (Int.le_of_lt hk), fun q => Int.mul_lt_mul_of_pos_left q hk⟩
@[simp] theorem blw_redL (h : T2 v) (g : T2 w) (hv : ¬ Zer v) : blw (red v) w ↔ blw v w := by
  obtain ⟨k, hk, e⟩ := scale_red_pos hv
  conv => rhs; rw [e, blw_scaleL hk h.red g]
@[simp] theorem blw_redR (h : T2 v) (g : T2 w) (hw : ¬ Zer w) : blw v (red w) ↔ blw v w := by
  obtain ⟨k, hk, e⟩ := scale_red_pos hw
  conv => rhs; rw [e, blw_scaleR hk h g.red]
@[simp] theorem blw_irr : ∀ v : List Int, ¬ blw v v
  | [a, b] => by simp [blw]
  | [] => by simp [blw]
  | [_] => by simp [blw]
  | _ :: _ :: _ :: _ => by simp [blw]
theorem blw_asym {v w : List Int} (h : blw v w) : ¬ blw w v := by
  unfold blw at h
  split at h
  · simp only [blw]; omega
  · exact h.elim
/-- days stand in the order of their turns -/
theorem blw_hd (h : Dy s) (g : Dy t) : blw (hd s) (hd t) ↔ blw s t := by
  obtain ⟨a, b, rfl, h1, h2⟩ := h
  obtain ⟨c, d, rfl, g1, g2⟩ := g
  simp only [hd, blw]
  have p1 : 0 < a * a + b * b := by have := sq_nn a; have := Int.mul_pos (show 0 < b by omega) (show 0 < b by omega); omega
  have p2 : 0 < c * c + d * d := by have := sq_nn c; have := Int.mul_pos (show 0 < d by omega) (show 0 < d by omega); omega
  have e1 : sq (2 * a * b) * ((c * c + d * d) * (c * c + d * d)) = sq ((c * c + d * d) * (2 * a * b)) := by rw [sq_mul p2]; grind
  have e2 : sq (2 * c * d) * ((a * a + b * b) * (a * a + b * b)) = sq ((a * a + b * b) * (2 * c * d)) := by rw [sq_mul p1]; grind
  rw [e1, e2, sq_lt]
  have q : 0 < b * d - a * c := by
    have u1 := Int.mul_nonneg (show 0 ≤ b - a by omega) (show 0 ≤ d + c by omega)
    have u2 := Int.mul_pos (show 0 < b + a by omega) (show 0 < d - c by omega)
    have u3 := Int.mul_pos (show 0 < b - a by omega) (show 0 < d + c by omega)
    have e : (b - a) * (d + c) + (b + a) * (d - c) = 2 * (b * d - a * c) := by grind
    omega
  have e3 : (c * c + d * d) * (2 * a * b) - (a * a + b * b) * (2 * c * d) = 2 * ((b * d - a * c) * (a * d - c * b)) := by grind
  constructor
  · intro z
    have : (b * d - a * c) * (a * d - c * b) < 0 := by omega
    rcases Int.lt_trichotomy (a * d - c * b) 0 with w | w | w
    · omega
    · rw [w, Int.mul_zero] at this; omega
    · have := Int.mul_pos q w; omega
  · intro z
    have := Int.mul_neg_of_pos_of_neg q (show a * d - c * b < 0 by omega)
    omega
/-- a day's height lies between the ends -/
theorem hd_in (h : Dy t) : ∃ p q, red (hd t) = [p, q] ∧ 0 < q ∧ -q < p ∧ p < q := by
  obtain ⟨a, b, rfl, h1, h2⟩ := h
  have hz : ¬ Zer (hd [a, b]) := hd_nz (T2_lit _ _) (by simp; omega)
  have g := gcdL_pos hz
  have sc := scale_red (hd [a, b])
  obtain ⟨p, q, e⟩ := T2_red (T2_hd (T2_lit a b))
  refine ⟨p, q, e, ?_⟩
  rw [e] at sc
  simp only [hd, scale, List.map_cons, List.map_nil, List.cons.injEq, and_true] at sc
  obtain ⟨s1, s2⟩ := sc
  have k0 : (0 : Int) < (gcdL [sq (2 * a * b), (a * a + b * b) * (a * a + b * b)] : Int) := by
    have : 0 < gcdL [sq (2 * a * b), (a * a + b * b) * (a * a + b * b)] := g
    omega
  generalize (gcdL [sq (2 * a * b), (a * a + b * b) * (a * a + b * b)] : Int) = k at s1 s2 k0
  have c := Int.mul_pos (show 0 < b - a by omega) (show 0 < b + a by omega)
  have l : 0 < a * a + b * b := by have := sq_nn a; have := Int.mul_pos (show 0 < b by omega) (show 0 < b by omega); omega
  have L : sq (a * a + b * b) = (a * a + b * b) * (a * a + b * b) := by unfold sq; rw [if_neg (by omega)]
  have sm1 := sq_nn (a - b)
  have sm2 := sq_nn (a + b)
  have x1 : sq (2 * a * b) < sq (a * a + b * b) := sq_lt.mpr (by
    have n : (a - b) * (a - b) ≠ 0 := fun q => by have := sq_zero q; omega
    have : (a - b) * (a - b) = a * a + b * b - 2 * a * b := by grind
    omega)
  have x2 : sq (-(a * a + b * b)) < sq (2 * a * b) := sq_lt.mpr (by
    have n : (a + b) * (a + b) ≠ 0 := fun q => by have := sq_zero q; omega
    have : (a + b) * (a + b) = a * a + b * b + 2 * a * b := by grind
    omega)
  rw [sq_neg, L] at x2
  rw [L] at x1
  have L0 := Int.mul_pos l l
  rw [← s1, ← s2] at x1 x2
  rw [← s2] at L0
  have e0 : k * 0 < k * q := by rw [Int.mul_zero]; exact L0
  have e1 : k * -q < k * p := by rw [Int.mul_neg]; exact x2
  exact ⟨Int.lt_of_mul_lt_mul_left e0 (Int.le_of_lt k0), Int.lt_of_mul_lt_mul_left e1 (Int.le_of_lt k0), Int.lt_of_mul_lt_mul_left x1 (Int.le_of_lt k0)⟩
end
end Vec

set_option maxHeartbeats 2000000
/-! ### places, horizons, hours since sunrise -/
namespace Vec
open L3
/-- the horizon of a place -/
def hv : List Int → List Int
  | [p, q] => [p, 0, q]
  | v => v
def yy : List Int → Int
  | [_, y, _] => y
  | _ => 0
/-- a place that is no pole -/
def Warm (P : List Int) : Prop := ∃ p q, P = [p, q] ∧ 0 < p ∧ gcdL P = 1
def mi : List Int → List Int
  | [x, y, z] => [x, -y, z]
  | v => v
section
variable {P s t u v w : List Int}
theorem Warm.t2 (h : Warm P) : T2 P := by obtain ⟨p, q, rfl, _⟩ := h; exact ⟨p, q, rfl⟩
@[simp] theorem T3_hv (h : T2 P) : T3 (hv P) := by obtain ⟨p, q, rfl⟩ := h; exact ⟨_, _, _, rfl⟩
@[simp] theorem Bv_hv {n : Nat} (h : Bv n P) : Bv n (hv P) := by
  unfold hv
  split
  · simp only [Bv_cons] at h ⊢; exact ⟨h.1, Bd_zero, h.2⟩
  · exact h
theorem hv_nz (h : Warm P) : ¬ Zer (hv P) := by
  obtain ⟨p, q, rfl, h1, _⟩ := h
  simp [hv]; omega
@[simp] theorem hv_nz' (h : Warm P) : Zer (hv P) = False := eq_false (hv_nz h)
@[simp] theorem gcdL_hv (h : T2 P) : gcdL (hv P) = gcdL P := by obtain ⟨p, q, rfl⟩ := h; simp [hv, gcdL]
@[simp] theorem T3_mi (h : T3 u) : T3 (mi u) := by obtain ⟨x, y, z, rfl⟩ := h; exact ⟨_, _, _, rfl⟩
@[simp] theorem Zer_mi (h : T3 u) : Zer (mi u) ↔ Zer u := by obtain ⟨x, y, z, rfl⟩ := h; simp [mi]
@[simp] theorem Bv_mi {n : Nat} (h : Bv n u) : Bv n (mi u) := by
  unfold mi
  split
  · simp only [Bv_cons] at h ⊢; exact ⟨h.1, Bd_neg.mpr h.2.1, h.2.2⟩
  · exact h
/-- since sunrise, since sunset -/
def S1 (P u t : List Int) : Prop := dot (hv P) (rot u (tb t)) = 0 ∧ yy (rot u (tb t)) < 0
def S2 (P u t : List Int) : Prop := dot (hv P) (rot u (tb t)) = 0 ∧ 0 < yy (rot u (tb t))
instance : Decidable (S1 P u t) := inferInstanceAs (Decidable (_ ∧ _))
instance : Decidable (S2 P u t) := inferInstanceAs (Decidable (_ ∧ _))
theorem yy_scale (k : Int) (h : T3 u) : yy (scale k u) = k * yy u := by obtain ⟨x, y, z, rfl⟩ := h; rfl
theorem neg_iff {k : Int} (hk : 0 < k) (x : Int) : k * x < 0 ↔ x < 0 := by
  constructor
  · intro q
    rcases Int.lt_trichotomy x 0 with w | w | w
    · exact w
    · subst w; simp at q
    · have := Int.mul_pos hk w; omega
  · exact fun q => Int.mul_neg_of_pos_of_neg hk q
theorem pos_iff {k : Int} (hk : 0 < k) (x : Int) : 0 < k * x ↔ 0 < x := by
  constructor
  · intro q
    rcases Int.lt_trichotomy x 0 with w | w | w
    · have := Int.mul_neg_of_pos_of_neg hk w; omega
    · subst w; simp at q
    · exact w
  · exact fun q => Int.mul_pos hk q
theorem zero_iff {k : Int} (hk : 0 < k) (x : Int) : k * x = 0 ↔ x = 0 := ⟨fun q => (Int.mul_eq_zero.mp q).elim (fun q => by omega) id, fun q => by rw [q, Int.mul_zero]⟩
theorem S1_scale {k : Int} (hk : 0 < k) (hP : T2 P) (f : T3 u) (h : T2 t) : S1 P (scale k u) t ↔ S1 P u t := by
  have t2 := T2_tb h
  unfold S1
  rw [rot_scale k f t2, dot_scaleR k (T3_hv hP) (T3_rot f t2), yy_scale k (T3_rot f t2), zero_iff hk, neg_iff hk]
theorem S2_scale {k : Int} (hk : 0 < k) (hP : T2 P) (f : T3 u) (h : T2 t) : S2 P (scale k u) t ↔ S2 P u t := by
  have t2 := T2_tb h
  unfold S2
  rw [rot_scale k f t2, dot_scaleR k (T3_hv hP) (T3_rot f t2), yy_scale k (T3_rot f t2), zero_iff hk, pos_iff hk]
@[simp] theorem S1_red (hP : T2 P) (f : T3 u) (h : T2 t) (hu : ¬ Zer u) : S1 P (red u) t ↔ S1 P u t := by
  obtain ⟨k, hk, e⟩ := scale_red_pos hu
  conv => rhs; rw [e, S1_scale hk hP f.red h]
@[simp] theorem S2_red (hP : T2 P) (f : T3 u) (h : T2 t) (hu : ¬ Zer u) : S2 P (red u) t ↔ S2 P u t := by
  obtain ⟨k, hk, e⟩ := scale_red_pos hu
  conv => rhs; rw [e, S2_scale hk hP f.red h]
theorem S1_rot (hP : T2 P) (f : T3 u) (h : Tn t) (o : dot (hv P) u = 0) : S1 P (rot u t) t ↔ yy u < 0 := by
  have k := Int.mul_pos (nm_pos h.t2 h.nz) (nm_pos h.t2 h.nz)
  unfold S1
  rw [rot_tb f h, dot_scaleR _ (T3_hv hP) f, yy_scale _ f, o, Int.mul_zero, neg_iff k]
  simp
theorem S2_rot (hP : T2 P) (f : T3 u) (h : Tn t) (o : dot (hv P) u = 0) : S2 P (rot u t) t ↔ 0 < yy u := by
  have k := Int.mul_pos (nm_pos h.t2 h.nz) (nm_pos h.t2 h.nz)
  unfold S2
  rw [rot_tb f h, dot_scaleR _ (T3_hv hP) f, yy_scale _ f, o, Int.mul_zero, pos_iff k]
  simp
theorem whole_scale (f : T3 u) (h : Tn s) (g : Tn t) : ∃ k : Int, 0 < k ∧ rot (rot u s) t = scale k (rot u (upr (tm s t))) := by
  obtain ⟨k, hk, e⟩ := upr_scale (T2_tm h.t2 g.t2) (tm_nz h.t2 g.t2 h.nz g.nz)
  refine ⟨k * k, sqp hk, ?_⟩
  rw [rot_rot f h.t2 g.t2, ← rot_scaleR k f (T2_upr (T2_tm h.t2 g.t2)), ← e]
theorem S1_whole (hP : T2 P) (f : T3 u) (h : Tn s) (g : Tn t) (o : dot (hv P) u = 0) : S1 P (rot (rot u s) t) (upr (tm s t)) ↔ yy u < 0 := by
  have tn := Tn_upr (T2_tm h.t2 g.t2) (tm_nz h.t2 g.t2 h.nz g.nz)
  obtain ⟨k, hk, e⟩ := whole_scale f h g
  rw [e, S1_scale hk hP (T3_rot f tn.t2) tn.t2, S1_rot hP f tn o]
theorem S2_whole (hP : T2 P) (f : T3 u) (h : Tn s) (g : Tn t) (o : dot (hv P) u = 0) : S2 P (rot (rot u s) t) (upr (tm s t)) ↔ 0 < yy u := by
  have tn := Tn_upr (T2_tm h.t2 g.t2) (tm_nz h.t2 g.t2 h.nz g.nz)
  obtain ⟨k, hk, e⟩ := whole_scale f h g
  rw [e, S2_scale hk hP (T3_rot f tn.t2) tn.t2, S2_rot hP f tn o]
theorem tb_tb (h : T2 t) : tb (tb t) = t := by
  obtain ⟨a, b, rfl⟩ := h
  by_cases q : b = 0
  · subst q; simp [tb]
  · simp [tb, q]
theorem rot_mi (f : T3 u) (h : T2 t) : rot (mi u) t = mi (rot u (tb t)) := by
  obtain ⟨x, y, z, rfl⟩ := f
  obtain ⟨a, b, rfl⟩ := h
  by_cases q : b = 0
  · subst q
    simp [mi, rot, tb]
    grind
  · simp only [tb, if_neg q, mi, rot, List.cons.injEq, and_true]
    refine ⟨?_, ?_, ?_⟩ <;> grind
theorem mi_scale (k : Int) (f : T3 u) : mi (scale k u) = scale k (mi u) := by
  obtain ⟨x, y, z, rfl⟩ := f
  simp only [mi, scale, List.map_cons, List.map_nil, List.cons.injEq, and_true, true_and]
  grind
theorem dot_mi (hP : T2 P) (f : T3 u) : dot (hv P) (mi u) = dot (hv P) u := by
  obtain ⟨p, q, rfl⟩ := hP
  obtain ⟨x, y, z, rfl⟩ := f
  simp [hv, mi, dot]
theorem yy_mi (f : T3 u) : yy (mi u) = -yy u := by obtain ⟨x, y, z, rfl⟩ := f; rfl
theorem S2_mi (hP : T2 P) (f : T3 u) (h : Tn t) (o : dot (hv P) u = 0) : S2 P (mi (rot u t)) (tb t) ↔ yy u < 0 := by
  have k := Int.mul_pos (nm_pos h.t2 h.nz) (nm_pos h.t2 h.nz)
  unfold S2
  rw [tb_tb h.t2, rot_mi (T3_rot f h.t2) h.t2, rot_tb f h, mi_scale _ f, dot_scaleR _ (T3_hv hP) (T3_mi f), dot_mi hP f, o, Int.mul_zero, yy_scale _ (T3_mi f), yy_mi f, pos_iff k]
  simp; 
theorem mi_red (f : T3 u) (hu : ¬ Zer u) : ∃ k : Int, 0 < k ∧ mi u = scale k (mi (red u)) := by
  obtain ⟨k, hk, e⟩ := scale_red_pos hu
  exact ⟨k, hk, by rw [← mi_scale _ f.red, ← e]⟩
@[simp] theorem S2_mi_red (hP : T2 P) (f : T3 u) (h : T2 t) (hu : ¬ Zer u) : S2 P (mi (red u)) t ↔ S2 P (mi u) t := by
  obtain ⟨k, hk, e⟩ := mi_red f hu
  rw [e, S2_scale hk hP (T3_mi f.red) h]
/-- two turns of one direction are the same -/
theorem Tn_eq (h : Tn s) (g : Tn t) (e : ∃ a b c d, s = [a, b] ∧ t = [c, d] ∧ a * d = c * b) : s = t := by
  obtain ⟨a, b, c, d, rfl, rfl, e⟩ := e
  have u1 := h.2.2
  have u2 := g.2.2
  simp only [Up] at u1 u2
  have key : scale (d * d + c * c) [a, b] = scale (b * d + a * c) [c, d] := by
    simp only [scale, List.map_cons, List.map_nil, List.cons.injEq, and_true]
    refine ⟨?_, ?_⟩ <;> grind
  have n := nm_pos g.t2 g.nz
  simp only [nm] at n
  have n' : 0 < d * d + c * c := by omega
  rcases Int.lt_trichotomy (b * d + a * c) 0 with w | w | w
  · exfalso
    rcases u1 with u1 | ⟨rfl, u1⟩
    · rcases u2 with u2 | ⟨rfl, u2⟩
      · have z := Int.mul_pos u1 u2
        have : a * c < 0 := by omega
        have l := Int.mul_neg_of_neg_of_pos this z
        have e3 : a * c * (b * d) = (a * d) * (c * b) := by grind
        rw [e3, e] at l
        have := sq_nn (c * b); omega
      · have : a = 0 ∨ c * b ≠ 0 := by
          right; exact Int.mul_ne_zero (by omega) (by omega)
        rcases this with q | q
        · subst q; omega
        · rw [← e] at q; simp at q
    · rcases u2 with u2 | ⟨rfl, u2⟩
      · have : a * d ≠ 0 := Int.mul_ne_zero (by omega) (by omega)
        rw [e] at this; simp at this
      · have := Int.mul_pos u1 u2; omega
  · exfalso
    rw [w] at key
    simp only [scale, List.map_cons, List.map_nil, Int.zero_mul, List.cons.injEq, and_true] at key
    have k1 := (Int.mul_eq_zero.mp key.1).elim (fun q => by omega) id
    have k2 := (Int.mul_eq_zero.mp key.2).elim (fun q => by omega) id
    omega
  · have := red_along n' w key
    rw [red_unit h.2.1, red_unit g.2.1] at this
    exact this
/-- at most one turn fits -/
theorem diff_id {a b p q x y z : Int} (hp : 0 < p) (h1 : p * x + q * z = 0) (h2 : p * ((b * b - a * a) * x - 2 * a * b * y) + q * ((a * a + b * b) * z) = 0)
    (hs : 0 < y * (2 * a * b * x + (b * b - a * a) * y)) : a = 0 := by
  have e1 : p * ((b * b - a * a) * x - 2 * a * b * y) = p * ((a * a + b * b) * x) := by
    have : (a * a + b * b) * (p * x + q * z) = 0 := by rw [h1, Int.mul_zero]
    grind
  have e2 : (b * b - a * a) * x - 2 * a * b * y = (a * a + b * b) * x := Int.eq_of_mul_eq_mul_left (by omega) e1
  have e3 : a * (a * x + b * y) = 0 := by grind
  rcases Int.mul_eq_zero.mp e3 with w | w
  · exact w
  · -- the y turned is the opposite one
    have e4 : b * (2 * a * b * x + (b * b - a * a) * y) = - (b * ((a * a + b * b) * y)) := by
      have : b * (2 * a * b * x + (b * b - a * a) * y) + b * ((a * a + b * b) * y) = 2 * b * b * (a * x + b * y) := by grind
      rw [w, Int.mul_zero] at this
      omega
    by_cases hb : b = 0
    · subst hb
      have e5 : a * x = 0 := by simpa using w
      rcases Int.mul_eq_zero.mp e5 with v | v
      · exact v
      · subst v
        exfalso
        have e6 : y * (2 * a * 0 * 0 + (0 * 0 - a * a) * y) = -((a * a) * (y * y)) := by grind
        have := Int.mul_nonneg (sq_nn a) (sq_nn y)
        omega
    · exfalso
      have e5 : 2 * a * b * x + (b * b - a * a) * y = -((a * a + b * b) * y) := by
        have : b * (2 * a * b * x + (b * b - a * a) * y) = b * (-((a * a + b * b) * y)) := by rw [e4]; grind
        exact Int.eq_of_mul_eq_mul_left hb this
      rw [e5] at hs
      have e6 : y * -((a * a + b * b) * y) = -((a * a + b * b) * (y * y)) := by grind
      have n : 0 ≤ a * a + b * b := by have := sq_nn a; have := sq_nn b; omega
      have := Int.mul_nonneg n (sq_nn y)
      omega
theorem same_turn (h : Tn s) (g : Tn t) (e : ∃ a b, tm s (tb t) = [a, b] ∧ a = 0) : s = t := by
  obtain ⟨a, b, e, rfl⟩ := e
  obtain ⟨⟨p, q, rfl⟩, _, u1⟩ := id h
  obtain ⟨⟨c, d, rfl⟩, _, u2⟩ := id g
  refine Tn_eq h g ⟨p, q, c, d, rfl, rfl, ?_⟩
  simp only [Up] at u1 u2
  simp only [tb] at e
  split at e
  · rename_i w
    subst w
    simp only [tm, List.cons.injEq, and_true] at e
    have e1 := e.1
    have : c * q = 0 := by omega
    rw [this]; simp
  · simp only [tm, List.cons.injEq, and_true] at e
    have e1 := e.1
    have : -c * q = -(c * q) := by grind
    omega
theorem uniq_turn (hP : Warm P) (f : T3 u) (h : Tn s) (g : Tn t) (o : dot (hv P) u = 0) (d : dot (hv P) (rot (rot u s) (tb t)) = 0) (y : 0 < yy u * yy (rot (rot u s) (tb t))) : s = t := by
  rw [rot_rot f h.t2 (T2_tb g.t2)] at d y
  obtain ⟨a, b, e⟩ := T2_tm h.t2 (T2_tb g.t2)
  refine same_turn h g ⟨a, b, e, ?_⟩
  rw [e] at d y
  obtain ⟨p, q, rfl, hp, _⟩ := hP
  obtain ⟨x, yv, z, rfl⟩ := f
  simp only [hv, dot, rot, yy] at o d y
  refine diff_id (p := p) (q := q) (x := x) (y := yv) (z := z) (b := b) hp (by omega) (by omega) y
theorem S1_uniq (hP : Warm P) (f : T3 u) (h : Tn s) (g : Tn t) (o : dot (hv P) u = 0) (y : yy u < 0) (k : S1 P (rot u s) t) : s = t := uniq_turn hP f h g o k.1 (Int.mul_pos_of_neg_of_neg y k.2)
theorem S2_uniq (hP : Warm P) (f : T3 u) (h : Tn s) (g : Tn t) (o : dot (hv P) u = 0) (y : 0 < yy u) (k : S2 P (rot u s) t) : s = t := uniq_turn hP f h g o k.1 (Int.mul_pos y k.2)
/-- the turned horizon and the ray turned back -/
theorem on_turned (hP : T2 P) (f : T3 u) (h : Tn t) : dot (rot (hv P) t) u = dot (hv P) (rot u (tb t)) := by
  obtain ⟨p, q, rfl⟩ := hP
  obtain ⟨x, y, z, rfl⟩ := f
  obtain ⟨⟨a, b, rfl⟩, _, _⟩ := h
  simp only [tb]
  split
  · rename_i w
    subst w
    simp only [hv, rot, dot]; grind
  · simp only [hv, rot, dot]; grind
theorem S_or (hP : T2 P) (f : T3 u) (h : T2 t) (o : dot (hv P) (rot u (tb t)) = 0) : S1 P u t ∨ S2 P u t ∨ yy (rot u (tb t)) = 0 := by
  unfold S1 S2
  rcases Int.lt_trichotomy (yy (rot u (tb t))) 0 with w | w | w
  · exact .inl ⟨o, w⟩
  · exact .inr (.inr w)
  · exact .inr (.inl ⟨o, w⟩)
end
end Vec

set_option maxHeartbeats 2000000
/-! ### the sign of a plane at a day and an hour -/
namespace Vec
open L3
def ab (z : Int) : Int := if z < 0 then -z else z
theorem ab_pos {z : Int} (h : 0 ≤ z) : ab z = z := if_neg (by omega)
theorem ab_neg' {z : Int} (h : z < 0) : ab z = -z := if_pos h
theorem ab_neg (z : Int) : ab (-z) = ab z := by unfold ab; split <;> split <;> omega
theorem ab_mul {k : Int} (hk : 0 < k) (z : Int) : ab (k * z) = k * ab z := by
  have s := neg_iff hk z
  unfold ab
  by_cases q : z < 0
  · rw [if_pos (s.mpr q), if_pos q]; grind
  · rw [if_neg (fun w => q (s.mp w)), if_neg q]
/-- its sum -/
def sd : List Int → List Int → List Int → Int
  | [x, y, z], [p, q], [c, s] => sq (x * c + y * s) * (q - ab p) + sq z * p * (c * c + s * s)
  | _, _, _ => 0
section
variable {u v w t d h : List Int}
theorem sd_plane {k : Int} (hk : 0 < k) (f : T3 u) (g : T2 d) (i : T2 h) : sd (scale k u) d h = k * k * sd u d h := by
  obtain ⟨x, y, z, rfl⟩ := f
  obtain ⟨p, q, rfl⟩ := g
  obtain ⟨c, s, rfl⟩ := i
  simp only [scale, List.map_cons, List.map_nil, sd]
  have e : k * x * c + k * y * s = k * (x * c + y * s) := by grind
  rw [e, sq_mul hk, sq_mul hk]; grind
theorem sd_day {k : Int} (hk : 0 < k) (f : T3 u) (g : T2 d) (i : T2 h) : sd u (scale k d) h = k * sd u d h := by
  obtain ⟨x, y, z, rfl⟩ := f
  obtain ⟨p, q, rfl⟩ := g
  obtain ⟨c, s, rfl⟩ := i
  simp only [scale, List.map_cons, List.map_nil, sd]
  rw [ab_mul hk]; grind
theorem sd_hour {k : Int} (hk : 0 < k) (f : T3 u) (g : T2 d) (i : T2 h) : sd u d (scale k h) = k * k * sd u d h := by
  obtain ⟨x, y, z, rfl⟩ := f
  obtain ⟨p, q, rfl⟩ := g
  obtain ⟨c, s, rfl⟩ := i
  simp only [scale, List.map_cons, List.map_nil, sd]
  have e : x * (k * c) + y * (k * s) = k * (x * c + y * s) := by grind
  rw [e, sq_mul hk]; grind
@[simp] theorem sg_sd1 (f : T3 u) (g : T2 d) (i : T2 h) (hu : ¬ Zer u) : sg (sd (red u) d h) = sg (sd u d h) := by
  obtain ⟨k, hk, e⟩ := scale_red_pos hu
  conv => rhs; rw [e, sd_plane hk f.red g i, sg_mul_pos (Int.mul_pos hk hk)]
@[simp] theorem sg_sd2 (f : T3 u) (g : T2 d) (i : T2 h) (hd : ¬ Zer d) : sg (sd u (red d) h) = sg (sd u d h) := by
  obtain ⟨k, hk, e⟩ := scale_red_pos hd
  conv => rhs; rw [e, sd_day hk f g.red i, sg_mul_pos hk]
@[simp] theorem sg_sd3 (f : T3 u) (g : T2 d) (i : T2 h) (hh : ¬ Zer h) : sg (sd u d (red h)) = sg (sd u d h) := by
  obtain ⟨k, hk, e⟩ := scale_red_pos hh
  conv => rhs; rw [e, sd_hour hk f g i.red, sg_mul_pos (Int.mul_pos hk hk)]
@[simp] theorem sd_neg (f : T3 u) (g : T2 d) (i : T2 h) : sd (neg u) d h = -sd u d h := by
  obtain ⟨x, y, z, rfl⟩ := f
  obtain ⟨p, q, rfl⟩ := g
  obtain ⟨c, s, rfl⟩ := i
  simp only [neg, List.map_cons, List.map_nil, sd]
  have e : -x * c + -y * s = -(x * c + y * s) := by grind
  rw [e, sq_neg, sq_neg]; grind
@[simp] theorem sd_other (f : T3 u) (g : T2 d) (i : T2 h) : sd u (fl d) (neg h) = -sd u d h := by
  obtain ⟨x, y, z, rfl⟩ := f
  obtain ⟨p, q, rfl⟩ := g
  obtain ⟨c, s, rfl⟩ := i
  simp only [neg, fl, List.map_cons, List.map_nil, sd]
  have e : x * -c + y * -s = -(x * c + y * s) := by grind
  rw [e, sq_neg, ab_neg]; grind
theorem sq_prod (a b : Int) : sq a * sq b = sq (a * b) := by
  unfold sq
  by_cases p : a < 0
  · by_cases q : b < 0
    · have := Int.mul_pos_of_neg_of_neg p q
      rw [if_pos p, if_pos q, if_neg (by omega)]; grind
    · by_cases r : b = 0
      · subst r; simp
      · have := Int.mul_neg_of_neg_of_pos p (show 0 < b by omega)
        rw [if_pos p, if_neg q, if_pos this]; grind
  · by_cases q : b < 0
    · by_cases r : a = 0
      · subst r; simp
      · have := Int.mul_neg_of_pos_of_neg (show 0 < a by omega) q
        rw [if_neg p, if_pos q, if_pos this]; grind
    · have := Int.mul_nonneg (show 0 ≤ a by omega) (show 0 ≤ b by omega)
      rw [if_neg p, if_neg q, if_neg (by omega)]; grind
theorem sg_eq {a b : Int} (h1 : 0 < a ↔ 0 < b) (h2 : a < 0 ↔ b < 0) : sg a = sg b := by
  unfold sg
  by_cases p : 0 < a
  · rw [if_pos p, if_pos (h1.mp p)]
  · rw [if_neg p, if_neg (fun q => p (h1.mpr q))]
    by_cases q : a < 0
    · rw [if_pos q, if_pos (h2.mp q)]
    · rw [if_neg q, if_neg (fun r => q (h2.mpr r))]
theorem sg_sq_add (a b : Int) : sg (sq a + sq b) = sg (a + b) := by
  refine sg_eq ?_ ?_
  · have : 0 < sq a + sq b ↔ sq (-b) < sq a := by rw [sq_neg]; omega
    rw [this, sq_lt]; omega
  · have : sq a + sq b < 0 ↔ sq a < sq (-b) := by rw [sq_neg]; omega
    rw [this, sq_lt]; omega
/-- at a whole ray's day and hour -/
theorem sd_whole (f : T3 u) (g : T3 v) (hz : ¬ Zer (p2 v)) : sg (sd u (ht v) (p2 v)) = sg (dot u v) := by
  obtain ⟨x, y, z, rfl⟩ := f
  obtain ⟨a, b, c, rfl⟩ := g
  have n := nm_pos (t := [a, b]) (T2_lit a b) hz
  simp only [nm] at n
  simp only [ht_sq, p2, sd, dot]
  have e : a * a + b * b + c * c - ab (sq c) = a * a + b * b := by
    have : ab (sq c) = c * c := by
      unfold sq
      by_cases q : c < 0
      · rw [if_pos q]
        have := Int.mul_pos_of_neg_of_neg q q
        rw [ab_neg' (by have : c * -c = -(c * c) := by grind
                        omega)]; grind
      · rw [if_neg q, ab_pos (sq_nn c)]
    rw [this]; omega
  rw [e]
  have e2 : sq (x * a + y * b) * (a * a + b * b) + sq z * sq c * (a * a + b * b) = (a * a + b * b) * (sq (x * a + y * b) + sq (z * c)) := by rw [← sq_prod]; grind
  rw [e2, sg_mul_pos n, sg_sq_add]
theorem sd_turned (f : T3 u) (g : T2 d) (i : T2 h) (k : T2 t) (hz : ¬ Zer t) : sg (sd (rot u t) d (hm h (ph t))) = sg (sd u d h) := by
  have n := nm_pos k hz
  obtain ⟨x, y, z, rfl⟩ := f
  obtain ⟨p, q, rfl⟩ := g
  obtain ⟨c, s, rfl⟩ := i
  obtain ⟨a, b, rfl⟩ := k
  simp only [nm] at n
  refine sg_pos_mul (k := (a * a + b * b) * (a * a + b * b) * ((a * a + b * b) * (a * a + b * b))) (Int.mul_pos (Int.mul_pos n n) (Int.mul_pos n n)) ?_
  simp only [rot, ph, hm, sd]
  have e1 : ((b * b - a * a) * x - 2 * a * b * y) * (c * (b * b - a * a) - s * (2 * a * b)) + (2 * a * b * x + (b * b - a * a) * y) * (c * (2 * a * b) + s * (b * b - a * a)) = (a * a + b * b) * (a * a + b * b) * (x * c + y * s) := by grind
  have e2 : (c * (b * b - a * a) - s * (2 * a * b)) * (c * (b * b - a * a) - s * (2 * a * b)) + (c * (2 * a * b) + s * (b * b - a * a)) * (c * (2 * a * b) + s * (b * b - a * a)) = (a * a + b * b) * (a * a + b * b) * (c * c + s * s) := by grind
  rw [e1, e2, sq_mul (Int.mul_pos n n), sq_mul n]
  generalize a * a + b * b = L
  generalize sq (x * c + y * s) = A
  generalize sq z = B
  generalize c * c + s * s = C
  generalize ab p = E
  grind
/-- a day -/
def Dat (d : List Int) : Prop := ∃ p q, d = [p, q] ∧ 0 < q ∧ -q < p ∧ p < q
theorem Dat.t2 (h : Dat d) : T2 d := by obtain ⟨p, q, rfl, _⟩ := h; exact ⟨p, q, rfl⟩
theorem Dat.nz (h : Dat d) : ¬ Zer d := by obtain ⟨p, q, rfl, h1, _⟩ := h; simp; omega
theorem Dat_fl (h : Dat d) : Dat (fl d) := by obtain ⟨p, q, rfl, h1, h2, h3⟩ := h; exact ⟨-p, q, rfl, h1, by omega, by omega⟩
theorem Dat_red (h : Dat d) : Dat (red d) := by
  obtain ⟨k, hk, e⟩ := scale_red_pos h.nz
  obtain ⟨p, q, e2⟩ := h.t2.red
  rw [e2] at e ⊢
  obtain ⟨a, b, rfl, h1, h2, h3⟩ := h
  simp only [scale, List.map_cons, List.map_nil, List.cons.injEq, and_true] at e
  obtain ⟨s1, s2⟩ := e
  refine ⟨p, q, rfl, ?_, ?_, ?_⟩
  · exact (pos_iff hk q).mp (by omega)
  · have : k * -q < k * p := by rw [Int.mul_neg]; omega
    exact Int.lt_of_mul_lt_mul_left this (Int.le_of_lt hk)
  · have : k * p < k * q := by omega
    exact Int.lt_of_mul_lt_mul_left this (Int.le_of_lt hk)
theorem Dat_ht (f : T3 u) (hz : ¬ Zer (p2 u)) : Dat (ht u) := by
  obtain ⟨x, y, z, rfl⟩ := f
  have n := nm_pos (t := [x, y]) (T2_lit x y) hz
  simp only [nm] at n
  refine ⟨_, _, ht_sq x y z, ?_, ?_, ?_⟩
  · have := sq_nn z; omega
  · unfold sq
    have := sq_nn z
    split
    · have e : z * -z = -(z * z) := by grind
      omega
    · omega
  · unfold sq
    have := sq_nn z
    split
    · have e : z * -z = -(z * z) := by grind
      omega
    · omega
theorem Dat_hd (h : Dy t) : Dat (red (hd t)) := hd_in h
/-- on the hour's half plane the sides go up with the day -/
theorem grows {a c p q r s : Int} (hc : 0 < c) (h1 : 0 < q) (h2 : -q < p) (h3 : p < q) (k1 : 0 < s) (k2 : -s < r) (k3 : r < s) (l : p * s < r * q) : sg (a * (q - ab p) + c * p) ≤ sg (a * (s - ab r) + c * r) := by
  have key : 0 ≤ a * (q - ab p) + c * p → 0 < a * (s - ab r) + c * r := by
    intro g
    by_cases hp : p < 0
    · rw [ab_neg' hp] at g
      have cp := Int.mul_neg_of_pos_of_neg hc hp
      have ha : 0 < a := by
        have : 0 < a * (q - -p) := by omega
        rw [Int.mul_comm] at this
        exact (pos_iff (show 0 < q - -p by omega) a).mp this
      by_cases hr : r < 0
      · rw [ab_neg' hr]
        have e1 : (q - -p) * (a * (s - -r) + c * r) = (s - -r) * (a * (q - -p) + c * p) + c * (r * q - p * s) := by grind
        have e2 := Int.mul_pos hc (show 0 < r * q - p * s by omega)
        have e3 := Int.mul_nonneg (show 0 ≤ s - -r by omega) g
        exact (pos_iff (show 0 < q - -p by omega) _).mp (by omega)
      · rw [ab_pos (by omega)]
        have e1 := Int.mul_pos ha (show 0 < s - r by omega)
        have e2 := Int.mul_nonneg (Int.le_of_lt hc) (show 0 ≤ r by omega)
        omega
    · rw [ab_pos (by omega)] at g
      have hr : 0 < r := by
        have e := Int.mul_nonneg (show 0 ≤ p by omega) (Int.le_of_lt k1)
        have : 0 < q * r := by rw [Int.mul_comm]; omega
        exact (pos_iff h1 r).mp this
      rw [ab_pos (by omega)]
      have e1 : (q - p) * (a * (s - r) + c * r) = (s - r) * (a * (q - p) + c * p) + c * (r * q - p * s) := by grind
      have e2 := Int.mul_pos hc (show 0 < r * q - p * s by omega)
      have e3 := Int.mul_nonneg (show 0 ≤ s - r by omega) g
      exact (pos_iff (show 0 < q - p by omega) _).mp (by omega)
  unfold sg
  split
  · rw [if_pos (key (by omega))]; decide
  · split
    · split
      · decide
      · split <;> decide
    · rw [if_pos (key (by omega))]; decide
theorem sd_grows {x y z : Int} (hz : 0 < z) (g : Dat d) (k : Dat w) (i : T2 h) (hh : ¬ Zer h) (l : blw d w) : sg (sd [x, y, z] d h) ≤ sg (sd [x, y, z] w h) := by
  have n := nm_pos i hh
  obtain ⟨p, q, rfl, h1, h2, h3⟩ := g
  obtain ⟨r, s, rfl, k1, k2, k3⟩ := k
  obtain ⟨c, e, rfl⟩ := i
  simp only [nm] at n
  simp only [blw] at l
  have sz : 0 < sq z := by unfold sq; rw [if_neg (by omega)]; exact Int.mul_pos hz hz
  have := grows (a := sq (x * c + y * e)) (Int.mul_pos sz n) h1 h2 h3 k1 k2 k3 l
  simp only [sd]
  have e1 : ∀ p : Int, sq z * p * (c * c + e * e) = sq z * (c * c + e * e) * p := fun p => by grind
  rw [e1, e1]
  exact this
theorem sd_falls {x y z : Int} (hz : z < 0) (g : Dat d) (k : Dat w) (i : T2 h) (hh : ¬ Zer h) (l : blw d w) : sg (sd [x, y, z] w h) ≤ sg (sd [x, y, z] d h) := by
  have a := sd_grows (x := -x) (y := -y) (z := -z) (by omega) g k i hh l
  have e : [-x, -y, -z] = neg [x, y, z] := rfl
  rw [e, sd_neg (T3_lit _ _ _) g.t2 i, sd_neg (T3_lit _ _ _) k.t2 i, sg_neg, sg_neg] at a
  omega
theorem sd_stays {x y : Int} (g : Dat d) (k : Dat w) (i : T2 h) : sg (sd [x, y, 0] d h) = sg (sd [x, y, 0] w h) := by
  obtain ⟨p, q, rfl, h1, h2, h3⟩ := g
  obtain ⟨r, s, rfl, k1, k2, k3⟩ := k
  obtain ⟨c, e, rfl⟩ := i
  simp only [sd]
  have z0 : sq 0 = 0 := rfl
  rw [z0, Int.zero_mul, Int.zero_mul, Int.zero_mul, Int.zero_mul, Int.add_zero, Int.add_zero]
  have a1 : 0 < q - ab p := by unfold ab; split <;> omega
  have a2 : 0 < s - ab r := by unfold ab; split <;> omega
  generalize sq (x * c + y * e) = A
  rw [Int.mul_comm A (q - ab p), sg_mul_pos a1, Int.mul_comm A (s - ab r), sg_mul_pos a2]
end
end Vec

set_option maxHeartbeats 2000000
/-! ### faces: three rows -/
namespace Vec
open L3
def dt (a b c : List Int) : Int := dot a (cross b c)
def ld (a b c v : List Int) : List Int := [dot a v, dot b v, dot c v]
/-- the way back, by the cross products -/
def bk (a b c p : List Int) : List Int := match cross b c, cross c a, cross a b, p with
  | [x1, y1, z1], [x2, y2, z2], [x3, y3, z3], [p, q, r] => [sg (dt a b c) * x1 * p + sg (dt a b c) * x2 * q + sg (dt a b c) * x3 * r, sg (dt a b c) * y1 * p + sg (dt a b c) * y2 * q + sg (dt a b c) * y3 * r, sg (dt a b c) * z1 * p + sg (dt a b c) * z2 * q + sg (dt a b c) * z3 * r]
  | _, _, _, _ => []
structure Fc (a b c : List Int) : Prop where
  ha : T3 a
  hb : T3 b
  hc : T3 c
  hd : dt a b c ≠ 0
  g : gcdL (a ++ (b ++ c)) = 1
section
variable {a b c u v p q : List Int}
theorem sg_abs {d : Int} (h : d ≠ 0) : 0 < sg d * d := by
  unfold sg
  split
  · omega
  · split <;> omega
@[simp] theorem T3_ld : T3 (ld a b c v) := ⟨_, _, _, rfl⟩
theorem Bv_ld {n : Nat} (h1 : Bv ((n - 2) / 2) a) (h2 : Bv ((n - 2) / 2) b) (h3 : Bv ((n - 2) / 2) c) (k : Bv ((n - 2) / 2) v) : Bv n (ld a b c v) := by
  unfold ld
  simp only [Bv_cons]
  exact ⟨Bd_dot h1 k, Bd_dot h2 k, Bd_dot h3 k, Bv_nil⟩
theorem ld_scale (k : Int) (h1 : T3 a) (h2 : T3 b) (h3 : T3 c) (f : T3 v) : ld a b c (scale k v) = scale k (ld a b c v) := by
  unfold ld
  rw [dot_scaleR k h1 f, dot_scaleR k h2 f, dot_scaleR k h3 f]
  rfl
theorem ld_neg (h1 : T3 a) (h2 : T3 b) (h3 : T3 c) (f : T3 v) : ld a b c (neg v) = neg (ld a b c v) := by rw [neg_scale, ld_scale _ h1 h2 h3 f, ← neg_scale]
theorem ld_over (h1 : T3 a) (h2 : T3 b) (h3 : T3 c) (f : T3 v) : ld (neg a) (neg b) (neg c) (neg v) = ld a b c v := by
  unfold ld
  rw [dot_negL h1 f.neg, dot_negR h1 f, dot_negL h2 f.neg, dot_negR h2 f, dot_negL h3 f.neg, dot_negR h3 f]
  simp
theorem red_ld (h : Fc a b c) (f : T3 v) (hv : ¬ Zer v) : red (ld a b c (red v)) = red (ld a b c v) := by
  obtain ⟨k, hk, e⟩ := scale_red_pos hv
  conv => rhs; rw [e, ld_scale k h.ha h.hb h.hc f.red, red_scale hk]
theorem bk_ld (h1 : T3 a) (h2 : T3 b) (h3 : T3 c) (f : T3 v) : bk a b c (ld a b c v) = scale (sg (dt a b c) * dt a b c) v := by
  obtain ⟨a1, a2, a3, rfl⟩ := h1
  obtain ⟨b1, b2, b3, rfl⟩ := h2
  obtain ⟨c1, c2, c3, rfl⟩ := h3
  obtain ⟨x, y, z, rfl⟩ := f
  simp only [bk, ld, cross]
  generalize sg (dt [a1, a2, a3] [b1, b2, b3] [c1, c2, c3]) = s
  simp only [dt, dot, cross, scale, List.map_cons, List.map_nil, List.cons.injEq, and_true]
  refine ⟨?_, ?_, ?_⟩ <;> grind
theorem ld_bk (h1 : T3 a) (h2 : T3 b) (h3 : T3 c) (f : T3 p) : ld a b c (bk a b c p) = scale (sg (dt a b c) * dt a b c) p := by
  obtain ⟨a1, a2, a3, rfl⟩ := h1
  obtain ⟨b1, b2, b3, rfl⟩ := h2
  obtain ⟨c1, c2, c3, rfl⟩ := h3
  obtain ⟨x, y, z, rfl⟩ := f
  simp only [bk, ld, cross]
  generalize sg (dt [a1, a2, a3] [b1, b2, b3] [c1, c2, c3]) = s
  simp only [dt, dot, cross, scale, List.map_cons, List.map_nil, List.cons.injEq, and_true]
  refine ⟨?_, ?_, ?_⟩ <;> grind
theorem T3_bk (h1 : T3 a) (h2 : T3 b) (h3 : T3 c) (f : T3 p) : T3 (bk a b c p) := by
  obtain ⟨a1, a2, a3, rfl⟩ := h1
  obtain ⟨b1, b2, b3, rfl⟩ := h2
  obtain ⟨c1, c2, c3, rfl⟩ := h3
  obtain ⟨x, y, z, rfl⟩ := f
  exact ⟨_, _, _, rfl⟩
theorem bk_scale (k : Int) (h1 : T3 a) (h2 : T3 b) (h3 : T3 c) (f : T3 p) : bk a b c (scale k p) = scale k (bk a b c p) := by
  obtain ⟨a1, a2, a3, rfl⟩ := h1
  obtain ⟨b1, b2, b3, rfl⟩ := h2
  obtain ⟨c1, c2, c3, rfl⟩ := h3
  obtain ⟨x, y, z, rfl⟩ := f
  simp only [bk, cross, scale, List.map_cons, List.map_nil, List.cons.injEq, and_true]
  generalize sg (dt [a1, a2, a3] [b1, b2, b3] [c1, c2, c3]) = s
  refine ⟨?_, ?_, ?_⟩ <;> grind
theorem Fc.pos (h : Fc a b c) : 0 < sg (dt a b c) * dt a b c := sg_abs h.hd
theorem ld_nz (h : Fc a b c) (f : T3 v) (hv : ¬ Zer v) : ¬ Zer (ld a b c v) := fun z => by
  have e := bk_ld h.ha h.hb h.hc f
  have zz : Zer (bk a b c (ld a b c v)) := by
    obtain ⟨a1, a2, a3, rfl⟩ := h.ha
    obtain ⟨b1, b2, b3, rfl⟩ := h.hb
    obtain ⟨c1, c2, c3, rfl⟩ := h.hc
    obtain ⟨x, y, w, rfl⟩ := f
    generalize sg (dt [a1, a2, a3] [b1, b2, b3] [c1, c2, c3]) = s at *
    simp only [ld, Zer_cons, Zer_nil, and_true] at z
    simp [bk, ld, cross, z]
  rw [e] at zz
  exact hv ((Zer.scale (by have := h.pos; omega)).mp zz)
theorem bk_nz (h : Fc a b c) (f : T3 p) (hp : ¬ Zer p) : ¬ Zer (bk a b c p) := fun z => by
  have e := ld_bk h.ha h.hb h.hc f
  have zz : Zer (ld a b c (bk a b c p)) := by
    obtain ⟨x, y, w, e2⟩ := T3_bk h.ha h.hb h.hc f
    rw [e2] at z ⊢
    simp at z
    obtain ⟨rfl, rfl, rfl⟩ := z
    obtain ⟨a1, a2, a3, rfl⟩ := h.ha
    obtain ⟨b1, b2, b3, rfl⟩ := h.hb
    obtain ⟨c1, c2, c3, rfl⟩ := h.hc
    simp [ld, dot]
  rw [e] at zz
  exact hp ((Zer.scale (by have := h.pos; omega)).mp zz)
theorem red_bk (h : Fc a b c) (f : T3 p) (hp : ¬ Zer p) : red (bk a b c (red p)) = red (bk a b c p) := by
  obtain ⟨k, hk, e⟩ := scale_red_pos hp
  conv => rhs; rw [e, bk_scale k h.ha h.hb h.hc f.red, red_scale hk]
theorem red_bk_ld (h : Fc a b c) (f : T3 v) : red (bk a b c (ld a b c v)) = red v := by rw [bk_ld h.ha h.hb h.hc f, red_scale h.pos]
theorem red_ld_bk (h : Fc a b c) (f : T3 p) : red (ld a b c (bk a b c p)) = red p := by rw [ld_bk h.ha h.hb h.hc f, red_scale h.pos]
theorem Fc.cz (h : Fc a b c) : ¬ Zer c := fun z => h.hd (by
  obtain ⟨a1, a2, a3, rfl⟩ := h.ha
  obtain ⟨b1, b2, b3, rfl⟩ := h.hb
  obtain ⟨c1, c2, c3, rfl⟩ := h.hc
  simp at z
  obtain ⟨rfl, rfl, rfl⟩ := z
  simp [dt, cross, dot])
theorem dot_bk (h : Fc a b c) (f : T3 p) : dot c (bk a b c p) = sg (dt a b c) * dt a b c * (match p with | [_, _, r] => r | _ => 0) := by
  have e := ld_bk h.ha h.hb h.hc f
  obtain ⟨x, y, z, rfl⟩ := f
  simp only [ld, scale, List.map_cons, List.map_nil, List.cons.injEq, and_true] at e
  exact e.2.2
theorem Fc.over (h : Fc a b c) : Fc (neg a) (neg b) (neg c) := by
  refine ⟨h.ha.neg, h.hb.neg, h.hc.neg, ?_, ?_⟩
  · unfold dt
    rw [cross_negL h.hb h.hc.neg, cross_negR h.hb h.hc, dot_negL h.ha (h.hb.cross h.hc).neg.neg, neg_neg]
    have := h.hd
    unfold dt at this
    omega
  · have e : neg a ++ (neg b ++ neg c) = neg (a ++ (b ++ c)) := by unfold neg; simp
    rw [e, gcdL_neg]; exact h.g
/-- unlike rays have unlike shadows -/
theorem same_shadow (h : Fc a b c) (f : T3 u) (g : T3 v) (hu : ¬ Zer u) (hv : ¬ Zer v) : red (ld a b c u) = red (ld a b c v) ↔ red u = red v := by
  constructor
  · intro e
    have := congrArg (fun w => red (bk a b c w)) e
    simp only [red_bk h T3_ld (ld_nz h f hu), red_bk h T3_ld (ld_nz h g hv), red_bk_ld h f, red_bk_ld h g] at this
    exact this
  · intro e
    rw [← red_ld h f hu, e, red_ld h g hv]
/-- a matrix reduced -/
theorem Fc.of (h1 : T3 a) (h2 : T3 b) (h3 : T3 c) (d : dt a b c ≠ 0) : ∃ a' b' c' k, 0 < k ∧ red (a ++ (b ++ c)) = a' ++ (b' ++ c') ∧ Fc a' b' c' ∧ a = scale k a' ∧ b = scale k b' ∧ c = scale k c' := by
  obtain ⟨a1, a2, a3, rfl⟩ := h1
  obtain ⟨b1, b2, b3, rfl⟩ := h2
  obtain ⟨c1, c2, c3, rfl⟩ := h3
  have nz : ¬ Zer ([a1, a2, a3] ++ ([b1, b2, b3] ++ [c1, c2, c3])) := fun z => d (by
    simp at z
    obtain ⟨rfl, rfl, rfl, rfl, rfl, rfl, rfl, rfl, rfl⟩ := z
    rfl)
  obtain ⟨k, hk, e⟩ := scale_red_pos nz
  have g := gcdL_red nz
  have l : (red ([a1, a2, a3] ++ ([b1, b2, b3] ++ [c1, c2, c3]))).length = 9 := by rw [red_len]; rfl
  generalize red ([a1, a2, a3] ++ ([b1, b2, b3] ++ [c1, c2, c3])) = w at *
  match w, l with
  | [x1, x2, x3, y1, y2, y3, z1, z2, z3], _ =>
    simp only [scale, List.cons_append, List.nil_append, List.map_cons, List.map_nil, List.cons.injEq, and_true] at e
    obtain ⟨e1, e2, e3, e4, e5, e6, e7, e8, e9⟩ := e
    refine ⟨[x1, x2, x3], [y1, y2, y3], [z1, z2, z3], k, hk, rfl, ⟨⟨_, _, _, rfl⟩, ⟨_, _, _, rfl⟩, ⟨_, _, _, rfl⟩, fun q => d ?_, g⟩, by simp [scale, e1, e2, e3], by simp [scale, e4, e5, e6], by simp [scale, e7, e8, e9]⟩
    simp only [dt, dot, cross] at q ⊢
    rw [e1, e2, e3, e4, e5, e6, e7, e8, e9]
    have : k * x1 * (k * y2 * (k * z3) - k * y3 * (k * z2)) + k * x2 * (k * y3 * (k * z1) - k * y1 * (k * z3)) + k * x3 * (k * y1 * (k * z2) - k * y2 * (k * z1)) = k * k * k * (x1 * (y2 * z3 - y3 * z2) + x2 * (y3 * z1 - y1 * z3) + x3 * (y1 * z2 - y2 * z1)) := by grind
    rw [this, q]; simp
theorem Bv_bk {m : Nat} (hm : 4 ≤ m) (h1 : T3 a) (h2 : T3 b) (h3 : T3 c) (f : T3 p) (b1 : Bv m a) (b2 : Bv m b) (b3 : Bv m c) (b4 : Bv m p) : Bv (4 * m) (bk a b c p) := by
  have k1 := Bv_cross (n := 2 * m + 1) (b2.mono (by omega)) (b3.mono (by omega))
  have k2 := Bv_cross (n := 2 * m + 1) (b3.mono (by omega)) (b1.mono (by omega))
  have k3 := Bv_cross (n := 2 * m + 1) (b1.mono (by omega)) (b2.mono (by omega))
  obtain ⟨x1, y1, z1, e1⟩ := h2.cross h3
  obtain ⟨x2, y2, z2, e2⟩ := h3.cross h1
  obtain ⟨x3, y3, z3, e3⟩ := h1.cross h2
  obtain ⟨p1, q1, r1, rfl⟩ := f
  rw [e1] at k1
  rw [e2] at k2
  rw [e3] at k3
  simp only [bk, e1, e2, e3, Bv_cons] at k1 k2 k3 b4 ⊢
  have sgb : ∀ x : Int, Bd (2 * m + 1) x → Bd (2 * m + 1) (sg (dt a b c) * x) := fun x hx => by
    unfold Bd at hx ⊢
    have : (sg (dt a b c) * x).natAbs ≤ x.natAbs := by
      unfold sg
      split
      · simp
      · split <;> simp
    omega
  have m3 : ∀ x y : Int, Bd (2 * m + 1) x → Bd m y → Bd (3 * m + 1) (x * y) := fun x y hx hy => by
    unfold Bd at hx hy ⊢
    rw [Int.natAbs_mul]
    have e : (2 : Nat) ^ (3 * m + 1) = 2 ^ (2 * m + 1) * 2 ^ m := by rw [← Nat.pow_add]; congr 1; omega
    rw [e]
    exact Nat.lt_of_le_of_lt (Nat.mul_le_mul_left _ (Nat.le_of_lt hy)) (Nat.mul_lt_mul_of_pos_right hx (Nat.pow_pos (by decide)))
  have s3 : ∀ x y z : Int, Bd (3 * m + 1) x → Bd (3 * m + 1) y → Bd (3 * m + 1) z → Bd (4 * m) (x + y + z) := fun x y z hx hy hz => Bd_add (Bd_add (hx.mono (by omega)) (hy.mono (by omega))) (hz.mono (by omega))
  exact ⟨s3 _ _ _ (m3 _ _ (sgb _ k1.1) b4.1) (m3 _ _ (sgb _ k2.1) b4.2.1) (m3 _ _ (sgb _ k3.1) b4.2.2.1), s3 _ _ _ (m3 _ _ (sgb _ k1.2.1) b4.1) (m3 _ _ (sgb _ k2.2.1) b4.2.1) (m3 _ _ (sgb _ k3.2.1) b4.2.2.1), s3 _ _ _ (m3 _ _ (sgb _ k1.2.2.1) b4.1) (m3 _ _ (sgb _ k2.2.2.1) b4.2.1) (m3 _ _ (sgb _ k3.2.2.1) b4.2.2.1), Bv_nil⟩
end
end Vec

set_option maxHeartbeats 2000000
/-! ### lines of faces -/
namespace Vec
open L3
/-- the first number that is not nought -/
def fn : List Int → Int
  | [] => 0
  | x :: r => if x = 0 then fn r else x
def fu (v : List Int) : List Int := if fn v < 0 then neg (red v) else red v
def Two (v : List Int) : Prop := ∃ w, v = [0, 0, w]
instance (v : List Int) : Decidable (Two v) := match v with
  | [x, y, w] => if h : x = 0 ∧ y = 0 then isTrue ⟨w, by rw [h.1, h.2]⟩ else isFalse fun ⟨_, e⟩ => h (by cases e; exact ⟨rfl, rfl⟩)
  | [] => isFalse fun ⟨_, e⟩ => by cases e
  | [_] => isFalse fun ⟨_, e⟩ => by cases e
  | [_, _] => isFalse fun ⟨_, e⟩ => by cases e
  | _ :: _ :: _ :: _ :: _ => isFalse fun ⟨_, e⟩ => by cases e
structure Ln (l : List Int) : Prop where
  t : T3 l
  g : gcdL l = 1
  p : 0 < fn l
  w : ¬ Two l
def lv (a b c s : List Int) : List Int := [dot (cross b c) s, dot (cross c a) s, dot (cross a b) s]
def pv (a b c l : List Int) : List Int := match a, b, c, l with
  | [a1, a2, a3], [b1, b2, b3], [c1, c2, c3], [x, y, z] => [a1 * x + b1 * y + c1 * z, a2 * x + b2 * y + c2 * z, a3 * x + b3 * y + c3 * z]
  | _, _, _, _ => []
section
variable {a b c u v p q s l : List Int}
theorem fn_scale {k : Int} (hk : k ≠ 0) : ∀ v : List Int, fn (scale k v) = k * fn v
  | [] => by simp [fn, scale]
  | x :: r => by
    have ih := fn_scale hk r
    simp only [scale, List.map_cons, fn] at ih ⊢
    by_cases z : x = 0
    · simp [z, ih]
    · rw [if_neg z, if_neg (fun e => z ((Int.mul_eq_zero.mp e).resolve_left hk))]
theorem fn_zer : ∀ {v : List Int}, fn v = 0 ↔ Zer v
  | [] => by simp [fn]
  | x :: r => by
    have ih := fn_zer (v := r)
    by_cases z : x = 0
    · simp [fn, z, ih]
    · simp [fn, z]
theorem fn_neg (v : List Int) : fn (neg v) = -fn v := by rw [neg_scale, fn_scale (by decide)]; omega
theorem fn_red (h : ¬ Zer v) : ∃ k : Int, 0 < k ∧ fn v = k * fn (red v) := by
  obtain ⟨k, hk, e⟩ := scale_red_pos h
  exact ⟨k, hk, by conv => lhs; rw [e, fn_scale (by omega)]⟩
theorem fn_red_neg (h : ¬ Zer v) : fn (red v) < 0 ↔ fn v < 0 := by
  obtain ⟨k, hk, e⟩ := fn_red h
  rw [e]
  constructor
  · exact fun q => Int.mul_neg_of_pos_of_neg hk q
  · intro q
    by_cases r : fn (red v) < 0
    · exact r
    · have := Int.mul_nonneg (Int.le_of_lt hk) (by omega : 0 ≤ fn (red v))
      omega
theorem fu_scale {k : Int} (hk : k ≠ 0) (h : ¬ Zer v) : fu (scale k v) = fu v := by
  have nz : fn v ≠ 0 := fun e => h (fn_zer.mp e)
  unfold fu
  rw [fn_scale hk]
  by_cases k0 : 0 < k
  · rw [red_scale k0]
    by_cases q : fn v < 0
    · rw [if_pos q, if_pos (Int.mul_neg_of_pos_of_neg k0 q)]
    · rw [if_neg q, if_neg (by have := Int.mul_pos k0 (by omega : 0 < fn v); omega)]
  · have e : scale k v = neg (scale (-k) v) := by unfold scale neg; rw [List.map_map]; exact List.map_congr_left fun x _ => by simp [Int.neg_mul]
    rw [e, red_neg, red_scale (by omega)]
    by_cases q : fn v < 0
    · rw [if_pos q, if_neg (by have := Int.mul_pos_of_neg_of_neg (by omega : k < 0) q; omega)]
    · rw [if_neg q, if_pos (Int.mul_neg_of_neg_of_pos (by omega) (by omega)), neg_neg]
theorem fu_red (h : ¬ Zer v) : fu (red v) = fu v := by
  obtain ⟨k, hk, e⟩ := scale_red_pos h
  conv => rhs; rw [e, fu_scale (by omega) (red_zer h)]
theorem fu_or (v : List Int) : fu v = red v ∨ fu v = neg (red v) := by unfold fu; split <;> simp
@[simp] theorem T3_fu (h : T3 v) : T3 (fu v) := by
  rcases fu_or v with e | e <;> rw [e]
  · exact h.red
  · exact h.red.neg
theorem fu_g (h : ¬ Zer v) : gcdL (fu v) = 1 := by
  rcases fu_or v with e | e <;> rw [e]
  · exact gcdL_red h
  · rw [gcdL_neg]; exact gcdL_red h
theorem fu_p (h : ¬ Zer v) : 0 < fn (fu v) := by
  have nz : fn (red v) ≠ 0 := fun e => red_zer h (fn_zer.mp e)
  unfold fu
  by_cases q : fn v < 0
  · rw [if_pos q, fn_neg]
    have := (fn_red_neg h).mpr q
    omega
  · rw [if_neg q]
    have := mt (fn_red_neg h).mp q
    omega
theorem fu_unit (g : gcdL v = 1) (p : 0 < fn v) : fu v = v := by
  unfold fu
  rw [if_neg (by omega), red_unit g]
theorem Bv_fu {n : Nat} (h : Bv n v) : Bv n (fu v) := by
  rcases fu_or v with e | e <;> rw [e]
  · exact Bv_red h
  · exact Bv_neg.mpr (Bv_red h)
theorem Two.scale {k : Int} (hk : k ≠ 0) (h : T3 v) : Two (scale k v) ↔ Two v := by
  obtain ⟨x, y, z, rfl⟩ := h
  constructor
  · rintro ⟨w, e⟩
    simp only [Vec.scale, List.map_cons, List.map_nil, List.cons.injEq, Int.mul_eq_zero] at e
    exact ⟨z, by rw [e.1.resolve_left hk, e.2.1.resolve_left hk]⟩
  · rintro ⟨w, e⟩
    rw [e]
    exact ⟨k * w, by simp [Vec.scale]⟩
theorem Two.red (h : T3 v) (nz : ¬ Zer v) : Two (red v) ↔ Two v := by
  obtain ⟨k, hk, e⟩ := scale_red_pos nz
  conv => rhs; rw [e, Two.scale (by omega) h.red]
theorem Two.neg (h : T3 v) : Two (neg v) ↔ Two v := by rw [neg_scale, Two.scale (by decide) h]
theorem Two.fu (h : T3 v) (nz : ¬ Zer v) : Two (fu v) ↔ Two v := by
  rcases fu_or v with e | e <;> rw [e]
  · exact Two.red h nz
  · rw [Two.neg h.red, Two.red h nz]
theorem nz_of_two (h : T3 v) (w : ¬ Two v) : ¬ Zer v := fun z => by
  obtain ⟨x, y, z', rfl⟩ := h
  simp at z
  obtain ⟨rfl, rfl, rfl⟩ := z
  exact w ⟨0, rfl⟩
theorem Ln.nz (h : Ln l) : ¬ Zer l := nz_of_two h.t h.w
theorem Ln.of (h : T3 v) (w : ¬ Two v) : Ln (fu v) := ⟨T3_fu h, fu_g (nz_of_two h w), fu_p (nz_of_two h w), mt (Two.fu h (nz_of_two h w)).mp w⟩
theorem Ln.fu (h : Ln l) : Vec.fu l = l := fu_unit h.g h.p
@[simp] theorem T3_lv : T3 (lv a b c s) := ⟨_, _, _, rfl⟩
theorem T3_pv (h1 : T3 a) (h2 : T3 b) (h3 : T3 c) (f : T3 l) : T3 (pv a b c l) := by
  obtain ⟨a1, a2, a3, rfl⟩ := h1
  obtain ⟨b1, b2, b3, rfl⟩ := h2
  obtain ⟨c1, c2, c3, rfl⟩ := h3
  obtain ⟨x, y, z, rfl⟩ := f
  exact ⟨_, _, _, rfl⟩
theorem lv_scale (k : Int) (h1 : T3 a) (h2 : T3 b) (h3 : T3 c) (f : T3 s) : lv a b c (scale k s) = scale k (lv a b c s) := by
  unfold lv
  rw [dot_scaleR k (h2.cross h3) f, dot_scaleR k (h3.cross h1) f, dot_scaleR k (h1.cross h2) f]
  rfl
theorem pv_scale (k : Int) (h1 : T3 a) (h2 : T3 b) (h3 : T3 c) (f : T3 l) : pv a b c (scale k l) = scale k (pv a b c l) := by
  obtain ⟨a1, a2, a3, rfl⟩ := h1
  obtain ⟨b1, b2, b3, rfl⟩ := h2
  obtain ⟨c1, c2, c3, rfl⟩ := h3
  obtain ⟨x, y, z, rfl⟩ := f
  simp only [pv, scale, List.map_cons, List.map_nil, List.cons.injEq, and_true]
  refine ⟨?_, ?_, ?_⟩ <;> grind
theorem lv_pv (h1 : T3 a) (h2 : T3 b) (h3 : T3 c) (f : T3 l) : lv a b c (pv a b c l) = scale (dt a b c) l := by
  obtain ⟨a1, a2, a3, rfl⟩ := h1
  obtain ⟨b1, b2, b3, rfl⟩ := h2
  obtain ⟨c1, c2, c3, rfl⟩ := h3
  obtain ⟨x, y, z, rfl⟩ := f
  simp only [lv, pv, dt, dot, cross, scale, List.map_cons, List.map_nil, List.cons.injEq, and_true]
  refine ⟨?_, ?_, ?_⟩ <;> grind
theorem pv_lv (h1 : T3 a) (h2 : T3 b) (h3 : T3 c) (f : T3 s) : pv a b c (lv a b c s) = scale (dt a b c) s := by
  obtain ⟨a1, a2, a3, rfl⟩ := h1
  obtain ⟨b1, b2, b3, rfl⟩ := h2
  obtain ⟨c1, c2, c3, rfl⟩ := h3
  obtain ⟨x, y, z, rfl⟩ := f
  simp only [lv, pv, dt, dot, cross, scale, List.map_cons, List.map_nil, List.cons.injEq, and_true]
  refine ⟨?_, ?_, ?_⟩ <;> grind
theorem dot_lv_ld (h1 : T3 a) (h2 : T3 b) (h3 : T3 c) (f : T3 s) (g : T3 v) : dot (lv a b c s) (ld a b c v) = dt a b c * dot s v := by
  obtain ⟨a1, a2, a3, rfl⟩ := h1
  obtain ⟨b1, b2, b3, rfl⟩ := h2
  obtain ⟨c1, c2, c3, rfl⟩ := h3
  obtain ⟨x, y, z, rfl⟩ := f
  obtain ⟨x', y', z', rfl⟩ := g
  simp only [lv, ld, dt, dot, cross]
  grind
theorem dot_pv (h1 : T3 a) (h2 : T3 b) (h3 : T3 c) (f : T3 l) (g : T3 v) : dot (pv a b c l) v = dot l (ld a b c v) := by
  obtain ⟨a1, a2, a3, rfl⟩ := h1
  obtain ⟨b1, b2, b3, rfl⟩ := h2
  obtain ⟨c1, c2, c3, rfl⟩ := h3
  obtain ⟨x, y, z, rfl⟩ := f
  obtain ⟨x', y', z', rfl⟩ := g
  simp only [pv, ld, dot]
  grind
theorem lv_cross (h1 : T3 a) (h2 : T3 b) (h3 : T3 c) (f : T3 u) (g : T3 v) : lv a b c (cross u v) = cross (ld a b c u) (ld a b c v) := by
  obtain ⟨a1, a2, a3, rfl⟩ := h1
  obtain ⟨b1, b2, b3, rfl⟩ := h2
  obtain ⟨c1, c2, c3, rfl⟩ := h3
  obtain ⟨x, y, z, rfl⟩ := f
  obtain ⟨x', y', z', rfl⟩ := g
  simp only [lv, ld, dot, cross, List.cons.injEq, and_true]
  refine ⟨?_, ?_, ?_⟩ <;> grind
theorem pv_zer (h1 : T3 a) (h2 : T3 b) (h3 : T3 c) (f : T3 l) (z : Zer l) : Zer (pv a b c l) := by
  obtain ⟨a1, a2, a3, rfl⟩ := h1
  obtain ⟨b1, b2, b3, rfl⟩ := h2
  obtain ⟨c1, c2, c3, rfl⟩ := h3
  obtain ⟨x, y, z', rfl⟩ := f
  simp at z
  obtain ⟨rfl, rfl, rfl⟩ := z
  simp [pv]
theorem lv_zer (h1 : T3 a) (h2 : T3 b) (h3 : T3 c) (f : T3 s) (z : Zer s) : Zer (lv a b c s) := by
  obtain ⟨a1, a2, a3, rfl⟩ := h1
  obtain ⟨b1, b2, b3, rfl⟩ := h2
  obtain ⟨c1, c2, c3, rfl⟩ := h3
  obtain ⟨x, y, z', rfl⟩ := f
  simp at z
  obtain ⟨rfl, rfl, rfl⟩ := z
  simp [lv, cross, dot]
theorem lv_nz (h : Fc a b c) (f : T3 s) (hs : ¬ Zer s) : ¬ Zer (lv a b c s) := fun z => by
  have := pv_zer h.ha h.hb h.hc T3_lv z
  rw [pv_lv h.ha h.hb h.hc f, Zer.scale h.hd] at this
  exact hs this
theorem pv_nz (h : Fc a b c) (f : T3 l) (hl : ¬ Zer l) : ¬ Zer (pv a b c l) := fun z => by
  have := lv_zer h.ha h.hb h.hc (T3_pv h.ha h.hb h.hc f) z
  rw [lv_pv h.ha h.hb h.hc f, Zer.scale h.hd] at this
  exact hl this
/-- the line of a plane: nothing if the plane is the plate's own -/
theorem lv_two (h : Fc a b c) (f : T3 s) (w : Two (lv a b c s)) : Zer (cross s c) := by
  obtain ⟨k, e⟩ := w
  have e2 := pv_lv h.ha h.hb h.hc f
  rw [e] at e2
  obtain ⟨a1, a2, a3, rfl⟩ := id h.ha
  obtain ⟨b1, b2, b3, rfl⟩ := id h.hb
  obtain ⟨c1, c2, c3, rfl⟩ := id h.hc
  have e3 : pv [a1, a2, a3] [b1, b2, b3] [c1, c2, c3] [0, 0, k] = scale k [c1, c2, c3] := by
    simp only [pv, scale, List.map_cons, List.map_nil, List.cons.injEq, and_true]
    refine ⟨?_, ?_, ?_⟩ <;> grind
  rw [e3] at e2
  have z : Zer (cross (scale (dt [a1, a2, a3] [b1, b2, b3] [c1, c2, c3]) s) [c1, c2, c3]) := by
    rw [← e2, cross_scaleL k h.hc h.hc]
    by_cases k0 : k = 0
    · subst k0
      simp [cross, scale]
    · rw [Zer.scale k0]
      exact cross_self h.hc
  rwa [cross_scaleL _ f h.hc, Zer.scale h.hd] at z
theorem Bv_lv {n : Nat} (b1 : Bv (((n - 2) / 2 - 1) / 2) a) (b2 : Bv (((n - 2) / 2 - 1) / 2) b) (b3 : Bv (((n - 2) / 2 - 1) / 2) c) (k : Bv ((n - 2) / 2) s) : Bv n (lv a b c s) := by
  unfold lv
  simp only [Bv_cons]
  exact ⟨Bd_dot (Bv_cross b2 b3) k, Bd_dot (Bv_cross b3 b1) k, Bd_dot (Bv_cross b1 b2) k, Bv_nil⟩
theorem Bv_pv {n : Nat} (h1 : T3 a) (h2 : T3 b) (h3 : T3 c) (f : T3 l) (b1 : Bv ((n - 2) / 2) a) (b2 : Bv ((n - 2) / 2) b) (b3 : Bv ((n - 2) / 2) c) (k : Bv ((n - 2) / 2) l) : Bv n (pv a b c l) := by
  obtain ⟨a1, a2, a3, rfl⟩ := h1
  obtain ⟨c1, c2, c3, rfl⟩ := h2
  obtain ⟨d1, d2, d3, rfl⟩ := h3
  obtain ⟨x, y, z, rfl⟩ := f
  simp only [Bv_cons] at b1 b2 b3 k
  have e : ∀ p q r : Int, Bd ((n - 2) / 2) p → Bd ((n - 2) / 2) q → Bd ((n - 2) / 2) r → Bd n (p * x + q * y + r * z) := fun p q r h1 h2 h3 => by
    have := Bd_dot (n := n) (v := [p, q, r]) (w := [x, y, z]) (by simp only [Bv_cons]; exact ⟨h1, h2, h3, Bv_nil⟩) (by simp only [Bv_cons]; exact k)
    simpa only [dot] using this
  simp only [pv, Bv_cons]
  exact ⟨e _ _ _ b1.1 b2.1 b3.1, e _ _ _ b1.2.1 b2.2.1 b3.2.1, e _ _ _ b1.2.2.1 b2.2.2.1 b3.2.2.1, Bv_nil⟩
end
end Vec

set_option maxHeartbeats 2000000
/-! ### lines of faces: laws -/
namespace Vec
open L2 L3
section
variable {a b c u v p q s l : List Int}
/-- the line of a plane, turned back: the plane or its opposite -/
theorem back_or (h : Fc a b c) (f : T3 s) (nz : ¬ Zer s) : red (pv a b c (fu (lv a b c s))) = red s ∨ red (pv a b c (fu (lv a b c s))) = neg (red s) := by
  have ln := lv_nz h f nz
  have t : T3 (lv a b c s) := T3_lv
  obtain ⟨k, hk, e⟩ := scale_red_pos ln
  have e1 : scale (dt a b c) s = scale k (pv a b c (red (lv a b c s))) := by
    rw [← pv_lv h.ha h.hb h.hc f]
    conv => lhs; rw [e, pv_scale k h.ha h.hb h.hc t.red]
  have e2 : red (pv a b c (red (lv a b c s))) = red (scale (dt a b c) s) := by rw [e1, red_scale hk]
  have e3 : red (scale (dt a b c) s) = red s ∨ red (scale (dt a b c) s) = neg (red s) := by
    by_cases d : 0 < dt a b c
    · exact .inl (red_scale d s)
    · right
      have : scale (dt a b c) s = neg (scale (-dt a b c) s) := by unfold scale neg; rw [List.map_map]; exact List.map_congr_left fun x _ => by simp [Int.neg_mul]
      have hd := h.hd
      rw [this, red_neg, red_scale (by omega)]
  rcases fu_or (lv a b c s) with e4 | e4 <;> rw [e4]
  · rw [e2]; exact e3
  · have e5 : pv a b c (neg (red (lv a b c s))) = neg (pv a b c (red (lv a b c s))) := by rw [neg_scale, pv_scale _ h.ha h.hb h.hc t.red, ← neg_scale]
    rw [e5, red_neg, e2]
    rcases e3 with e6 | e6 <;> rw [e6]
    · exact .inr rfl
    · exact .inl (neg_neg _)
theorem dot_fu (f : T3 u) (g : T3 v) (nz : ¬ Zer u) : dot (fu u) v = 0 ↔ dot u v = 0 := by
  obtain ⟨k, hk, e⟩ := scale_red_pos nz
  have e1 : dot u v = k * dot (red u) v := by conv => lhs; rw [e, dot_scaleL k f.red g]
  rw [e1, Int.mul_eq_zero]
  rcases fu_or u with e2 | e2 <;> rw [e2]
  · constructor
    · exact .inr
    · rintro (h | h)
      · omega
      · exact h
  · rw [dot_negL f.red g]
    constructor
    · intro h; exact .inr (by omega)
    · rintro (h | h) <;> omega
theorem dot_redR0 (f : T3 u) (g : T3 v) (nz : ¬ Zer v) : dot u (red v) = 0 ↔ dot u v = 0 := by
  obtain ⟨k, hk, e⟩ := scale_red_pos nz
  have e1 : dot u v = k * dot u (red v) := by conv => lhs; rw [e, dot_scaleR k f g.red]
  rw [e1, Int.mul_eq_zero]
  constructor
  · exact .inr
  · rintro (h | h)
    · omega
    · exact h
theorem sg_zero {n : Int} : sg n = 0 ↔ n = 0 := by
  unfold sg
  split
  · omega
  · split <;> omega
/-- the shadow lies on the plane's line just if the ray lies in the plane -/
theorem on_line (h : Fc a b c) (f : T3 s) (nz : ¬ Zer s) (g : T3 v) (hv : ¬ Zer v) : dot (fu (lv a b c s)) (red (ld a b c v)) = 0 ↔ dot s v = 0 := by
  rw [dot_redR0 (T3_fu T3_lv) T3_ld (ld_nz h g hv), dot_fu T3_lv T3_ld (lv_nz h f nz), dot_lv_ld h.ha h.hb h.hc f g, Int.mul_eq_zero]
  constructor
  · rintro (q | q)
    · exact absurd q h.hd
    · exact q
  · exact .inr
/-- the line of a line's plane is the line -/
theorem ln_back (h : Fc a b c) (f : Ln l) : ¬ Two (lv a b c (red (pv a b c l))) ∧ fu (lv a b c (red (pv a b c l))) = l := by
  have t := T3_pv h.ha h.hb h.hc f.t
  have nz := pv_nz h f.t f.nz
  obtain ⟨k, hk, e⟩ := scale_red_pos nz
  have e1 : scale (dt a b c) l = scale k (lv a b c (red (pv a b c l))) := by
    rw [← lv_pv h.ha h.hb h.hc f.t]
    conv => lhs; rw [e, lv_scale k h.ha h.hb h.hc t.red]
  constructor
  · intro w
    have := (Two.scale (k := k) (by omega) T3_lv).mpr w
    rw [← e1, Two.scale h.hd f.t] at this
    exact f.w this
  · rw [← fu_scale (k := k) (by omega) (lv_nz h t.red (red_zer nz)), ← e1, fu_scale h.hd f.nz, f.fu]
theorem cr_third (f : T3 p) (g : T3 q) (hp : ∃ r, atI p 2 = some r ∧ 0 < r) (w : Two (cross p q)) : Zer (cross p q) := by
  obtain ⟨k, e⟩ := w
  obtain ⟨x, y, z, rfl⟩ := f
  obtain ⟨r, e1, hr⟩ := hp
  have : z = r := by
    have : atI [x, y, z] 2 = some z := rfl
    rw [this] at e1
    cases e1; rfl
  subst this
  have d := dot_crL (v := [x, y, z]) (T3_lit _ _ _) g
  rw [e] at d ⊢
  simp only [dot] at d
  have : k * z = 0 := by omega
  rcases Int.mul_eq_zero.mp this with h | h
  · simp [h]
  · omega
theorem cr_same (f : T3 p) (g : T3 q) (gp : gcdL p = 1) (gq : gcdL q = 1) (hp : ∃ r, atI p 2 = some r ∧ 0 < r) (hq : ∃ r, atI q 2 = some r ∧ 0 < r) (z : Zer (cross p q)) : p = q := by
  have n1 : ¬ Zer p := fun z => by rw [gcdL_zero.mpr z] at gp; cases gp
  have n2 : ¬ Zer q := fun z => by rw [gcdL_zero.mpr z] at gq; cases gq
  rcases para_or f g n1 n2 z with e | e <;> rw [red_unit gp, red_unit gq] at e
  · exact e
  · exfalso
    obtain ⟨r, e1, hr⟩ := hp
    obtain ⟨r', e2, hr'⟩ := hq
    obtain ⟨x', y', z', rfl⟩ := g
    rw [e] at e1
    have a1 : atI (neg [x', y', z']) 2 = some (-z') := rfl
    have a2 : atI [x', y', z'] 2 = some z' := rfl
    rw [a1] at e1
    rw [a2] at e2
    cases e1; cases e2
    omega
/-- the plane through two points' rays draws the line through the points -/
theorem lv_points (h : Fc a b c) (f : T3 p) (g : T3 q) (hp : ¬ Zer p) (hq : ¬ Zer q) : ∃ k : Int, 0 < k ∧ scale k (lv a b c (cross (red (bk a b c p)) (red (bk a b c q)))) = scale (sg (dt a b c) * dt a b c * (sg (dt a b c) * dt a b c)) (cross p q) := by
  have t1 := T3_bk h.ha h.hb h.hc f
  have t2 := T3_bk h.ha h.hb h.hc g
  obtain ⟨k, hk, e⟩ := scale_red_pos (bk_nz h f hp)
  obtain ⟨m, hm, e'⟩ := scale_red_pos (bk_nz h g hq)
  refine ⟨k * m, Int.mul_pos hk hm, ?_⟩
  have e1 : cross (bk a b c p) (bk a b c q) = scale (k * m) (cross (red (bk a b c p)) (red (bk a b c q))) := by
    conv => lhs; rw [e, e', cross_scaleL k t1.red (t2.red.scale m), cross_scaleR m t1.red t2.red]
    unfold scale
    rw [List.map_map]
    exact List.map_congr_left fun x _ => by simp [Int.mul_assoc]
  rw [← lv_scale (k * m) h.ha h.hb h.hc (t1.red.cross t2.red), ← e1, lv_cross h.ha h.hb h.hc t1 t2, ld_bk h.ha h.hb h.hc f, ld_bk h.ha h.hb h.hc g, cross_scaleL _ f (g.scale _), cross_scaleR _ f g]
  unfold scale
  rw [List.map_map]
  exact List.map_congr_left fun x _ => by simp [Int.mul_assoc]
end
end Vec
namespace L3
open PySem PySem.Spec PyProof.Rows
@[simp] theorem o_twice {st : Store} (x : D) : opD st .mul [.lst [x], .int 2] = some (.lst [x, x]) := by
  simp only [opD, isOwn]
  rw [if_pos ⟨by decide, show 1 * 2 ≤ sizeLine by decide⟩]
  rfl
end L3

set_option maxHeartbeats 2000000
/-! ### parallel planes, styles -/
namespace Vec
open L2 L3
section
variable {a b c u v w r s : List Int}
theorem fu_neg (h : ¬ Zer v) : fu (neg v) = fu v := by rw [neg_scale, fu_scale (by decide) h]
theorem fu_para (f : T3 u) (g : T3 v) (hu : ¬ Zer u) (hv : ¬ Zer v) (z : Zer (cross u v)) : fu u = fu v := by
  rw [← fu_red hu, ← fu_red hv]
  rcases para_or f g hu hv z with e | e <;> rw [e]
  exact fu_neg (red_zer hv)
theorem red_of_fu (hu : ¬ Zer u) (e : fu u = fu v) : red u = red v ∨ red u = neg (red v) := by
  rcases fu_or u with e1 | e1 <;> rcases fu_or v with e2 | e2 <;> rw [e1, e2] at e
  · exact .inl e
  · exact .inr e
  · exact .inr (by rw [← e, neg_neg])
  · exact .inl (by rw [← neg_neg (red u), e, neg_neg])
theorem para_red (f : T3 u) (g : T3 v) (hu : ¬ Zer u) (hv : ¬ Zer v) (e : red u = red v ∨ red u = neg (red v)) : Zer (cross u v) := by
  obtain ⟨k, hk, e1⟩ := scale_red_pos hu
  obtain ⟨m, hm, e2⟩ := scale_red_pos hv
  rw [e1, e2, cross_scaleL k f.red (g.red.scale m), cross_scaleR m f.red g.red, Zer.scale (by omega), Zer.scale (by omega)]
  rcases e with e | e <;> rw [e]
  · exact cross_self g.red
  · rw [cross_negL g.red g.red]
    have := cross_self g.red
    simpa using this
theorem lv_neg (h1 : T3 a) (h2 : T3 b) (h3 : T3 c) (f : T3 s) : lv a b c (neg s) = neg (lv a b c s) := by rw [neg_scale, lv_scale _ h1 h2 h3 f, ← neg_scale]
theorem fu_lv_para (h : Fc a b c) (f : T3 u) (g : T3 v) (hu : ¬ Zer u) (hv : ¬ Zer v) : fu (lv a b c u) = fu (lv a b c v) ↔ Zer (cross u v) := by
  constructor
  · intro e
    refine para_red f g hu hv ?_
    rcases back_or h f hu with e1 | e1 <;> rcases back_or h g hv with e2 | e2 <;> rw [← e, e1] at e2
    · exact .inl e2
    · exact .inr e2
    · exact .inr (by rw [← e2, neg_neg])
    · exact .inl (by rw [← neg_neg (red u), e2, neg_neg])
  · intro z
    obtain ⟨k, hk, e1⟩ := scale_red_pos hu
    obtain ⟨m, hm, e2⟩ := scale_red_pos hv
    have n1 := lv_nz h f.red (red_zer hu)
    have n2 := lv_nz h g.red (red_zer hv)
    rw [e1, e2, lv_scale k h.ha h.hb h.hc f.red, lv_scale m h.ha h.hb h.hc g.red, fu_scale (by omega) n1, fu_scale (by omega) n2]
    rcases para_or f g hu hv z with e | e <;> rw [e]
    rw [lv_neg h.ha h.hb h.hc g.red, fu_neg n2]
theorem two_lv_para (h : Fc a b c) (f : T3 u) (g : T3 v) (hu : ¬ Zer u) (hv : ¬ Zer v) (z : Zer (cross u v)) : Two (lv a b c u) ↔ Two (lv a b c v) := by
  obtain ⟨k, hk, e1⟩ := scale_red_pos hu
  obtain ⟨m, hm, e2⟩ := scale_red_pos hv
  rw [e1, e2, lv_scale k h.ha h.hb h.hc f.red, lv_scale m h.ha h.hb h.hc g.red, Two.scale (by omega) T3_lv, Two.scale (by omega) T3_lv]
  rcases para_or f g hu hv z with e | e <;> rw [e]
  rw [lv_neg h.ha h.hb h.hc g.red, Two.neg T3_lv]
/-- the planes through one style and two rays -/
theorem cross_style (f : T3 r) (g : T3 u) (h : T3 v) (hr : ¬ Zer r) : Zer (cross (cross r u) (cross r v)) ↔ dot (cross r u) v = 0 := by
  rw [cross_cross f g h]
  constructor
  · intro z
    by_cases d : dot (cross r u) v = 0
    · exact d
    · exact absurd ((Zer.scale d).mp z) hr
  · intro d
    rw [d]
    obtain ⟨x, y, z, rfl⟩ := f
    simp [scale]
theorem det_style (x y z p q l m : Int) : dot (cross [x, y, z] [p, q, l]) [p, q, m] = (y * p - x * q) * (l - m) := by
  simp only [cross, dot]
  grind
end
end Vec
namespace Vec
open L2 L3
theorem scale_scale (k m : Int) (v : List Int) : scale k (scale m v) = scale (k * m) v := by
  unfold scale
  rw [List.map_map]
  exact List.map_congr_left fun x _ => by simp [Int.mul_assoc]
theorem cross_reds {u v : List Int} (f : T3 u) (g : T3 v) (hu : ¬ Zer u) (hv : ¬ Zer v) : ∃ k : Int, 0 < k ∧ cross u v = scale k (cross (red u) (red v)) := by
  obtain ⟨k, hk, e1⟩ := scale_red_pos hu
  obtain ⟨m, hm, e2⟩ := scale_red_pos hv
  refine ⟨k * m, Int.mul_pos hk hm, ?_⟩
  conv => lhs; rw [e1, e2, cross_scaleL k f.red (g.red.scale m), cross_scaleR m f.red g.red, scale_scale]
end Vec

set_option maxHeartbeats 2000000
/-! ### hours of turns and back -/
namespace Vec
open L3
theorem sq_dvd {a b : Nat} (h : a * a ∣ b * b) : a ∣ b := by
  rw [← Nat.pow_two, ← Nat.pow_two] at h
  exact (Nat.pow_dvd_pow_iff (by decide)).mp h
theorem one_of {a b : Int} (h : a * b = 1) : a = 1 ∨ a = -1 := by
  have h1 : a.natAbs * b.natAbs = 1 := by rw [← Int.natAbs_mul, h]; rfl
  have := Nat.eq_one_of_mul_eq_one_right h1
  omega
theorem nm_scale (k : Int) {v : List Int} (h : T2 v) : nm (scale k v) = k * k * nm v := by
  obtain ⟨a, b, rfl⟩ := h
  simp only [nm, scale, List.map_cons, List.map_nil]
  grind
/-- an hour of a turn has a whole length -/
theorem len_ph {t : List Int} (h : T2 t) (hz : ¬ Zer t) : ∃ L : Int, 0 < L ∧ L * L = nm (red (ph t)) ∧ (gcdL (ph t) : Int) * L = nm t := by
  have np := nm_pos h hz
  have zp := ph_nz h hz
  have e := scale_red (ph t)
  have e1 : (gcdL (ph t) : Int) * (gcdL (ph t) : Int) * nm (red (ph t)) = nm t * nm t := by
    rw [← nm_ph h, ← nm_scale _ (T2_red (T2_ph h)), e]
  have k0 : (0 : Int) < (gcdL (ph t) : Int) := by have := gcdL_pos zp; omega
  have d : gcdL (ph t) ∣ (nm t).natAbs := sq_dvd (by
    rw [← Int.natAbs_mul, ← e1]
    refine ⟨(nm (red (ph t))).natAbs, ?_⟩
    rw [Int.natAbs_mul, Int.natAbs_mul, Int.natAbs_natCast])
  obtain ⟨L, hL⟩ := d
  have hN : nm t = (gcdL (ph t) : Int) * (L : Int) := by
    rw [← Int.natCast_mul, ← hL]; omega
  refine ⟨L, ?_, ?_, hN.symm⟩
  · rw [hN] at np
    exact Int.pos_of_mul_pos_right np k0
  · rw [hN] at e1
    have : (gcdL (ph t) : Int) * ((gcdL (ph t) : Int) * nm (red (ph t))) = (gcdL (ph t) : Int) * ((gcdL (ph t) : Int) * ((L : Int) * L)) := by grind
    have := Int.eq_of_mul_eq_mul_left (by omega) (Int.eq_of_mul_eq_mul_left (by omega) this)
    exact this.symm
theorem upr_pos {k : Int} {t v : List Int} (hk : 0 < k) (h : Tn t) (e : v = scale k t) : upr v = t := by
  have e1 : upr v = upr t := by
    unfold upr
    rw [e, red_scale hk]
  rw [e1, upr_tn h]
/-- the turn of an hour -/
def th : List Int → Int → List Int
  | [p, q], L => if p = -1 ∧ q = 0 then [1, 0] else upr [q, L + p]
  | _, _ => []
theorem th_yes {p q L : Int} (h : [p, q] = [-1, 0]) : th [p, q] L = [1, 0] := by
  simp only [List.cons.injEq, and_true] at h
  simp [th, h]
theorem th_no {p q L : Int} (h : ¬ [p, q] = [-1, 0]) : th [p, q] L = upr [q, L + p] := by
  simp only [List.cons.injEq, and_true] at h
  simp [th, h]
theorem th_ph {t : List Int} {L : Int} (h : Tn t) (hL : 0 < L) (e : (gcdL (ph t) : Int) * L = nm t) (el : L * L = nm (red (ph t))) : th (red (ph t)) L = t := by
  have zp := ph_nz h.t2 h.nz
  have sc := scale_red (ph t)
  have k0 : (0 : Int) < (gcdL (ph t) : Int) := by have := gcdL_pos zp; omega
  generalize (gcdL (ph t) : Int) = k at *
  obtain ⟨p, q, er⟩ := T2_red (T2_ph h.t2)
  rw [er] at sc el ⊢
  obtain ⟨⟨a, b, rfl⟩, g, u⟩ := h
  simp only [ph, scale, List.map_cons, List.map_nil, List.cons.injEq, and_true, nm] at sc e el
  obtain ⟨s1, s2⟩ := sc
  by_cases hb : b = 0
  · subst hb
    have a1 : a = 1 := by
      simp [Up] at u
      have : a.natAbs = 1 := by simpa [gcdL] using g
      omega
    subst a1
    have q0 : q = 0 := by
      have : k * q = 0 := by omega
      rcases Int.mul_eq_zero.mp this with w | w <;> omega
    have p1 : p = -1 := by
      have k1 : k * (-p) = 1 := by grind
      have : k = 1 := by
        have := one_of k1
        omega
      subst this; omega
    subst q0; subst p1
    simp [th]
  · have b0 : 0 < b := by simp [Up] at u; omega
    have kk : k * (L + p) = 2 * b * b := by grind
    have pos : 0 < L + p := by
      have : 0 < k * (L + p) := by rw [kk]; have := Int.mul_pos b0 b0; grind
      exact Int.pos_of_mul_pos_right this k0
    have ne : [p, q] ≠ [-1, 0] := fun z => by
      simp only [List.cons.injEq, and_true] at z
      obtain ⟨rfl, rfl⟩ := z
      have : L * L = 1 := by omega
      have := one_of this
      omega
    have hsc : scale k [q, L + p] = scale (2 * b) [a, b] := by
      simp only [scale, List.map_cons, List.map_nil, List.cons.injEq, and_true]
      exact ⟨by grind, by grind⟩
    have rr : red [q, L + p] = red [a, b] := by
      rw [← red_scale k0, hsc, red_scale (by omega)]
    rw [th_no ne]
    have : upr [q, L + p] = upr [a, b] := by unfold upr; rw [rr]
    rw [this, upr_tn ⟨⟨a, b, rfl⟩, g, u⟩]
/-- .. and its hour again -/
theorem ph_th {p q L : Int} (g : gcdL [p, q] = 1) (hL : 0 ≤ L) (el : L * L = p * p + q * q) : Tn (th [p, q] L) ∧ red (ph (th [p, q] L)) = [p, q] := by
  by_cases ne : [p, q] = [-1, 0]
  · have : th [p, q] L = [1, 0] := th_yes ne
    rw [this, ne]
    exact ⟨Tn_half, by decide⟩
  · have ht' : th [p, q] L = upr [q, L + p] := th_no ne
    rw [ht']
    have q2 : 0 ≤ q * q := by rcases Int.le_total 0 q with h | h; exact Int.mul_nonneg h h; exact Int.mul_nonneg_of_nonpos_of_nonpos h h
    have pos : 0 < L + p := by
      rcases Int.lt_or_le 0 (L + p) with h | h
      · exact h
      · exfalso
        have e1 : (L + p) * (L - p) = q * q := by grind
        have e2 : (L + p) * (L - p) ≤ 0 := Int.mul_nonpos_of_nonpos_of_nonneg h (by omega)
        have q0 : q = 0 := by
          have : q * q = 0 := by omega
          rcases Int.mul_eq_zero.mp this with w | w <;> exact w
        subst q0
        have : p.natAbs = 1 := by simpa [gcdL] using g
        have p1 : p = 1 ∨ p = -1 := by omega
        rcases p1 with rfl | rfl
        · omega
        · exact ne rfl
    have z : ¬ Zer [q, L + p] := fun z => by simp at z; omega
    refine ⟨Tn_upr (T2_lit _ _) z, ?_⟩
    obtain ⟨k, hk, e⟩ := upr_scale (T2_lit q (L + p)) z
    have tu := T2_upr (T2_lit q (L + p))
    have e1 : ph [q, L + p] = scale (k * k) (ph (upr [q, L + p])) := by
      obtain ⟨a, b, e2⟩ := tu
      rw [e2] at e ⊢
      simp only [scale, List.map_cons, List.map_nil, List.cons.injEq, and_true] at e
      obtain ⟨e3, e4⟩ := e
      rw [e3, e4]
      simp only [ph, scale, List.map_cons, List.map_nil, List.cons.injEq, and_true]
      exact ⟨by grind, by grind⟩
    have e2 : ph [q, L + p] = scale (2 * (L + p)) [p, q] := by
      simp only [ph, scale, List.map_cons, List.map_nil, List.cons.injEq, and_true]
      exact ⟨by grind, by grind⟩
    rw [← red_scale (sqp hk), ← e1, e2, red_scale (by omega), red_unit g]
/-- a turn's hour: sums and backs -/
theorem ph_tm {s t : List Int} (h : T2 s) (g : T2 t) : ph (tm s t) = hm (ph s) (ph t) := by
  obtain ⟨a, b, rfl⟩ := h
  obtain ⟨c, d, rfl⟩ := g
  simp only [ph, tm, hm, List.cons.injEq, and_true]
  exact ⟨by grind, by grind⟩
theorem ph_scale (k : Int) {t : List Int} (h : T2 t) : ph (scale k t) = scale (k * k) (ph t) := by
  obtain ⟨a, b, rfl⟩ := h
  simp only [ph, scale, List.map_cons, List.map_nil, List.cons.injEq, and_true]
  exact ⟨by grind, by grind⟩
theorem red_ph_upr {v : List Int} (h : T2 v) (hz : ¬ Zer v) : red (ph (upr v)) = red (ph v) := by
  obtain ⟨k, hk, e⟩ := upr_scale h hz
  conv => rhs; rw [e, ph_scale k (T2_upr h), red_scale (sqp hk)]
theorem red_ph_sum {s t : List Int} (h : Tn s) (g : Tn t) : red (ph (upr (tm s t))) = red (hm (red (ph s)) (red (ph t))) := by
  have zs := ph_nz h.t2 h.nz
  have zt := ph_nz g.t2 g.nz
  rw [red_ph_upr (T2_tm h.t2 g.t2) (tm_nz h.t2 g.t2 h.nz g.nz), ph_tm h.t2 g.t2, red_hmL (T2_ph h.t2) (T2_red (T2_ph g.t2)) zs, red_hmR (T2_ph h.t2) (T2_ph g.t2) zt]
theorem hb_red {v : List Int} (h : T2 v) : hb (red v) = red (hb v) := by
  obtain ⟨a, b, rfl⟩ := h
  have e : gcdL (hb [a, b]) = gcdL [a, b] := by simp [hb, gcdL]
  unfold red
  rw [e]
  have d : ((gcdL [a, b] : Nat) : Int) ∣ b := Int.ofNat_dvd_left.mpr (gcdL_dvd (by simp))
  simp [hb, Int.neg_ediv_of_dvd d]
theorem ph_tb {t : List Int} (h : Tn t) : red (ph (tb t)) = hb (red (ph t)) := by
  rw [hb_red (T2_ph h.t2)]
  obtain ⟨⟨a, b, rfl⟩, g, u⟩ := h
  by_cases b0 : b = 0
  · subst b0
    simp [tb, ph, hb]
  · have : tb [a, b] = [-a, b] := by simp [tb, b0]
    rw [this]
    congr 1
    simp only [ph, hb, List.cons.injEq, and_true]
    exact ⟨by grind, by grind⟩
/-! the order -/
def ahB : List Int → Bool
  | [a, b] => decide (b < 0 ∨ (b = 0 ∧ a < 0))
  | _ => false
def crB : List Int → List Int → Int
  | [a, b], [c, d] => a * d - b * c
  | _, _ => 0
def bfB (v w : List Int) : Bool := if ahB v = ahB w then decide (crB v w > 0) else ahB v
theorem ahB_scale {k : Int} (hk : 0 < k) {v : List Int} (h : T2 v) : ahB (scale k v) = ahB v := by
  obtain ⟨a, b, rfl⟩ := h
  have e1 : (k * b < 0) ↔ b < 0 := ⟨fun h => by rcases Int.lt_or_le b 0 with w | w; exact w; have := Int.mul_nonneg (Int.le_of_lt hk) w; omega, fun h => Int.mul_neg_of_pos_of_neg hk h⟩
  have e2 : (k * a < 0) ↔ a < 0 := ⟨fun h => by rcases Int.lt_or_le a 0 with w | w; exact w; have := Int.mul_nonneg (Int.le_of_lt hk) w; omega, fun h => Int.mul_neg_of_pos_of_neg hk h⟩
  have e3 : (k * b = 0) ↔ b = 0 := ⟨fun h => by rcases Int.mul_eq_zero.mp h with w | w <;> omega, fun h => by rw [h]; omega⟩
  simp only [ahB, scale, List.map_cons, List.map_nil, e1, e2, e3]
theorem bfB_scale {k l : Int} (hk : 0 < k) (hl : 0 < l) {v w : List Int} (h : T2 v) (g : T2 w) : bfB (scale k v) (scale l w) = bfB v w := by
  have e : decide (crB (scale k v) (scale l w) > 0) = decide (crB v w > 0) := by
    obtain ⟨a, b, rfl⟩ := h
    obtain ⟨c, d, rfl⟩ := g
    have : crB (scale k [a, b]) (scale l [c, d]) = (k * l) * crB [a, b] [c, d] := by
      simp only [crB, scale, List.map_cons, List.map_nil]; grind
    rw [this]
    have kl := Int.mul_pos hk hl
    congr 1
    apply propext
    exact ⟨fun h => Int.pos_of_mul_pos_right h kl, fun h => Int.mul_pos kl h⟩
  unfold bfB
  rw [e, ahB_scale hk h, ahB_scale hl g]
theorem bfB_red {v w : List Int} (h : T2 v) (g : T2 w) (hv : ¬ Zer v) (hw : ¬ Zer w) : bfB (red v) (red w) = bfB v w := by
  obtain ⟨k, hk, e⟩ := scale_red_pos hv
  obtain ⟨l, hl, f⟩ := scale_red_pos hw
  conv => rhs; rw [e, f, bfB_scale hk hl (T2_red h) (T2_red g)]
theorem bfB_ph {a b c d : Int} (hb : 0 < b) (hd : 0 < d) : bfB (ph [a, b]) (ph [c, d]) = decide (a * d < c * b) := by
  have key : ∀ a b : Int, 0 < b → ahB (ph [a, b]) = decide (a < 0) := by
    intro a b hb
    simp only [ahB, ph]
    congr 1
    apply propext
    rcases Int.lt_trichotomy a 0 with h | h | h
    · have : 2 * a * b < 0 := Int.mul_neg_of_neg_of_pos (by omega) hb
      exact ⟨fun _ => h, fun _ => .inl this⟩
    · subst h
      have := Int.mul_pos hb hb
      simp; omega
    · have : 0 < 2 * a * b := Int.mul_pos (by omega) hb
      omega
  have e : crB (ph [a, b]) (ph [c, d]) = 2 * ((c * b - a * d) * (b * d + a * c)) := by
    simp only [crB, ph]; grind
  have bd := Int.mul_pos hb hd
  unfold bfB
  rw [key a b hb, key c d hd, e]
  by_cases ha : a < 0 <;> by_cases hc : c < 0
  · have ac := Int.mul_pos_of_neg_of_neg ha hc
    simp only [ha, hc, if_true]
    congr 1
    apply propext
    constructor
    · intro h
      have : 0 < (b * d + a * c) * (c * b - a * d) := by grind
      have := Int.pos_of_mul_pos_right this (show 0 < b * d + a * c by omega)
      omega
    · intro h
      have := Int.mul_pos (show 0 < c * b - a * d by omega) (show 0 < b * d + a * c by omega)
      omega
  · have h1 : a * d < 0 := Int.mul_neg_of_neg_of_pos ha hd
    have h2 : 0 ≤ c * b := Int.mul_nonneg (by omega) (by omega)
    simp [ha, hc]; omega
  · have h1 : 0 ≤ a * d := Int.mul_nonneg (by omega) (by omega)
    have h2 : c * b < 0 := Int.mul_neg_of_neg_of_pos hc hb
    simp [ha, hc]; omega
  · have ac := Int.mul_nonneg (show 0 ≤ a by omega) (show 0 ≤ c by omega)
    simp only [ha, hc, if_true]
    congr 1
    apply propext
    constructor
    · intro h
      have : 0 < (b * d + a * c) * (c * b - a * d) := by grind
      have := Int.pos_of_mul_pos_right this (show 0 < b * d + a * c by omega)
      omega
    · intro h
      have := Int.mul_pos (show 0 < c * b - a * d by omega) (show 0 < b * d + a * c by omega)
      omega
theorem bfB_half {v : List Int} (h : T2 v) : bfB v [-1, 0] = false := by
  obtain ⟨a, b, rfl⟩ := h
  unfold bfB
  have : ahB [-1, 0] = true := by decide
  rw [this]
  by_cases q : ahB [a, b] = true
  · rw [if_pos q]
    simp only [ahB, decide_eq_true_eq] at q
    simp [crB]; omega
  · rw [if_neg q]
    simpa using q
/-- whole roots -/
def sqB (S : Int) : Bool := decide (((PySem.Float64.isqrt S.toNat : Nat) : Int) * ((PySem.Float64.isqrt S.toNat : Nat) : Int) = S)
theorem isq_at {S r : Nat} (h1 : r * r ≤ S) (h2 : S < (r + 1) * (r + 1)) : PySem.Float64.isqrt S = r := by
  obtain ⟨g1, g2⟩ := PySem.Float64.isqrt_spec S
  generalize PySem.Float64.isqrt S = x at *
  have a : x < r + 1 := Nat.mul_self_lt_mul_self_iff.mp (Nat.lt_of_le_of_lt g1 h2)
  have b : r < x + 1 := Nat.mul_self_lt_mul_self_iff.mp (Nat.lt_of_le_of_lt h1 g2)
  omega
theorem isq_eq {S L : Int} (hL : 0 ≤ L) (e : L * L = S) : ((PySem.Float64.isqrt S.toNat : Nat) : Int) = L := by
  have e1 : S.toNat = L.toNat * L.toNat := by
    have : (L.toNat : Int) = L := Int.toNat_of_nonneg hL
    rw [← e]
    conv => lhs; rw [← this]
    rw [← Int.natCast_mul, Int.toNat_natCast]
  rw [isq_at (S := S.toNat) (r := L.toNat) (by omega) (by rw [e1]; exact Nat.mul_self_lt_mul_self (by omega))]
  exact Int.toNat_of_nonneg hL
theorem sqB_of {S L : Int} (hL : 0 ≤ L) (e : L * L = S) : sqB S = true := by
  unfold sqB; rw [isq_eq hL e]; simp [e]
theorem sqB_ex {S : Int} (h : sqB S = true) : ∃ L : Int, 0 ≤ L ∧ L * L = S := ⟨_, by omega, of_decide_eq_true h⟩
end Vec

set_option maxHeartbeats 2000000
/-! ### the ray that rises and sets so -/
namespace Vec
open L3
section
variable {P s t u v : List Int}
theorem rot_tb' (f : T3 u) (a b : Int) : rot u (tb [a, b]) = rot u [-a, b] := by
  obtain ⟨x, y, z, rfl⟩ := f
  simp only [tb]
  split
  · rename_i w; subst w
    simp only [rot, List.cons.injEq, and_true]; grind
  · rfl
/-- along the ray that rises at s and sets at t -/
def rv : List Int → List Int → List Int → List Int
  | [p, q], [a, b], [c, d] => scale (q * (b * c - a * d)) [q * (a * c - b * d), -(q * (a * d + b * c)), p * (a * c + b * d)]
  | _, _, _ => []
theorem T3_rv (hP : T2 P) (h : T2 s) (g : T2 t) : T3 (rv P s t) := by
  obtain ⟨p, q, rfl⟩ := hP
  obtain ⟨a, b, rfl⟩ := h
  obtain ⟨c, d, rfl⟩ := g
  exact ⟨_, _, _, rfl⟩
theorem dif_nz (h : Tn s) (g : Tn t) (ne : s ≠ t) : ∀ a b c d, s = [a, b] → t = [c, d] → b * c - a * d ≠ 0 := fun a b c d e1 e2 z => ne (Tn_eq h g ⟨a, b, c, d, e1, e2, by grind⟩)
theorem sum_sq {x y : Int} (h : x * x + y * y = 0) : x = 0 ∧ y = 0 := by
  have := sq_nn x
  have := sq_nn y
  exact ⟨sq_zero (by omega), sq_zero (by omega)⟩
theorem sq_pos' {x : Int} (h : x ≠ 0) : 0 < x * x := by
  have := sq_nn x
  rcases Int.lt_or_le 0 (x * x) with w | w
  · exact w
  · exact absurd (sq_zero (by omega)) h
theorem rv_S1 (hP : Warm P) (h : Tn s) (g : Tn t) (ne : s ≠ t) (hq : ∀ p q, P = [p, q] → q ≠ 0) : S1 P (rv P s t) s := by
  have dn := dif_nz h g ne
  have ns := nm_pos h.t2 h.nz
  obtain ⟨p, q, rfl, p0, _⟩ := hP
  obtain ⟨a, b, rfl⟩ := h.t2
  obtain ⟨c, d, rfl⟩ := g.t2
  have dn := dn a b c d rfl rfl
  have q0 := hq p q rfl
  unfold S1
  rw [rot_tb' (T3_rv (T2_lit _ _) (T2_lit _ _) (T2_lit _ _))]
  constructor
  · simp only [rv, scale, List.map_cons, List.map_nil, rot, hv, dot]; grind
  · have e : yy (rot (rv [p, q] [a, b] [c, d]) [-a, b]) = -((q * (b * c - a * d)) * (q * (b * c - a * d)) * (a * a + b * b)) := by
      simp only [rv, scale, List.map_cons, List.map_nil, rot, yy]; grind
    rw [e]
    have := Int.mul_pos (sq_pos' (Int.mul_ne_zero q0 dn)) ns
    simp only [nm] at this
    omega
theorem rv_S2 (hP : Warm P) (h : Tn s) (g : Tn t) (ne : s ≠ t) (hq : ∀ p q, P = [p, q] → q ≠ 0) : S2 P (rv P s t) t := by
  have dn := dif_nz h g ne
  have ns := nm_pos g.t2 g.nz
  obtain ⟨p, q, rfl, p0, _⟩ := hP
  obtain ⟨a, b, rfl⟩ := h.t2
  obtain ⟨c, d, rfl⟩ := g.t2
  have dn := dn a b c d rfl rfl
  have q0 := hq p q rfl
  unfold S2
  rw [rot_tb' (T3_rv (T2_lit _ _) (T2_lit _ _) (T2_lit _ _))]
  constructor
  · simp only [rv, scale, List.map_cons, List.map_nil, rot, hv, dot]; grind
  · have e : yy (rot (rv [p, q] [a, b] [c, d]) [-c, d]) = (q * (b * c - a * d)) * (q * (b * c - a * d)) * (c * c + d * d) := by
      simp only [rv, scale, List.map_cons, List.map_nil, rot, yy]; grind
    rw [e]
    have := Int.mul_pos (sq_pos' (Int.mul_ne_zero q0 dn)) ns
    simp only [nm] at this
    omega
theorem S1_nz (f : T3 u) (g : T2 s) (h : S1 P u s) : ¬ Zer u := fun z => by
  obtain ⟨x, y, w, rfl⟩ := f
  obtain ⟨a, b, e⟩ := T2_tb g
  simp at z
  obtain ⟨rfl, rfl, rfl⟩ := z
  have := h.2
  rw [e] at this
  simp [rot, yy] at this
theorem turned_cross (hP : Warm P) (h : T2 s) (g : T2 t) : ∀ p q a b c d, P = [p, q] → s = [a, b] → t = [c, d] → cross (rot (hv P) s) (rot (hv P) t) = scale (2 * p * (b * c - a * d)) [q * (a * c - b * d), -(q * (a * d + b * c)), p * (a * c + b * d)] := by
  rintro p q a b c d rfl rfl rfl
  simp only [hv, rot, cross, scale, List.map_cons, List.map_nil, List.cons.injEq, and_true]
  refine ⟨?_, ?_, ?_⟩ <;> grind
theorem w_nz (h : Tn s) (g : Tn t) : ∀ p q a b c d, q ≠ 0 → s = [a, b] → t = [c, d] → ¬ Zer [q * (a * c - b * d), -(q * (a * d + b * c)), p * (a * c + b * d)] := by
  rintro p q a b c d q0 rfl rfl z
  have tz := tm_nz h.t2 g.t2 h.nz g.nz
  simp only [tm, Zer_cons] at tz
  simp only [Zer_cons, Int.neg_eq_zero, Int.mul_eq_zero] at z
  obtain ⟨z1, z2, _⟩ := z
  have z1 := z1.resolve_left q0
  have z2 := z2.resolve_left q0
  exact tz ⟨by grind, by grind, by simp⟩
theorem turned_cross_nz (hP : Warm P) (h : Tn s) (g : Tn t) (ne : s ≠ t) (hq : ∀ p q, P = [p, q] → q ≠ 0) : ¬ Zer (cross (rot (hv P) s) (rot (hv P) t)) := by
  have dn := dif_nz h g ne
  have tc := turned_cross hP h.t2 g.t2
  have wn := w_nz h g
  obtain ⟨p, q, rfl, p0, _⟩ := hP
  obtain ⟨a, b, rfl⟩ := h.t2
  obtain ⟨c, d, rfl⟩ := g.t2
  rw [tc p q a b c d rfl rfl rfl, Zer.scale (Int.mul_ne_zero (by omega) (dn a b c d rfl rfl))]
  exact wn p q a b c d (hq p q rfl) rfl rfl
/-- one ray alone does so, up to its length -/
theorem rv_uniq (hP : Warm P) (h : Tn s) (g : Tn t) (ne : s ≠ t) (hq : ∀ p q, P = [p, q] → q ≠ 0) (f : T3 u) (a : S1 P u s) (b : S2 P u t) (f' : T3 v) (a' : S1 P v s) (b' : S2 P v t) : red u = red v := by
  have n1 := S1_nz f h.t2 a
  have n2 := S1_nz f' h.t2 a'
  have r1 := T3_rot (T3_hv hP.t2) h.t2
  have r2 := T3_rot (T3_hv hP.t2) g.t2
  have fc := r1.cross r2
  have fz := turned_cross_nz hP h g ne hq
  have o1 := on_both f r1 r2 (by rw [on_turned hP.t2 f h]; exact a.1) (by rw [on_turned hP.t2 f g]; exact b.1)
  have o2 := on_both f' r1 r2 (by rw [on_turned hP.t2 f' h]; exact a'.1) (by rw [on_turned hP.t2 f' g]; exact b'.1)
  have neg_no : ∀ {u v : List Int}, T3 u → T3 v → ¬ Zer u → ¬ Zer v → S1 P u s → S1 P v s → red u ≠ neg (red v) := fun {u v} f f' n1 n2 a a' e => by
    have y1 := ((S1_red hP.t2 f h.t2 n1).mpr a).2
    have y2 := ((S1_red hP.t2 f' h.t2 n2).mpr a').2
    rw [e, rot_neg f'.red (T2_tb h.t2), neg_scale, yy_scale _ (T3_rot f'.red (T2_tb h.t2))] at y1
    omega
  rcases para_or f fc n1 fz o1 with e1 | e1 <;> rcases para_or f' fc n2 fz o2 with e2 | e2
  · rw [e1, e2]
  · exact absurd (by rw [e1, e2, neg_neg]) (neg_no f f' n1 n2 a a')
  · exact absurd (by rw [e1, e2]) (neg_no f f' n1 n2 a a')
  · rw [e1, e2]
/-! the middle between both hours -/
def sw : List Int → List Int
  | [a, b] => [b, a]
  | v => v
theorem T2_sw (h : T2 u) : T2 (sw u) := by obtain ⟨a, b, rfl⟩ := h; exact ⟨_, _, rfl⟩
theorem gcdL_sw (h : T2 u) : gcdL (sw u) = gcdL u := by
  obtain ⟨a, b, rfl⟩ := h
  simp [sw, gcdL, Nat.gcd_comm]
theorem red_sw (h : T2 u) : red (sw u) = sw (red u) := by
  have e := gcdL_sw h
  obtain ⟨a, b, rfl⟩ := h
  unfold red
  rw [e]; rfl
theorem sw_neg (h : T2 u) : sw (neg u) = neg (sw u) := by obtain ⟨a, b, rfl⟩ := h; rfl
theorem hm_sw (h : T2 u) : hm (sw u) (sw u) = ph u := by
  obtain ⟨a, b, rfl⟩ := h
  simp only [sw, hm, ph, List.cons.injEq, and_true]
  exact ⟨by grind, by grind⟩
theorem hm_neg2 (h : T2 u) : hm (neg u) (neg u) = hm u u := by
  obtain ⟨a, b, rfl⟩ := h
  simp only [neg, List.map_cons, List.map_nil, hm, List.cons.injEq, and_true]
  exact ⟨by grind, by grind⟩
theorem ahB_neg (h : T2 u) (hz : ¬ Zer u) : ahB (neg u) = !ahB u := by
  obtain ⟨a, b, rfl⟩ := h
  simp only [Zer_cons] at hz
  have : ¬ (a = 0 ∧ b = 0) := fun e => hz ⟨e.1, e.2, by simp⟩
  simp only [ahB, neg, List.map_cons, List.map_nil]
  by_cases h1 : b < 0 ∨ (b = 0 ∧ a < 0)
  · rw [decide_eq_true h1, decide_eq_false (by omega)]; rfl
  · rw [decide_eq_false h1, decide_eq_true (by omega)]; rfl
theorem bfB_neg (h : T2 u) (hz : ¬ Zer u) : bfB u (neg u) = ahB u ∧ bfB (neg u) u = !ahB u := by
  unfold bfB
  rw [ahB_neg h hz]
  constructor
  · cases ahB u <;> rfl
  · cases ahB u <;> rfl
/-- the hour of that ray is one of both -/
theorem p2_rv (hP : T2 P) (h : T2 s) (g : T2 t) : ∃ k : Int, p2 (rv P s t) = scale k (sw (tm s t)) ∧ ((∀ p q, P = [p, q] → q ≠ 0) → (∀ a b c d, s = [a, b] → t = [c, d] → b * c - a * d ≠ 0) → k ≠ 0) := by
  obtain ⟨p, q, rfl⟩ := hP
  obtain ⟨a, b, rfl⟩ := h
  obtain ⟨c, d, rfl⟩ := g
  refine ⟨-(q * q * (b * c - a * d)), ?_, ?_⟩
  · simp only [rv, scale, List.map_cons, List.map_nil, p2, tm, sw, List.cons.injEq, and_true]
    exact ⟨by grind, by grind⟩
  · intro hq dn
    have q0 := hq p q rfl
    have d0 := dn a b c d rfl rfl
    have := Int.mul_ne_zero (Int.mul_ne_zero q0 q0) d0
    omega
theorem red_scale_or {k : Int} (hk : k ≠ 0) (v : List Int) : red (scale k v) = red v ∨ red (scale k v) = neg (red v) := by
  rcases Int.lt_or_le 0 k with w | w
  · exact .inl (red_scale w v)
  · right
    have : scale k v = scale (-k) (neg v) := by rw [← scale_neg, Int.neg_neg]
    rw [this, red_scale (by omega), red_neg]
theorem hm_four {a b : List Int} (h : T2 a) (g : T2 b) : hm (hm a b) (hm a b) = hm (hm a a) (hm b b) := by
  obtain ⟨x, y, rfl⟩ := h
  obtain ⟨z, w, rfl⟩ := g
  simp only [hm, List.cons.injEq, and_true]
  exact ⟨by grind, by grind⟩
theorem ph_tb' (c d : Int) : ph (tb [c, d]) = [d * d - c * c, -(2 * c * d)] := by
  simp only [tb]
  split
  · rename_i w; subst w; simp [ph]
  · simp only [ph, List.cons.injEq, and_true]; exact ⟨by grind, by grind⟩
theorem hm_ph_tb (g : T2 t) : hm (ph t) (ph (tb t)) = [nm t * nm t, 0] := by
  obtain ⟨c, d, rfl⟩ := g
  rw [ph_tb']
  simp only [ph, hm, nm, List.cons.injEq, and_true]
  exact ⟨by grind, by grind⟩
theorem hm_real {a : List Int} (h : T2 a) (k : Int) : hm a [k, 0] = scale k a := by
  obtain ⟨x, y, rfl⟩ := h
  simp only [hm, scale, List.map_cons, List.map_nil, List.cons.injEq, and_true]
  exact ⟨by grind, by grind⟩
/-- twice the hour of the fall is the day's length -/
theorem fall_twice {k : Int} (hk : k ≠ 0) (h : Tn s) (g : Tn t) {e : List Int} (he : T2 e) (ee : ∃ j : Int, 0 < j ∧ scale j e = scale k (sw (tm s t))) : red (hm (red (hm e (ph (tb t)))) (red (hm e (ph (tb t))))) = red (ph (upr (tm s (tb t)))) := by
  have pt := T2_ph (T2_tb g.t2)
  have zt := ph_nz (T2_tb g.t2) (Tn_tb g).nz
  have tz := tm_nz h.t2 g.t2 h.nz g.nz
  have tt := T2_tm h.t2 g.t2
  obtain ⟨j, hj, ej⟩ := ee
  have zsw : ¬ Zer (sw (tm s t)) := by
    obtain ⟨x, y, e⟩ := tt
    rw [e] at tz ⊢
    simp only [sw, Zer_cons] at tz ⊢
    exact fun q => tz ⟨q.2.1, q.1, q.2.2⟩
  have ze : ¬ Zer e := fun z => by
    have : Zer (scale k (sw (tm s t))) := by rw [← ej, Zer.scale (by omega)]; exact z
    rw [Zer.scale hk] at this
    exact zsw this
  have zx := hm_nz he pt ze zt
  rw [red_hmL (he.hm pt) (T2_red (he.hm pt)) zx, red_hmR (he.hm pt) (he.hm pt) zx, hm_four he pt]
  -- e e is along ph (tm s t)
  have sq1 : scale (j * j) (hm e e) = scale (k * k) (ph (tm s t)) := by
    rw [← hm_sw tt]
    have : hm (scale j e) (scale j e) = hm (scale k (sw (tm s t))) (scale k (sw (tm s t))) := by rw [ej]
    rw [hm_scaleL j he (T2_scale he), hm_scaleR j he he, hm_scaleL k (T2_sw tt) (T2_scale (T2_sw tt)), hm_scaleR k (T2_sw tt) (T2_sw tt), scale_scale, scale_scale] at this
    exact this
  have jj := sqp (show j ≠ 0 by omega)
  have kk := sqp hk
  have n0 := nm_pos g.t2 g.nz
  have nn := Int.mul_pos n0 n0
  have pp := T2_hm pt pt
  rw [← red_scale jj (hm (hm e e) (hm (ph (tb t)) (ph (tb t)))), ← hm_scaleL (j * j) (he.hm he) pp, sq1, hm_scaleL (k * k) (T2_ph tt) pp, red_scale kk, ph_tm h.t2 g.t2]
  have ps := T2_ph h.t2
  have pt' := T2_ph g.t2
  rw [hm_assoc ps pt' pp, ← hm_assoc pt' pt pt, hm_ph_tb g.t2, hm_comm (T2_lit _ _) pt, hm_real pt, hm_scaleR _ ps pt, red_scale nn]
  rw [red_ph_sum h (Tn_tb g)]
  have zs := ph_nz h.t2 h.nz
  rw [red_hmL ps (T2_red pt) zs, red_hmR ps pt zt]
/-- the start again -/
theorem rise_len {x y z : Int} (hy : 0 < y) : rot [x, -y, z] [y, x] = scale (x * x + y * y) [x, y, z] := by
  simp only [rot, scale, List.map_cons, List.map_nil, List.cons.injEq, and_true]
  refine ⟨?_, ?_, ?_⟩ <;> grind
end
end Vec

set_option maxHeartbeats 2000000
/-! ### from face to face -/
namespace Vec
open L2 L3
section
variable {a b c a' b' c' x y z u v s l : List Int}
theorem cross_lv (h1 : T3 a) (h2 : T3 b) (h3 : T3 c) (f : T3 u) (g : T3 v) : cross (lv a b c u) (lv a b c v) = scale (dt a b c) (ld a b c (cross u v)) := by
  obtain ⟨a1, a2, a3, rfl⟩ := h1
  obtain ⟨b1, b2, b3, rfl⟩ := h2
  obtain ⟨c1, c2, c3, rfl⟩ := h3
  obtain ⟨x, y, z, rfl⟩ := f
  obtain ⟨x', y', z', rfl⟩ := g
  simp only [lv, ld, dt, dot, cross, scale, List.map_cons, List.map_nil, List.cons.injEq, and_true]
  refine ⟨?_, ?_, ?_⟩ <;> grind
theorem lv_lv (h1 : T3 a) (h2 : T3 b) (h3 : T3 c) (k1 : T3 a') (k2 : T3 b') (k3 : T3 c') (f : T3 s) : lv (lv a b c a') (lv a b c b') (lv a b c c') (lv a b c s) = scale (dt a b c * dt a b c) (lv a' b' c' s) := by
  have e : ∀ u v : List Int, T3 u → T3 v → dot (cross (lv a b c u) (lv a b c v)) (lv a b c s) = dt a b c * dt a b c * dot (cross u v) s := fun u v hu hv => by
    rw [cross_lv h1 h2 h3 hu hv, dot_scaleL _ T3_ld T3_lv, dot_comm T3_ld T3_lv, dot_lv_ld h1 h2 h3 f (hu.cross hv), dot_comm f (hu.cross hv), Int.mul_assoc]
  conv => lhs; unfold lv
  have e1 := e b' c' k2 k3
  have e2 := e c' a' k3 k1
  have e3 := e a' b' k1 k2
  unfold lv at e1 e2 e3
  rw [e1, e2, e3]
  rfl
theorem dt_lv (h1 : T3 a) (h2 : T3 b) (h3 : T3 c) (k1 : T3 a') (k2 : T3 b') (k3 : T3 c') : dt (lv a b c a') (lv a b c b') (lv a b c c') = dt a b c * dt a b c * dt a' b' c' := by
  unfold dt
  rw [cross_lv h1 h2 h3 k2 k3, dot_scaleR _ T3_lv T3_ld, dot_lv_ld h1 h2 h3 k1 (k2.cross k3), Int.mul_assoc]
  rfl
theorem dt_scl (k : Int) (h1 : T3 a) (h2 : T3 b) (h3 : T3 c) : dt (scale k a) (scale k b) (scale k c) = k * k * k * dt a b c := by
  obtain ⟨a1, a2, a3, rfl⟩ := h1
  obtain ⟨b1, b2, b3, rfl⟩ := h2
  obtain ⟨c1, c2, c3, rfl⟩ := h3
  simp only [dt, dot, cross, scale, List.map_cons, List.map_nil]
  grind
theorem lv_scl (k : Int) (h1 : T3 a) (h2 : T3 b) (h3 : T3 c) (f : T3 s) : lv (scale k a) (scale k b) (scale k c) s = scale (k * k) (lv a b c s) := by
  obtain ⟨a1, a2, a3, rfl⟩ := h1
  obtain ⟨b1, b2, b3, rfl⟩ := h2
  obtain ⟨c1, c2, c3, rfl⟩ := h3
  obtain ⟨x, y, z, rfl⟩ := f
  simp only [lv, dot, cross, scale, List.map_cons, List.map_nil, List.cons.injEq, and_true]
  refine ⟨?_, ?_, ?_⟩ <;> grind
theorem ld_scl (k : Int) (h1 : T3 a) (h2 : T3 b) (h3 : T3 c) (f : T3 s) : ld (scale k a) (scale k b) (scale k c) s = scale k (ld a b c s) := by
  unfold ld
  rw [dot_scaleL k h1 f, dot_scaleL k h2 f, dot_scaleL k h3 f]
  rfl
theorem sg_sq {d : Int} (h : d ≠ 0) : sg d * sg d = 1 := by
  unfold sg
  split
  · rfl
  · split
    · rfl
    · omega
theorem sg_nz {d : Int} (h : d ≠ 0) : sg d ≠ 0 := fun e => by
  have := sg_sq h
  rw [e] at this
  omega
/-- the matrix that leads from the face `a b c` to the face `a' b' c'` -/
structure Cy (a b c a' b' c' x y z : List Int) : Prop where
  fc : Fc x y z
  e : ∃ k : Int, 0 < k ∧ scale k x = scale (sg (dt a b c)) (lv a b c a') ∧ scale k y = scale (sg (dt a b c)) (lv a b c b') ∧ scale k z = scale (sg (dt a b c)) (lv a b c c')
theorem Cy.of (h : Fc a b c) (h' : Fc a' b' c') : ∃ x y z, Vec.red (scale (sg (dt a b c)) (lv a b c a') ++ (scale (sg (dt a b c)) (lv a b c b') ++ scale (sg (dt a b c)) (lv a b c c'))) = x ++ (y ++ z) ∧ Cy a b c a' b' c' x y z := by
  have nz : dt (scale (sg (dt a b c)) (lv a b c a')) (scale (sg (dt a b c)) (lv a b c b')) (scale (sg (dt a b c)) (lv a b c c')) ≠ 0 := by
    rw [dt_scl _ T3_lv T3_lv T3_lv, dt_lv h.ha h.hb h.hc h'.ha h'.hb h'.hc]
    have s := sg_nz h.hd
    simp only [ne_eq, Int.mul_eq_zero, s, h.hd, h'.hd, or_self, not_false_eq_true]
  obtain ⟨x, y, z, k, hk, e, fc, e1, e2, e3⟩ := Fc.of (T3_lv.scale _) (T3_lv.scale _) (T3_lv.scale _) nz
  exact ⟨x, y, z, e, fc, k, hk, e1.symm, e2.symm, e3.symm⟩
theorem Cy.ld (h : Fc a b c) (h' : Fc a' b' c') (m : Cy a b c a' b' c' x y z) (f : T3 v) : ∃ k j : Int, 0 < k ∧ 0 < j ∧ scale k (Vec.ld x y z (Vec.ld a b c v)) = scale j (Vec.ld a' b' c' v) := by
  obtain ⟨k, hk, e1, e2, e3⟩ := m.e
  refine ⟨k, sg (dt a b c) * dt a b c, hk, h.pos, ?_⟩
  rw [← ld_scl k m.fc.ha m.fc.hb m.fc.hc T3_ld, e1, e2, e3, ld_scl _ T3_lv T3_lv T3_lv T3_ld, ← scale_scale]
  congr 1
  have e : ∀ u, T3 u → dot (lv a b c u) (Vec.ld a b c v) = dt a b c * dot u v := fun u hu => dot_lv_ld h.ha h.hb h.hc hu f
  conv => lhs; unfold Vec.ld
  have i1 := e _ h'.ha
  have i2 := e _ h'.hb
  have i3 := e _ h'.hc
  unfold Vec.ld at i1 i2 i3
  rw [i1, i2, i3]
  rfl
theorem pos_third {k j : Int} (hk : 0 < k) (hj : 0 < j) {p q : Int} (e : k * p = j * q) : 0 < p ↔ 0 < q := by
  constructor
  · intro h
    have := Int.mul_pos hk h
    rw [e] at this
    exact (pos_iff hj q).mp this
  · intro h
    have := Int.mul_pos hj h
    rw [← e] at this
    exact (pos_iff hk _).mp this
theorem Cy.sh (h : Fc a b c) (h' : Fc a' b' c') (m : Cy a b c a' b' c' x y z) (f : T3 v) (hv : ¬ Zer v) : Vec.red (Vec.ld x y z (Vec.red (Vec.ld a b c v))) = Vec.red (Vec.ld a' b' c' v) ∧ (0 < dot z (Vec.red (Vec.ld a b c v)) ↔ 0 < dot c' v) := by
  obtain ⟨k, j, hk, hj, e⟩ := m.ld h h' f
  have e1 := congrArg Vec.red e
  rw [red_scale hk, red_scale hj] at e1
  refine ⟨by rw [red_ld m.fc T3_ld (ld_nz h f hv), e1], ?_⟩
  rw [dot_red_posR m.fc.hc T3_ld (ld_nz h f hv)]
  have e2 : k * dot z (Vec.ld a b c v) = j * dot c' v := by
    have := congrArg (fun w : List Int => w.getD 2 0) e
    simpa [scale, Vec.ld] using this
  exact pos_third hk hj e2
theorem Cy.lv (h : Fc a b c) (h' : Fc a' b' c') (m : Cy a b c a' b' c' x y z) (f : T3 s) : ∃ k j : Int, k ≠ 0 ∧ j ≠ 0 ∧ scale k (Vec.lv x y z (Vec.lv a b c s)) = scale j (Vec.lv a' b' c' s) := by
  obtain ⟨k, hk, e1, e2, e3⟩ := m.e
  refine ⟨k * k, dt a b c * dt a b c, by have := Int.mul_pos hk hk; omega, by simp [Int.mul_eq_zero, h.hd], ?_⟩
  rw [← lv_scl k m.fc.ha m.fc.hb m.fc.hc T3_lv, e1, e2, e3, lv_scl _ T3_lv T3_lv T3_lv T3_lv, sg_sq h.hd, lv_lv h.ha h.hb h.hc h'.ha h'.hb h'.hc f]
  unfold scale
  simp
theorem two_fu_of {p q : List Int} {k j : Int} (hk : k ≠ 0) (hj : j ≠ 0) (f : T3 p) (g : T3 q) (hp : ¬ Zer p) (hq : ¬ Zer q) (e : scale k p = scale j q) : (Two p ↔ Two q) ∧ fu p = fu q := by
  constructor
  · rw [← Two.scale hk f, e, Two.scale hj g]
  · rw [← fu_scale hk hp, e, fu_scale hj hq]
/-- the line carried: that of the plane on the other face -/
theorem Cy.line (h : Fc a b c) (h' : Fc a' b' c') (m : Cy a b c a' b' c' x y z) (f : T3 s) (hs : ¬ Zer s) : (Two (Vec.lv x y z (Vec.fu (Vec.lv a b c s))) ↔ Two (Vec.lv a' b' c' s)) ∧ Vec.fu (Vec.lv x y z (Vec.fu (Vec.lv a b c s))) = Vec.fu (Vec.lv a' b' c' s) := by
  obtain ⟨k, j, hk, hj, e⟩ := m.lv h h' f
  have n1 := lv_nz h f hs
  have hf : ∃ i : Int, i ≠ 0 ∧ Vec.lv a b c s = scale i (Vec.fu (Vec.lv a b c s)) := by
    obtain ⟨i, hi, e1⟩ := scale_red_pos n1
    rcases fu_or (Vec.lv a b c s) with e2 | e2 <;> rw [e2]
    · exact ⟨i, by omega, e1⟩
    · refine ⟨-i, by omega, ?_⟩
      conv => lhs; rw [e1]
      rw [neg_scale, scale_scale]
      congr 1
      omega
  obtain ⟨i, hi, e1⟩ := hf
  have tf : T3 (Vec.fu (Vec.lv a b c s)) := T3_fu T3_lv
  have nf : ¬ Zer (Vec.fu (Vec.lv a b c s)) := fun z => by
    have := fu_g n1
    rw [gcdL_zero.mpr z] at this; cases this
  have e2 : Vec.lv x y z (Vec.lv a b c s) = scale i (Vec.lv x y z (Vec.fu (Vec.lv a b c s))) := by
    conv => lhs; rw [e1]
    rw [lv_scale i m.fc.ha m.fc.hb m.fc.hc tf]
  rw [e2, scale_scale] at e
  exact two_fu_of (by simp [Int.mul_eq_zero, hk, hi]) hj T3_lv T3_lv (lv_nz m.fc tf nf) (lv_nz h' f hs) e
theorem Cy.last (h : Fc a b c) (h' : Fc a' b' c') (m : Cy a b c a' b' c' x y z) : (Two z ↔ Two (Vec.lv a b c c')) ∧ Vec.fu z = Vec.fu (Vec.lv a b c c') := by
  obtain ⟨k, hk, e1, e2, e3⟩ := m.e
  exact two_fu_of (by omega) (sg_nz h.hd) m.fc.hc T3_lv m.fc.cz (lv_nz h h'.hc h'.cz) e3
theorem lv_own (h1 : T3 a) (h2 : T3 b) (h3 : T3 c) : Vec.lv a b c a = [dt a b c, 0, 0] ∧ Vec.lv a b c b = [0, dt a b c, 0] ∧ Vec.lv a b c c = [0, 0, dt a b c] := by
  obtain ⟨a1, a2, a3, rfl⟩ := h1
  obtain ⟨b1, b2, b3, rfl⟩ := h2
  obtain ⟨c1, c2, c3, rfl⟩ := h3
  simp only [Vec.lv, dt, dot, cross, List.cons.injEq, and_true]
  refine ⟨⟨?_, ?_, ?_⟩, ⟨?_, ?_, ?_⟩, ⟨?_, ?_⟩⟩ <;> grind
theorem lv_end (h : Fc a b c) : Two (Vec.lv a b c (Vec.fu c)) := by
  have : Vec.lv a b c (Vec.fu c) = scale 1 (Vec.lv a b c (Vec.fu c)) := by unfold scale; simp
  obtain ⟨i, hi, e1⟩ := scale_red_pos h.cz
  have e2 := (lv_own h.ha h.hb h.hc).2.2
  have hf : ∃ i : Int, i ≠ 0 ∧ c = scale i (Vec.fu c) := by
    rcases fu_or c with e2 | e2 <;> rw [e2]
    · exact ⟨i, by omega, e1⟩
    · refine ⟨-i, by omega, ?_⟩
      conv => lhs; rw [e1]
      rw [neg_scale, scale_scale]
      congr 1
      omega
  obtain ⟨j, hj, e3⟩ := hf
  rw [← Two.scale hj T3_lv, ← lv_scale j h.ha h.hb h.hc (T3_fu h.hc), ← e3]
  exact ⟨_, e2⟩
theorem Cy.own (h : Fc a b c) (m : Cy a b c a b c x y z) : x = [1, 0, 0] ∧ y = [0, 1, 0] ∧ z = [0, 0, 1] := by
  obtain ⟨k, hk, e1, e2, e3⟩ := m.e
  obtain ⟨o1, o2, o3⟩ := lv_own h.ha h.hb h.hc
  rw [o1] at e1; rw [o2] at e2; rw [o3] at e3
  obtain ⟨x1, x2, x3, rfl⟩ := m.fc.ha
  obtain ⟨y1, y2, y3, rfl⟩ := m.fc.hb
  obtain ⟨z1, z2, z3, rfl⟩ := m.fc.hc
  have hp := h.pos
  have g := m.fc.g
  simp only [scale, List.map_cons, List.map_nil, List.cons.injEq, and_true, Int.mul_zero, Int.mul_eq_zero] at e1 e2 e3
  have k0 : k ≠ 0 := by omega
  simp only [k0, false_or] at e1 e2 e3
  generalize sg (dt a b c) * dt a b c = d at *
  obtain ⟨e1, rfl, rfl⟩ := e1
  obtain ⟨rfl, e2, rfl⟩ := e2
  obtain ⟨rfl, rfl, e3⟩ := e3
  have q : x1 = y2 ∧ x1 = z3 := by
    constructor <;> exact Int.eq_of_mul_eq_mul_left k0 (by omega)
  obtain ⟨rfl, rfl⟩ := q
  have xp : 0 < x1 := by
    have : 0 < k * x1 := by omega
    exact (pos_iff hk _).mp this
  have : x1 = 1 := by
    simp [gcdL] at g
    omega
  subst this
  exact ⟨rfl, rfl, rfl⟩
end
end Vec
namespace L3
open L2 PySem PySem.Spec PyProof.Rows Vec
section
variable {cf : Nat → List D → Store → Res D} {gl : Nat → Option D} {r : DEnv} {st : Store}
/-- a walk that leaves the store as it is; a turn may end by continue -/
theorem seq_sameC {ex : Ex} {v : Nat} {xs : List D} {d : D} {body : List Sm} {s0 : Store} (P : DEnv → Prop) (he : den cf gl ex r s0 = .ok d s0) (hd : isSeq s0 d = some xs) (h0 : P r)
    (hs : ∀ x ∈ xs, ∀ r, P r → ∃ r1, (denB cf gl body (r.set v (some x)) s0 = .go .nx r1 s0 ∨ denB cf gl body (r.set v (some x)) s0 = .go .ct r1 s0) ∧ P r1) : ∃ r1, denS cf gl (.loop .seq [ex] (.nm v) body) r s0 = .go .nx r1 s0 ∧ P r1 := by
  rw [loop_seq he hd]
  have key : ∀ (ys : List D) (r : DEnv), (∀ y ∈ ys, y ∈ xs) → P r → ∃ r1, forL (walked .seq [d]) (fun x r s => denB cf gl body (r.set v (some x)) s) ys r s0 = .go .nx r1 s0 ∧ P r1 := by
    intro ys
    induction ys with
    | nil => intro r _ hp; exact ⟨r, rfl, hp⟩
    | cons y ys ih =>
      intro r hy hp
      obtain ⟨r1, e, p1⟩ := hs y (hy y List.mem_cons_self) r hp
      obtain ⟨r2, e2, p2⟩ := ih r1 (fun z hz => hy z (List.mem_cons_of_mem _ hz)) p1
      refine ⟨r2, ?_, p2⟩
      rcases e with e | e <;> simp only [forL, e, stillB_same, if_true, e2]
  exact key xs r (fun _ h => h) h0
end
end L3

set_option maxHeartbeats 2000000
/-! ### turned faces -/
namespace Vec
open L2 L3
section
variable {a b c x y z x' y' z' u v s t : List Int}
theorem dt_turn (h1 : T3 a) (h2 : T3 b) (h3 : T3 c) (g : T2 t) : dt (rot a t) (rot b t) (rot c t) = nm t * (nm t * nm t * dt a b c) := by
  unfold dt
  rw [cross_rot h2 h3 g, dot_scaleR _ (T3_rot h1 g) (T3_rot (h2.cross h3) g), dot_rot h1 (h2.cross h3) g]
theorem lv_turn (h1 : T3 a) (h2 : T3 b) (h3 : T3 c) (f : T3 s) (g : T2 t) : lv (rot a t) (rot b t) (rot c t) (rot s t) = scale (nm t * (nm t * nm t)) (lv a b c s) := by
  have e : ∀ u v : List Int, T3 u → T3 v → dot (cross (rot u t) (rot v t)) (rot s t) = nm t * (nm t * nm t) * dot (cross u v) s := fun u v hu hv => by
    rw [cross_rot hu hv g, dot_scaleL _ (T3_rot (hu.cross hv) g) (T3_rot f g), dot_rot (hu.cross hv) f g]
    simp only [Int.mul_assoc]
  unfold lv
  rw [e _ _ h2 h3, e _ _ h3 h1, e _ _ h1 h2]
  rfl
theorem ld_turn (h1 : T3 a) (h2 : T3 b) (h3 : T3 c) (f : T3 v) (g : T2 t) : ld (rot a t) (rot b t) (rot c t) (rot v t) = scale (nm t * nm t) (ld a b c v) := by
  unfold ld
  rw [dot_rot h1 f g, dot_rot h2 f g, dot_rot h3 f g]
  rfl
/-- the face `a b c` turned by t -/
structure Tf (a b c t x y z : List Int) : Prop where
  fc : Fc x y z
  e : ∃ k : Int, 0 < k ∧ scale k x = rot a t ∧ scale k y = rot b t ∧ scale k z = rot c t
theorem Tf.of (h : Fc a b c) (g : Tn t) : ∃ x y z, Vec.red (rot a t ++ (rot b t ++ rot c t)) = x ++ (y ++ z) ∧ Tf a b c t x y z := by
  have np := nm_pos g.t2 g.nz
  have nz : dt (rot a t) (rot b t) (rot c t) ≠ 0 := by
    rw [dt_turn h.ha h.hb h.hc g.t2]
    simp only [ne_eq, Int.mul_eq_zero, h.hd, show nm t ≠ 0 by omega, or_self, not_false_eq_true]
  obtain ⟨x, y, z, k, hk, e, fc, e1, e2, e3⟩ := Fc.of (T3_rot h.ha g.t2) (T3_rot h.hb g.t2) (T3_rot h.hc g.t2) nz
  exact ⟨x, y, z, e, fc, k, hk, e1.symm, e2.symm, e3.symm⟩
theorem Tf.ld (h : Fc a b c) (g : Tn t) (m : Tf a b c t x y z) (f : T3 v) : ∃ k j : Int, 0 < k ∧ 0 < j ∧ scale k (Vec.ld x y z (rot v t)) = scale j (Vec.ld a b c v) := by
  obtain ⟨k, hk, e1, e2, e3⟩ := m.e
  have np := nm_pos g.t2 g.nz
  refine ⟨k, nm t * nm t, hk, Int.mul_pos np np, ?_⟩
  rw [← ld_scl k m.fc.ha m.fc.hb m.fc.hc (T3_rot f g.t2), e1, e2, e3, ld_turn h.ha h.hb h.hc f g.t2]
theorem Tf.sh (h : Fc a b c) (g : Tn t) (m : Tf a b c t x y z) (f : T3 v) (hv : ¬ Zer v) : Vec.red (Vec.ld x y z (Vec.red (rot v t))) = Vec.red (Vec.ld a b c v) ∧ (0 < dot z (Vec.red (rot v t)) ↔ 0 < dot c v) := by
  obtain ⟨k, j, hk, hj, e⟩ := m.ld h g f
  have nr := rot_nz f g.t2 hv g.nz
  have e1 := congrArg Vec.red e
  rw [red_scale hk, red_scale hj] at e1
  refine ⟨by rw [red_ld m.fc (T3_rot f g.t2) nr, e1], ?_⟩
  rw [dot_red_posR m.fc.hc (T3_rot f g.t2) nr]
  have e2 : k * dot z (rot v t) = j * dot c v := by
    have := congrArg (fun w : List Int => w.getD 2 0) e
    simpa [scale, Vec.ld] using this
  exact pos_third hk hj e2
theorem Tf.lv (h : Fc a b c) (g : Tn t) (m : Tf a b c t x y z) (f : T3 s) (hs : ¬ Zer s) : (Two (Vec.lv x y z (Vec.red (rot s t))) ↔ Two (Vec.lv a b c s)) ∧ Vec.fu (Vec.lv x y z (Vec.red (rot s t))) = Vec.fu (Vec.lv a b c s) := by
  obtain ⟨k, hk, e1, e2, e3⟩ := m.e
  have np := nm_pos g.t2 g.nz
  have nr := rot_nz f g.t2 hs g.nz
  have tr := T3_rot f g.t2
  obtain ⟨i, hi, e4⟩ := scale_red_pos nr
  have e5 : scale (k * k * i) (Vec.lv x y z (Vec.red (rot s t))) = scale (nm t * (nm t * nm t)) (Vec.lv a b c s) := by
    rw [← scale_scale, ← lv_scale i m.fc.ha m.fc.hb m.fc.hc tr.red, ← e4, ← lv_scl k m.fc.ha m.fc.hb m.fc.hc tr, e1, e2, e3, lv_turn h.ha h.hb h.hc f g.t2]
  have p1 : k * k * i ≠ 0 := by have := Int.mul_pos (Int.mul_pos hk hk) hi; omega
  have p2 : nm t * (nm t * nm t) ≠ 0 := by have := Int.mul_pos np (Int.mul_pos np np); omega
  exact two_fu_of p1 p2 T3_lv T3_lv (lv_nz m.fc tr.red (red_zer nr)) (lv_nz h f hs) e5
theorem rot_pole (g : T2 t) : rot [0, 0, 1] t = scale (nm t) [0, 0, 1] := by
  obtain ⟨p, q, rfl⟩ := g
  simp [rot, scale, nm]
theorem red_pole (g : Tn t) : Vec.red (rot [0, 0, 1] t) = [0, 0, 1] := by
  rw [rot_pole g.t2, red_scale (nm_pos g.t2 g.nz)]
  rfl
theorem sg_pos_eq {k j p q : Int} (hk : 0 < k) (hj : 0 < j) (e : k * p = j * q) : sg p = sg q := by
  rw [← sg_mul_pos hk, e, sg_mul_pos hj]
/-- the pole's point stays -/
theorem Tf.pole (h : Fc a b c) (g : Tn t) (m : Tf a b c t x y z) : sg (dot z [0, 0, 1]) = sg (dot c [0, 0, 1]) ∧ Vec.red (scale (sg (dot z [0, 0, 1])) (Vec.ld x y z [0, 0, 1])) = Vec.red (scale (sg (dot c [0, 0, 1])) (Vec.ld a b c [0, 0, 1])) := by
  obtain ⟨k, j, hk, hj, e⟩ := m.ld h g (T3_lit 0 0 1)
  have np := nm_pos g.t2 g.nz
  rw [rot_pole g.t2, ld_scale _ m.fc.ha m.fc.hb m.fc.hc (T3_lit _ _ _), scale_scale] at e
  have hk2 := Int.mul_pos hk np
  generalize k * nm t = i at *
  have e2 : i * dot z [0, 0, 1] = j * dot c [0, 0, 1] := by
    have := congrArg (fun w : List Int => w.getD 2 0) e
    simpa [scale, Vec.ld] using this
  have e3 := sg_pos_eq hk2 hj e2
  refine ⟨e3, ?_⟩
  rw [e3, ← red_scale hk2 (scale _ _), scale_scale, Int.mul_comm, ← scale_scale, e, scale_scale, Int.mul_comm, ← scale_scale, red_scale hj]
theorem Tf.lit (h : Fc a b c) (g : Tn t) (m : Tf a b c t x y z) : Vec.red z = Vec.red (rot (Vec.red c) t) := by
  obtain ⟨k, hk, e1, e2, e3⟩ := m.e
  rw [red_rot h.hc g.t2 h.cz, ← e3, red_scale hk]
theorem fc_same {k j : Int} (hk : 0 < k) (hj : 0 < j) (h : Fc x y z) (h' : Fc x' y' z') (e1 : scale k x = scale j x') (e2 : scale k y = scale j y') (e3 : scale k z = scale j z') : x = x' ∧ y = y' ∧ z = z' := by
  have sa : ∀ (i : Int) (u v : List Int), scale i (u ++ v) = scale i u ++ scale i v := fun i u v => by unfold scale; rw [List.map_append]
  have e : scale k (x ++ (y ++ z)) = scale j (x' ++ (y' ++ z')) := by rw [sa, sa, sa, sa, e1, e2, e3]
  have e' := congrArg Vec.red e
  rw [red_scale hk, red_scale hj, red_unit h.g, red_unit h'.g] at e'
  obtain ⟨a1, a2, a3, rfl⟩ := h.ha
  obtain ⟨b1, b2, b3, rfl⟩ := h.hb
  obtain ⟨c1, c2, c3, rfl⟩ := h.hc
  obtain ⟨d1, d2, d3, rfl⟩ := h'.ha
  obtain ⟨f1, f2, f3, rfl⟩ := h'.hb
  obtain ⟨g1, g2, g3, rfl⟩ := h'.hc
  simp only [List.cons_append, List.nil_append, List.cons.injEq, and_true] at e'
  obtain ⟨rfl, rfl, rfl, rfl, rfl, rfl, rfl, rfl, rfl⟩ := e'
  exact ⟨rfl, rfl, rfl⟩
theorem Tf.sum {x1 y1 z1 x2 y2 z2 x3 y3 z3 : List Int} (h : Fc a b c) (g : Tn s) (g' : Tn t) (m1 : Tf a b c s x1 y1 z1) (m2 : Tf x1 y1 z1 t x2 y2 z2) (m3 : Tf a b c (upr (tm s t)) x3 y3 z3) : x2 = x3 ∧ y2 = y3 ∧ z2 = z3 := by
  obtain ⟨k1, p1, e1, e2, e3⟩ := m1.e
  obtain ⟨k2, p2, f1, f2, f3⟩ := m2.e
  obtain ⟨k3, p3, g1, g2, g3⟩ := m3.e
  obtain ⟨j, hj, ej⟩ := upr_scale (T2_tm g.t2 g'.t2) (tm_nz g.t2 g'.t2 g.nz g'.nz)
  have tu : T2 (upr (tm s t)) := T2_upr (T2_tm g.t2 g'.t2)
  have key : ∀ u v w r : List Int, T3 u → T3 v → scale k1 v = rot u s → scale k2 w = rot v t → scale k3 r = rot u (upr (tm s t)) → scale (k1 * k2) w = scale (j * j * k3) r := fun u v w r hu hv h1 h2 h3 => by
    rw [← scale_scale, h2, ← rot_scale _ hv g'.t2, h1, rot_rot hu g.t2 g'.t2, ej, rot_scaleR j hu tu, ← h3, scale_scale]
  exact fc_same (Int.mul_pos p1 p2) (Int.mul_pos (sqp hj) p3) m2.fc m3.fc (key a x1 x2 x3 h.ha m1.fc.ha e1 f1 g1) (key b y1 y2 y3 h.hb m1.fc.hb e2 f2 g2) (key c z1 z2 z3 h.hc m1.fc.hc e3 f3 g3)
theorem Tf.back {x1 y1 z1 x2 y2 z2 : List Int} (h : Fc a b c) (g : Tn s) (m1 : Tf a b c s x1 y1 z1) (m2 : Tf x1 y1 z1 (tb s) x2 y2 z2) : x2 = a ∧ y2 = b ∧ z2 = c := by
  obtain ⟨k1, p1, e1, e2, e3⟩ := m1.e
  obtain ⟨k2, p2, f1, f2, f3⟩ := m2.e
  have np := nm_pos g.t2 g.nz
  have key : ∀ u v w : List Int, T3 u → T3 v → scale k1 v = rot u s → scale k2 w = rot v (tb s) → scale (k1 * k2) w = scale (nm s * nm s) u := fun u v w hu hv h1 h2 => by
    rw [← scale_scale, h2, ← rot_scale _ hv (T2_tb g.t2), h1, rot_tb hu g]
  exact fc_same (Int.mul_pos p1 p2) (Int.mul_pos np np) m2.fc h (key a x1 x2 h.ha m1.fc.ha e1 f1) (key b y1 y2 h.hb m1.fc.hb e2 f2) (key c z1 z2 h.hc m1.fc.hc e3 f3)
/-- the plane of an hour -/
def hp : List Int → List Int
  | [p, q] => [-q, p, 0]
  | _ => []
theorem T3_hp (h : T2 v) : T3 (hp v) := by obtain ⟨p, q, rfl⟩ := h; exact ⟨_, _, _, rfl⟩
theorem hp_scale (k : Int) (h : T2 v) : hp (scale k v) = scale k (hp v) := by obtain ⟨p, q, rfl⟩ := h; simp [hp, scale, Int.mul_neg]
theorem hp_nz (h : T2 v) (nz : ¬ Zer v) : ¬ Zer (hp v) := by
  obtain ⟨p, q, rfl⟩ := h
  simp [hp] at nz ⊢
  omega
/-- an hour turned back, its plane turned on -/
theorem rot_hp (h : T2 v) (g : T2 t) : rot (hp (hm v (ph (tb t)))) t = scale (nm t * nm t) (hp v) := by
  obtain ⟨p, q, rfl⟩ := h
  obtain ⟨x, y, rfl⟩ := g
  by_cases y0 : y = 0
  · subst y0
    simp only [tb, if_true, rot, hp, hm, ph, scale, nm, List.map_cons, List.map_nil, List.cons.injEq, and_true]
    refine ⟨?_, ?_, ?_⟩ <;> grind
  · simp only [tb, if_neg y0, rot, hp, hm, ph, scale, nm, List.map_cons, List.map_nil, List.cons.injEq, and_true]
    refine ⟨?_, ?_, ?_⟩ <;> grind
end
end Vec

set_option maxHeartbeats 2000000
/-! ### conics -/
namespace Vec
open L2 L3
/-- the products of a point's numbers -/
def mm : List Int → List Int
  | [x, y, w] => [x * x, x * y, y * y, x * w, y * w, w * w]
  | _ => []
def dl : List Int → List Int → Int
  | x :: u, y :: v => x * y + dl u v
  | _, _ => 0
/-- a line taken twice -/
def q6 : List Int → List Int
  | [a, b, c] => [a * a, a * b + b * a, b * b, a * c + c * a, b * c + c * b, c * c]
  | _ => []
/-- the conic of three rows with their weights -/
def cn (f s : Int) (r0 r1 r2 : List Int) : List Int := match r0, r1, r2 with
  | [a0, b0, c0], [a1, b1, c1], [a2, b2, c2] => [f * a0 * a0 + f * a1 * a1 + s * a2 * a2, 2 * (f * a0 * b0 + f * a1 * b1 + s * a2 * b2), f * b0 * b0 + f * b1 * b1 + s * b2 * b2, 2 * (f * a0 * c0 + f * a1 * c1 + s * a2 * c2), 2 * (f * b0 * c0 + f * b1 * c1 + s * b2 * c2), f * c0 * c0 + f * c1 * c1 + s * c2 * c2]
  | _, _, _ => []
section
variable {a b c u v p r0 r1 r2 : List Int}
theorem dl_scaleL (k : Int) : ∀ u v : List Int, dl (scale k u) v = k * dl u v
  | [], v => by simp [scale, dl]
  | x :: u, [] => by simp [scale, dl]
  | x :: u, y :: v => by
    have ih := dl_scaleL k u v
    simp only [scale, List.map_cons, dl] at ih ⊢
    rw [ih]
    grind
theorem dl_scaleR (k : Int) : ∀ u v : List Int, dl u (scale k v) = k * dl u v
  | [], v => by simp [scale, dl]
  | x :: u, [] => by simp [scale, dl]
  | x :: u, y :: v => by
    have ih := dl_scaleR k u v
    simp only [scale, List.map_cons, dl] at ih ⊢
    rw [ih]
    grind
theorem dl_zer : ∀ u v : List Int, Zer u → dl u v = 0
  | [], v, _ => by simp [dl]
  | x :: u, [], _ => by simp [dl]
  | x :: u, y :: v, h => by
    simp only [Zer_cons] at h
    simp [dl, h.1, dl_zer u v h.2]
theorem dl_fu (h : ¬ Zer u) : dl (fu u) v = 0 ↔ dl u v = 0 := by
  obtain ⟨k, hk, e⟩ := scale_red_pos h
  have e1 : dl u v = k * dl (red u) v := by conv => lhs; rw [e, dl_scaleL]
  have hk0 : k ≠ 0 := by omega
  rw [e1, Int.mul_eq_zero]
  rcases fu_or u with e2 | e2 <;> rw [e2]
  · simp [hk0]
  · rw [neg_scale, dl_scaleL]
    simp [hk0]
theorem mm_scale (k : Int) (h : T3 p) : mm (scale k p) = scale (k * k) (mm p) := by
  obtain ⟨x, y, z, rfl⟩ := h
  simp only [mm, scale, List.map_cons, List.map_nil, List.cons.injEq, and_true]
  refine ⟨?_, ?_, ?_, ?_, ?_, ?_⟩ <;> grind
theorem dl_cn (f s : Int) (h0 : T3 r0) (h1 : T3 r1) (h2 : T3 r2) (h : T3 p) : dl (cn f s r0 r1 r2) (mm p) = f * (dot r0 p * dot r0 p) + f * (dot r1 p * dot r1 p) + s * (dot r2 p * dot r2 p) := by
  obtain ⟨a1, a2, a3, rfl⟩ := h0
  obtain ⟨b1, b2, b3, rfl⟩ := h1
  obtain ⟨c1, c2, c3, rfl⟩ := h2
  obtain ⟨x, y, z, rfl⟩ := h
  simp only [cn, mm, dl, dot]
  grind
/-- the rows of the way back -/
structure Rb (a b c r0 r1 r2 : List Int) : Prop where
  t0 : T3 r0
  t1 : T3 r1
  t2 : T3 r2
  e : ∀ p, T3 p → ld r0 r1 r2 p = bk a b c p
  z : r2 = scale (sg (dt a b c)) (lv a b c [0, 0, 1])
  cols : ∃ x1 x2 x3 y1 y2 y3 z1 z2 z3 : Int, r0 = [x1, x2, x3] ∧ r1 = [y1, y2, y3] ∧ r2 = [z1, z2, z3] ∧ scale (sg (dt a b c)) (cross b c) = [x1, y1, z1] ∧ scale (sg (dt a b c)) (cross c a) = [x2, y2, z2] ∧ scale (sg (dt a b c)) (cross a b) = [x3, y3, z3]
theorem Rb.eval (h : Fc a b c) (m : Rb a b c r0 r1 r2) (f s x y z : Int) : dl (cn f s r0 r1 r2) (mm (ld a b c [x, y, z])) = (sg (dt a b c) * dt a b c) * (sg (dt a b c) * dt a b c) * (f * (x * x + y * y) + s * (z * z)) := by
  rw [dl_cn f s m.t0 m.t1 m.t2 T3_ld]
  have e := m.e (ld a b c [x, y, z]) T3_ld
  rw [bk_ld h.ha h.hb h.hc (T3_lit _ _ _)] at e
  conv at e => lhs; unfold ld
  generalize sg (dt a b c) * dt a b c = d at *
  simp only [scale, List.map_cons, List.map_nil, List.cons.injEq, and_true] at e
  obtain ⟨e1, e2, e3⟩ := e
  have e1' : dot r0 (ld a b c [x, y, z]) = d * x := e1
  have e2' : dot r1 (ld a b c [x, y, z]) = d * y := e2
  have e3' : dot r2 (ld a b c [x, y, z]) = d * z := e3
  rw [e1', e2', e3']
  grind
theorem Rb.nz (h : Fc a b c) (m : Rb a b c r0 r1 r2) {f s : Int} (hs : s ≠ 0) : ¬ Zer (cn f s r0 r1 r2) := fun q => by
  have e := m.eval h f s 0 0 1
  rw [dl_zer _ _ q] at e
  have hp := h.pos
  generalize sg (dt a b c) * dt a b c = d at *
  have e' : d * d * s = 0 := by grind
  have d2 := Int.mul_pos hp hp
  rcases Int.mul_eq_zero.mp e' with w | w
  · omega
  · exact hs w
theorem Rb.on (h : Fc a b c) (m : Rb a b c r0 r1 r2) {f s x y z : Int} (hs : s ≠ 0) (hv : ¬ Zer [x, y, z]) : dl (fu (cn f s r0 r1 r2)) (mm (red (ld a b c [x, y, z]))) = 0 ↔ f * (x * x + y * y) + s * (z * z) = 0 := by
  rw [dl_fu (m.nz h hs)]
  obtain ⟨k, hk, e⟩ := scale_red_pos (ld_nz h (T3_lit x y z) hv)
  have e1 := m.eval h f s x y z
  rw [e, mm_scale k (T3_red T3_ld), dl_scaleR] at e1
  have hp := h.pos
  generalize sg (dt a b c) * dt a b c = d at *
  have k2 : k * k ≠ 0 := by have := Int.mul_pos hk hk; omega
  have d2 : d * d ≠ 0 := by have := Int.mul_pos hp hp; omega
  constructor
  · intro q
    rw [q, Int.mul_zero] at e1
    rcases Int.mul_eq_zero.mp e1.symm with w | w
    · exact absurd w d2
    · exact w
  · intro q
    rw [q, Int.mul_zero] at e1
    rcases Int.mul_eq_zero.mp e1 with w | w
    · exact absurd w k2
    · exact w
theorem q6_scale (k : Int) (h : T3 p) : q6 (scale k p) = scale (k * k) (q6 p) := by
  obtain ⟨x, y, z, rfl⟩ := h
  simp only [q6, scale, List.map_cons, List.map_nil, List.cons.injEq, and_true]
  refine ⟨?_, ?_, ?_, ?_, ?_, ?_⟩ <;> grind
theorem q6_nz (h : T3 p) (nz : ¬ Zer p) : ¬ Zer (q6 p) := by
  obtain ⟨x, y, z, rfl⟩ := h
  intro q
  simp only [q6, Zer_cons, Int.mul_eq_zero, or_self] at q
  exact nz (by simp only [Zer_cons, Zer_nil, and_true]; exact ⟨q.1, q.2.2.1, q.2.2.2.2.2.1⟩)
theorem cn_one (h0 : T3 r0) (h1 : T3 r1) (h2 : T3 r2) : cn 0 1 r0 r1 r2 = q6 r2 := by
  obtain ⟨a1, a2, a3, rfl⟩ := h0
  obtain ⟨b1, b2, b3, rfl⟩ := h1
  obtain ⟨c1, c2, c3, rfl⟩ := h2
  simp only [cn, q6, List.cons.injEq, and_true]
  refine ⟨?_, ?_, ?_, ?_, ?_, ?_⟩ <;> grind
theorem Rb.mid (h : Fc a b c) (m : Rb a b c r0 r1 r2) : cn 0 1 r0 r1 r2 = q6 (lv a b c [0, 0, 1]) := by
  rw [cn_one m.t0 m.t1 m.t2, m.z, q6_scale _ T3_lv, sg_sq h.hd]
  unfold scale
  simp
theorem fu_q6 (h : T3 p) (nz : ¬ Zer p) : fu (q6 (fu p)) = fu (q6 p) := by
  have tf : T3 (fu p) := T3_fu h
  have nf : ¬ Zer (fu p) := fun z => by
    have := fu_g nz
    rw [gcdL_zero.mpr z] at this; cases this
  have hf : ∃ i : Int, i ≠ 0 ∧ p = scale i (fu p) := by
    obtain ⟨i, hi, e1⟩ := scale_red_pos nz
    rcases fu_or p with e2 | e2 <;> rw [e2]
    · exact ⟨i, by omega, e1⟩
    · refine ⟨-i, by omega, ?_⟩
      conv => lhs; rw [e1]
      rw [neg_scale, scale_scale]
      congr 1
      omega
  obtain ⟨i, hi, e⟩ := hf
  conv => rhs; rw [e, q6_scale i tf, fu_scale (by simp [Int.mul_eq_zero, hi]) (q6_nz tf nf)]
theorem fu_q6_two (w : Int) (hw : w ≠ 0) : fu (q6 [0, 0, w]) = [0, 0, 0, 0, 0, 1] := by
  have : q6 [0, 0, w] = scale (w * w) [0, 0, 0, 0, 0, 1] := by simp [q6, scale]
  rw [this, fu_scale (by simp [Int.mul_eq_zero, hw]) (by simp)]
  rfl
theorem cn_len (h0 : T3 r0) (h1 : T3 r1) (h2 : T3 r2) (f s : Int) : (cn f s r0 r1 r2).length = 6 := by
  obtain ⟨a1, a2, a3, rfl⟩ := h0
  obtain ⟨b1, b2, b3, rfl⟩ := h1
  obtain ⟨c1, c2, c3, rfl⟩ := h2
  rfl
theorem fu_len (u : List Int) : (fu u).length = u.length := by
  rcases fu_or u with e | e <;> rw [e]
  · exact red_len u
  · unfold neg; rw [List.length_map]; exact red_len u
/-- the own conic has the other signs -/
theorem cn_own (f s : Int) (h0 : T3 r0) (h1 : T3 r1) (h2 : T3 r2) : cn (-f) (-s) r0 r1 r2 = neg (cn f s r0 r1 r2) := by
  obtain ⟨a1, a2, a3, rfl⟩ := h0
  obtain ⟨b1, b2, b3, rfl⟩ := h1
  obtain ⟨c1, c2, c3, rfl⟩ := h2
  simp only [cn, neg, List.map_cons, List.map_nil, List.cons.injEq, and_true]
  refine ⟨?_, ?_, ?_, ?_, ?_, ?_⟩ <;> grind
theorem Bv_cn {n : Nat} {f s : Int} (h0 : T3 r0) (h1 : T3 r1) (h2 : T3 r2) (b0 : Bv (((n - 3) / 2) / 2) r0) (b1 : Bv (((n - 3) / 2) / 2) r1) (b2 : Bv (((n - 3) / 2) / 2) r2) (bf : Bd (((n - 3) / 2) / 2) f) (bs : Bd (((n - 3) / 2) / 2) s) (hn : 200 ≤ n) : Bv n (cn f s r0 r1 r2) := by
  obtain ⟨a1, a2, a3, rfl⟩ := h0
  obtain ⟨c1, c2, c3, rfl⟩ := h1
  obtain ⟨d1, d2, d3, rfl⟩ := h2
  simp only [Bv_cons] at b0 b1 b2
  have m3 : ∀ g x y : Int, Bd (((n - 3) / 2) / 2) g → Bd (((n - 3) / 2) / 2) x → Bd (((n - 3) / 2) / 2) y → Bd (n - 3) (g * x * y) := fun g x y hg hx hy => Bd_mul (Bd_mul hg hx) (hy.mono (by omega))
  have s3 : ∀ x y z : Int, Bd (n - 3) x → Bd (n - 3) y → Bd (n - 3) z → Bd (n - 1) (x + y + z) := fun x y z hx hy hz => Bd_add (Bd_add (hx.mono (by omega)) (hy.mono (by omega))) (hz.mono (by omega))
  have k1 : ∀ x y z x' y' z' : Int, Bd (((n - 3) / 2) / 2) x → Bd (((n - 3) / 2) / 2) y → Bd (((n - 3) / 2) / 2) z → Bd (((n - 3) / 2) / 2) x' → Bd (((n - 3) / 2) / 2) y' → Bd (((n - 3) / 2) / 2) z' → Bd (n - 1) (f * x * x' + f * y * y' + s * z * z') := fun x y z x' y' z' h1 h2 h3 h4 h5 h6 => s3 _ _ _ (m3 _ _ _ bf h1 h4) (m3 _ _ _ bf h2 h5) (m3 _ _ _ bs h3 h6)
  have k2 : ∀ x : Int, Bd (n - 1) x → Bd n (2 * x) := fun x hx => by have := Bd_add hx hx; rwa [← Int.two_mul] at this
  simp only [cn, Bv_cons]
  exact ⟨(k1 _ _ _ _ _ _ b0.1 b1.1 b2.1 b0.1 b1.1 b2.1).mono (by omega), k2 _ (k1 _ _ _ _ _ _ b0.1 b1.1 b2.1 b0.2.1 b1.2.1 b2.2.1), (k1 _ _ _ _ _ _ b0.2.1 b1.2.1 b2.2.1 b0.2.1 b1.2.1 b2.2.1).mono (by omega), k2 _ (k1 _ _ _ _ _ _ b0.1 b1.1 b2.1 b0.2.2.1 b1.2.2.1 b2.2.2.1), k2 _ (k1 _ _ _ _ _ _ b0.2.1 b1.2.1 b2.2.1 b0.2.2.1 b1.2.2.1 b2.2.2.1), (k1 _ _ _ _ _ _ b0.2.2.1 b1.2.2.1 b2.2.2.1 b0.2.2.1 b1.2.2.1 b2.2.2.1).mono (by omega), Bv_nil⟩
/-- the day of a ray is the day or its opposite -/
theorem day_due {d0 d1 h0 h1 k x y z : Int} (hd : 0 < d1) (hh : 0 < h1) (gd : gcdL [d0, d1] = 1) (gh : gcdL [h0, h1] = 1) (hk : 0 < k) (e0 : sq z = k * h0) (e1 : x * x + y * y + z * z = k * h1) :
    (-((d0.natAbs : Nat) : Int)) * (x * x + y * y) + (d1 - ((d0.natAbs : Nat) : Int)) * (z * z) = 0 ↔ ((h0.natAbs : Nat) : Int) = ((d0.natAbs : Nat) : Int) ∧ h1 = d1 := by
  have gd' : gcdL [((d0.natAbs : Nat) : Int), d1] = 1 := by rw [← gd]; simp [gcdL]
  have gh' : gcdL [((h0.natAbs : Nat) : Int), h1] = 1 := by rw [← gh]; simp [gcdL]
  have ez : z * z = k * ((h0.natAbs : Nat) : Int) := by
    have q : ((sq z).natAbs : Int) = ((k * h0).natAbs : Int) := by rw [e0]
    have q1 : ((sq z).natAbs : Int) = z * z := by
      unfold sq
      split
      · rw [Int.mul_neg, Int.natAbs_neg]
        exact Int.natAbs_of_nonneg (by have := sq_nn z; omega)
      · exact Int.natAbs_of_nonneg (sq_nn z)
    rw [q1, Int.natAbs_mul] at q
    rw [q]
    have : ((k.natAbs : Nat) : Int) = k := by omega
    push_cast
    rw [this]
  generalize ((h0.natAbs : Nat) : Int) = H at *
  generalize ((d0.natAbs : Nat) : Int) = E at *
  have key : -E * (x * x + y * y) + (d1 - E) * (z * z) = k * (d1 * H - E * h1) := by
    have : -E * (x * x + y * y) + (d1 - E) * (z * z) = d1 * (z * z) - E * (x * x + y * y + z * z) := by grind
    rw [this, e1, ez]
    grind
  rw [key, Int.mul_eq_zero]
  constructor
  · rintro (q | q)
    · omega
    · have s1 : scale d1 [H, h1] = scale h1 [E, d1] := by
        simp only [scale, List.map_cons, List.map_nil, List.cons.injEq, and_true]
        constructor <;> grind
      have s2 := congrArg red s1
      rw [red_scale hd, red_scale hh, red_unit gd', red_unit gh'] at s2
      cases s2
      exact ⟨rfl, rfl⟩
  · rintro ⟨rfl, rfl⟩
    right
    grind
end
end Vec

set_option maxHeartbeats 2000000
/-! ### forms of conics; touch rays -/
namespace L3
open L2 PySem PySem.Spec PyProof.Rows
section
variable {st : Store}
abbrev tupP (v : List Int) : PyData := .tuple (v.map PyData.int)
theorem pys_tpls : ∀ vs : List (List Int), pys (vs.map tpl) = some (vs.map tupP)
  | [] => rfl
  | v :: vs => by
    show (match (D.tup (v.map .int)).py, pys (vs.map tpl) with | some p, some ps => some (p :: ps) | _, _ => none) = _
    simp only [D.py, pys_ints, pys_tpls vs, Option.map, List.map_cons]
theorem canLay_tpls : ∀ vs : List (List Int), PyData.canLayAll0 (vs.map tupP) = true
  | [] => by simp only [List.map_nil, PyData.canLayAll0]
  | v :: vs => by simp only [List.map_cons, PyData.canLayAll0, PyData.canLay0, canLay_ints, canLay_tpls vs, Bool.and_self]
theorem depth_tpls : ∀ vs : List (List Int), PyData.depthAll (vs.map tupP) ≤ 1
  | [] => by simp only [List.map_nil, PyData.depthAll]; omega
  | v :: vs => by
    have := depth_tpls vs
    simp only [List.map_cons, PyData.depthAll, PyData.depth, depth_ints]
    omega
theorem eqv_tpls : ∀ us vs : List (List Int), PyData.eqvAll (us.map tupP) (vs.map tupP) = decide (us = vs)
  | [], [] => by simp [PyData.eqvAll]
  | [], j :: js => by simp [PyData.eqvAll]
  | i :: is, [] => by simp [PyData.eqvAll]
  | i :: is, j :: js => by
    simp only [List.map_cons, PyData.eqvAll, eqv_tpls is js, PyData.eqv, eqv_ints]
    by_cases h : i = j
    · by_cases h2 : is = js <;> simp [h, h2]
    · simp [h]
theorem shaped_tpls (vs : List (List Int)) : SeqAt.shaped (.tuple (vs.map tupP)) = true := by
  have := depth_tpls vs
  simp only [SeqAt.shaped, PyData.canLay0, canLay_tpls, PyData.depth, Bool.true_and, decide_eq_true_eq]; exact decide_eq_true (Nat.le_trans (Nat.succ_le_succ this) (by decide : Nat.succ 1 ≤ 64))
theorem shaped_tplsL (vs : List (List Int)) : SeqAt.shaped (.list (vs.map tupP)) = true := by
  have := depth_tpls vs
  simp only [SeqAt.shaped, PyData.canLay0, canLay_tpls, PyData.depth, Bool.true_and, decide_eq_true_eq]; exact decide_eq_true (Nat.le_trans (Nat.succ_le_succ this) (by decide : Nat.succ 1 ≤ 64))
theorem eqD_tpls (us vs : List (List Int)) : eqD st (.tup (us.map tpl)) (.tup (vs.map tpl)) = some (decide (us = vs)) := by
  simp only [eqD, strD, eqP, pyOf, D.py, pys_tpls, Option.map, shaped_tpls, and_self, if_true, PyData.eqv, eqv_tpls]
theorem eqD_tplsL (us vs : List (List Int)) : eqD st (.lst (us.map tpl)) (.lst (vs.map tpl)) = some (decide (us = vs)) := by
  simp only [eqD, strD, eqP, pyOf, D.py, pys_tpls, Option.map, shaped_tplsL, and_self, if_true, PyData.eqv, eqv_tpls]
end
end L3
namespace Vec
open L2 L3 PySem PySem.Spec PyProof.Rows
theorem first_of : ∀ (w : List Int), ¬ Zer w → ∃ r, w.filter (fun m => !decide (m = 0)) = fn w :: r
  | [], h => absurd Zer_nil h
  | x :: w, h => by
    by_cases x0 : x = 0
    · obtain ⟨r, e⟩ := first_of w (fun z => h (by simp [x0, z]))
      exact ⟨r, by simp [x0, fn, e]⟩
    · exact ⟨w.filter (fun m => !decide (m = 0)), by simp [x0, fn]⟩
def nzD : D → Bool
  | .int m => !decide (m = 0)
  | _ => true
theorem filtG : ∀ (w : List Int), List.map id ((w.map D.int).filter nzD) = (w.filter fun m => !decide (m = 0)).map D.int := fun w => by
  rw [List.map_id, List.filter_map]; rfl
/-- a conic in its form -/
structure Cf (T : List Int) : Prop where
  l : T.length = 6
  nz : ¬ Zer T
  g : gcdL T = 1
  e : fu T = T
  b : Bv 500 T
theorem Cf.of {u : List Int} (l : u.length = 6) (h : ¬ Zer u) (b : Bv 500 u) : Cf (fu u) := by
  have g := fu_g h
  refine ⟨by rw [fu_len, l], fun z => ?_, g, fu_unit g (fu_p h), Bv_fu b⟩
  rw [gcdL_zero.mpr z] at g; cases g
theorem Cf.p {T : List Int} (h : Cf T) : 0 < fn T := by rw [← h.e]; exact fu_p h.nz
theorem Cf.sh {T : List Int} (h : Cf T) (k : Nat) : Sh (k + 1) (tpl T) := Sh_tpl (by rw [h.l]; decide) (h.b.mono (by decide))
theorem sh_point {a b c v : List Int} (h : Fc a b c) (f : T3 v) (hv : ¬ Zer v) (l : 0 < Vec.dot c v) : T3 (red (Vec.ld a b c v)) ∧ gcdL (red (Vec.ld a b c v)) = 1 ∧ ∃ r, atI (red (Vec.ld a b c v)) 2 = some r ∧ 0 < r := by
  have nz := ld_nz h f hv
  obtain ⟨k, hk, e⟩ := scale_red_pos nz
  refine ⟨T3_red T3_ld, gcdL_red nz, ?_⟩
  obtain ⟨p, q, r, e1⟩ := T3_red (T3_ld (a := a) (b := b) (c := c) (v := v))
  rw [e1] at e ⊢
  have e2 : Vec.dot c v = k * r := by
    have := congrArg (fun w : List Int => w.getD 2 0) e
    simpa [scale, Vec.ld] using this
  refine ⟨r, rfl, ?_⟩
  rw [e2] at l
  exact (pos_iff hk _).mp l
/-! the touch ray -/
abbrev hw (p q : Int) : List Int := [-q, 0, p]
def tz (p q : Int) : List Int → Int
  | [x, y, z] => q * q * z * z - p * p * (x * x + y * y)
  | _ => 0
theorem tz_scale (p q k : Int) {v : List Int} (f : T3 v) : tz p q (scale k v) = k * k * tz p q v := by
  obtain ⟨x, y, z, rfl⟩ := f
  simp only [scale, List.map_cons, List.map_nil, tz]
  grind
theorem tz_rot (p q : Int) {v t : List Int} (f : T3 v) (h : T2 t) : tz p q (rot v t) = nm t * nm t * tz p q v := by
  obtain ⟨x, y, z, rfl⟩ := f
  obtain ⟨a, b, rfl⟩ := h
  simp only [rot, tz, nm]
  grind
theorem tz_hw (p q : Int) : tz p q (hw p q) = 0 := by simp only [hw, tz]; grind
theorem tz_red {p q : Int} {v : List Int} (f : T3 v) (nz : ¬ Zer v) : tz p q (red v) = 0 ↔ tz p q v = 0 := by
  obtain ⟨k, hk, e⟩ := scale_red_pos nz
  have e1 := tz_scale p q k (T3_red f)
  rw [← e] at e1
  rw [e1]
  constructor
  · intro h; rw [h, Int.mul_zero]
  · intro h
    rcases Int.mul_eq_zero.mp h with h | h
    · have := Int.mul_pos hk hk; omega
    · exact h
theorem hw_nz {p q : Int} (hp : 0 < p) : ¬ Zer (hw p q) := by simp; omega
theorem hv_hw (p q : Int) : Vec.dot (hv [p, q]) (hw p q) = 0 := by simp only [hv, hw, Vec.dot]; grind
/-- on the turned horizon just the touch ray's line is touched -/
theorem touch_line {p q : Int} {v t : List Int} (hp : 0 < p) (f : T3 v) (g : Tn t) (o : Vec.dot (rot (hv [p, q]) t) v = 0) (z : tz p q v = 0) : Zer (Vec.cross (rot (hw p q) t) v) := by
  have hm := nm_pos g.t2 g.nz
  have T2p : T2 [p, q] := T2_lit _ _
  have on := on_turned T2p f g
  rw [o] at on
  have zt := tz_rot p q f (T2_tb g.t2)
  rw [z, Int.mul_zero] at zt
  have c := cross_rot (t := t) (T3_lit (-q) 0 p) (T3_rot f (T2_tb g.t2)) g.t2
  have back : rot (rot v (tb t)) t = scale (nm t * nm t) v := by
    have := rot_tb (t := tb t) f (Tn_tb g)
    rw [tb_tb g.t2] at this
    have nb : nm (tb t) = nm t := by
      obtain ⟨a, b, rfl⟩ := g.t2
      by_cases hb : b = 0
      · simp [tb, nm, hb]
      · simp [tb, nm, hb, Int.neg_mul_neg]
    rw [nb] at this
    exact this
  rw [back, cross_scaleR _ (T3_rot (T3_lit _ _ _) g.t2) f] at c
  obtain ⟨x, y, w, e⟩ := T3_rot f (T2_tb g.t2)
  rw [e] at on zt c
  have yw : y = 0 ∧ p * x + q * w = 0 := by
    have h1 : p * x + q * w = 0 := by
      simp only [hv, Vec.dot] at on; grind
    refine ⟨?_, h1⟩
    have h2 : q * q * w * w - p * p * (x * x + y * y) = 0 := by simpa [tz] using zt
    have h3 : (p * y) * (p * y) = 0 := by grind
    have h4 : p * y = 0 := (Int.mul_eq_zero.mp h3).elim id id
    rcases Int.mul_eq_zero.mp h4 with h | h
    · omega
    · exact h
  obtain ⟨rfl, h1⟩ := yw
  have zc : Zer (Vec.cross (hw p q) [x, 0, w]) := by
    simp only [hw, Vec.cross, Zer_cons]
    refine ⟨by grind, by grind, by grind, Zer_nil⟩
  have zr : Zer (rot (Vec.cross (hw p q) [x, 0, w]) t) := by
    obtain ⟨u1, u2, u3, eu⟩ := T3_cross (T3_lit (-q) 0 p) (T3_lit x 0 w)
    obtain ⟨a, b, rfl⟩ := g.t2
    rw [eu] at zc ⊢
    simp only [Zer_cons] at zc
    obtain ⟨rfl, rfl, rfl, _⟩ := zc
    simp [rot]
  have zs : Zer (scale (nm t * nm t) (Vec.cross (rot (hw p q) t) v)) := by
    rw [c]; exact fun k hk => by
      obtain ⟨m, hm', rfl⟩ := List.mem_map.mp hk
      rw [zr m hm', Int.mul_zero]
  exact (Zer.scale (by have := Int.mul_pos hm hm; omega)).mp zs
end Vec

set_option maxHeartbeats 2000000
/-! ### walks of lists of the store; Euclid by a while -/
namespace L3
open L2 PySem PySem.Spec PyProof.Rows
section
variable {cf : Nat → List D → Store → Res D} {gl : Nat → Option D} {r : DEnv} {st : Store}
theorem natAbs_if (x : Int) : (if x < 0 then -x else x) = (x.natAbs : Int) := by split <;> omega
theorem denS_whl (c : Ex) (body : List Sm) : denS cf gl (.whl c body) r st = whlL (denT cf gl c) (fun r s => denB cf gl body r s) whlMax r st := by simp only [denS]
theorem seq_invS {ex : Ex} {v : Nat} {xs : List D} {d : D} {body : List Sm} {s0 : Store} (P : Nat → DEnv → Prop) (he : den cf gl ex r s0 = .ok d s0) (hd : isSeq s0 d = some xs) (h0 : P 0 r)
    (hs : ∀ i x r, xs[i]? = some x → P i r → ∃ r1, denB cf gl body (r.set v (some x)) s0 = .go .nx r1 s0 ∧ P (i + 1) r1) : ∃ r1, denS cf gl (.loop .seq [ex] (.nm v) body) r s0 = .go .nx r1 s0 ∧ P xs.length r1 := by
  rw [loop_seq he hd]
  obtain ⟨r1, s1, e, h1, h2⟩ := forL_inv (ns := walked .seq [d]) (step := fun x r s => denB cf gl body (r.set v (some x)) s) (r0 := r) (s0 := s0) (xs := xs) (fun i r s => P i r ∧ s = s0) ⟨h0, rfl⟩ (fun i x r s hx hp => by
    obtain ⟨hp, rfl⟩ := hp
    obtain ⟨r1, e, p⟩ := hs i x r hx hp
    exact ⟨r1, s, e, stillB_same _ _, p, rfl⟩)
  subst h2
  exact ⟨r1, e, h1⟩
abbrev euC : Ex := .op .gt [.var 4, .con (.int (0))]
abbrev euW : List Sm := [.par [3, 4] [.var 4, .op .md [.op .int [.var 3], .var 4]]]
theorem euclidW {a0 a1 a2 : Option D} : ∀ (j fuel one two : Nat), two < 2 ^ j → 2 * j + 1 ≤ fuel →
    whlL (denT cf gl euC) (fun r s => denB cf gl euW r s) fuel [a0, a1, a2, some (.int (one : Int)), some (.int (two : Int))] st = .go .nx [a0, a1, a2, some (.int (Nat.gcd one two : Nat)), some (.int 0)] st := by
  have stop : ∀ (fuel one : Nat), whlL (denT cf gl euC) (fun r s => denB cf gl euW r s) (fuel + 1) [a0, a1, a2, some (.int (one : Int)), some (.int ((0 : Nat) : Int))] st = .go .nx [a0, a1, a2, some (.int (Nat.gcd one 0 : Nat)), some (.int 0)] st := by
    intro fuel one
    simp only [whlL]
    have e : denT cf gl euC [a0, a1, a2, some (.int (one : Int)), some (.int ((0 : Nat) : Int))] st = .ok false st := by simp [denT]
    rw [e]; simp
  have turn : ∀ (fuel one two : Nat), 0 < two → whlL (denT cf gl euC) (fun r s => denB cf gl euW r s) (fuel + 1) [a0, a1, a2, some (.int (one : Int)), some (.int (two : Int))] st = whlL (denT cf gl euC) (fun r s => denB cf gl euW r s) fuel [a0, a1, a2, some (.int (two : Int)), some (.int ((one % two : Nat) : Int))] st := by
    intro fuel one two h
    have h2 : (0 : Int) < (two : Int) := by omega
    have e : denT cf gl euC [a0, a1, a2, some (.int (one : Int)), some (.int (two : Int))] st = .ok true st := by simp [denT, h]
    have e2 : denB cf gl euW [a0, a1, a2, some (.int (one : Int)), some (.int (two : Int))] st = .go .nx [a0, a1, a2, some (.int (two : Int)), some (.int ((one % two : Nat) : Int))] st := by simp [o_md h2]
    conv => lhs; simp only [whlL]
    rw [e]
    simp only [e2]
  intro j
  induction j with
  | zero =>
    intro fuel one two h hl
    have : two = 0 := by omega
    subst this
    obtain ⟨f, rfl⟩ : ∃ f, fuel = f + 1 := ⟨fuel - 1, by omega⟩
    exact stop f one
  | succ j ih =>
    intro fuel one two h hl
    obtain ⟨f, rfl⟩ : ∃ f, fuel = f + 2 := ⟨fuel - 2, by omega⟩
    rcases Nat.eq_zero_or_pos two with h0 | h0
    · subst h0
      exact stop (f + 1) one
    rw [turn (f + 1) one two h0]
    have e1 : Nat.gcd one two = Nat.gcd two (one % two) := by rw [Nat.gcd_comm, Nat.gcd_rec, Nat.gcd_comm]
    rw [e1]
    rcases Nat.eq_zero_or_pos (one % two) with h3 | h3
    · rw [h3]
      exact stop f two
    · rw [turn f two (one % two) h3]
      have e2 : Nat.gcd two (one % two) = Nat.gcd (one % two) (two % (one % two)) := by rw [Nat.gcd_comm, Nat.gcd_rec, Nat.gcd_comm]
      rw [e2]
      have l1 : one % two < two := Nat.mod_lt _ h0
      have l2 : two % (one % two) < one % two := Nat.mod_lt _ h3
      have l3 : one % two + two % (one % two) ≤ two := by
        have q : 0 < two / (one % two) := Nat.div_pos (Nat.le_of_lt l1) h3
        have := Nat.div_add_mod two (one % two)
        have := Nat.le_mul_of_pos_right (one % two) q
        omega
      refine ih f (one % two) (two % (one % two)) ?_ (by omega)
      rw [Nat.pow_succ] at h
      omega
end
end L3

namespace Vec
open L2 L3
/-- a row with a whole length -/
theorem long_gcd {x y z w : Int} (g : gcdL [x, y, z, w] = 1) (e : x * x + y * y + z * z = w * w) : gcdL [x, y, z] = 1 := by
  have dx : ∀ i ∈ [x, y, z], gcdL [x, y, z] ∣ i.natAbs := fun i hi => gcdL_dvd hi
  have d1 := dx x (by simp)
  have d2 := dx y (by simp)
  have d3 := dx z (by simp)
  generalize hG : gcdL [x, y, z] = G at *
  have e2 : x.natAbs * x.natAbs + y.natAbs * y.natAbs + z.natAbs * z.natAbs = w.natAbs * w.natAbs := by
    have : ((x.natAbs * x.natAbs + y.natAbs * y.natAbs + z.natAbs * z.natAbs : Nat) : Int) = ((w.natAbs * w.natAbs : Nat) : Int) := by
      rw [Int.natCast_add, Int.natCast_add, Int.natAbs_mul_self, Int.natAbs_mul_self, Int.natAbs_mul_self, Int.natAbs_mul_self]
      exact e
    exact Int.ofNat.inj this
  have d4 : G * G ∣ w.natAbs * w.natAbs := by
    rw [← e2]
    exact Nat.dvd_add (Nat.dvd_add (Nat.mul_dvd_mul d1 d1) (Nat.mul_dvd_mul d2 d2)) (Nat.mul_dvd_mul d3 d3)
  have d5 := sq_dvd d4
  have : G ∣ gcdL [x, y, z, w] := by
    simp only [gcdL]
    exact Nat.dvd_gcd d1 (Nat.dvd_gcd d2 (Nat.dvd_gcd d3 (Nat.dvd_gcd d5 (Nat.dvd_zero _))))
  rw [g] at this
  exact Nat.dvd_one.mp this
theorem quad (a b c d : Int) : (2 * (b * c + a * d)) * (2 * (b * c + a * d)) + (2 * (b * d - a * c)) * (2 * (b * d - a * c)) + (a * a + b * b - c * c - d * d) * (a * a + b * b - c * c - d * d) = (a * a + b * b + c * c + d * d) * (a * a + b * b + c * c + d * d) := by grind
end Vec

set_option maxHeartbeats 2000000
/-! ### circles of the sky -/
namespace Vec
open L2 L3
def lz : List Int → List Int → Int
  | [a, b, c, d], [x, y, z, w] => a * x + b * y + c * z - d * w
  | _, _ => 0
def T4 (v : List Int) : Prop := ∃ a b c d, v = [a, b, c, d]
theorem T4.len {v : List Int} (h : T4 v) : v.length = 4 := by obtain ⟨a, b, c, d, rfl⟩ := h; rfl
theorem T4.of {v : List Int} (h : v.length = 4) : T4 v := by
  match v, h with
  | [a, b, c, d], _ => exact ⟨a, b, c, d, rfl⟩
@[simp] theorem T4_lit (a b c d : Int) : T4 [a, b, c, d] := ⟨a, b, c, d, rfl⟩
theorem T4_fu {v : List Int} (h : T4 v) : T4 (fu v) := T4.of (by rw [fu_len, h.len])
theorem T4_scale {k : Int} {v : List Int} (h : T4 v) : T4 (scale k v) := T4.of (by unfold scale; rw [List.length_map, h.len])
theorem lz_comm {u v : List Int} (f : T4 u) (g : T4 v) : lz u v = lz v u := by
  obtain ⟨a, b, c, d, rfl⟩ := f
  obtain ⟨x, y, z, w, rfl⟩ := g
  simp only [lz]; grind
theorem lz_scale (k m : Int) {u v : List Int} (f : T4 u) (g : T4 v) : lz (scale k u) (scale m v) = k * m * lz u v := by
  obtain ⟨a, b, c, d, rfl⟩ := f
  obtain ⟨x, y, z, w, rfl⟩ := g
  simp only [scale, List.map_cons, List.map_nil, lz]; grind
theorem lz_nz {u : List Int} (f : T4 u) (h : 0 < lz u u) : ¬ Zer u := fun z => by
  obtain ⟨a, b, c, d, rfl⟩ := f
  simp only [Zer_cons] at z
  obtain ⟨rfl, rfl, rfl, rfl, _⟩ := z
  simp [lz] at h
theorem scale_fu {v : List Int} (h : ¬ Zer v) : ∃ k : Int, k ≠ 0 ∧ v = scale k (fu v) := by
  obtain ⟨k, hk, e⟩ := scale_red_pos h
  rcases fu_or v with q | q
  · exact ⟨k, by omega, by rw [q]; exact e⟩
  · refine ⟨-k, by omega, ?_⟩
    rw [q, scale_neg, neg_neg]; exact e
structure Ci (N : List Int) : Prop where
  t : T4 N
  p : 0 < lz N N
  g : gcdL N = 1
  f : 0 < fn N
theorem Ci.nz {N : List Int} (h : Ci N) : ¬ Zer N := lz_nz h.t h.p
theorem Ci.fu {N : List Int} (h : Ci N) : Vec.fu N = N := fu_unit h.g h.f
theorem Ci.fus {N : List Int} (h : Ci N) {k : Int} (hk : k ≠ 0) : Vec.fu (scale k N) = N := by rw [fu_scale hk h.nz, h.fu]
theorem sq_pos0 {k : Int} (h : k ≠ 0) : 0 < k * k := sq_pos' h
theorem lz_fu {u : List Int} (f : T4 u) (h : ¬ Zer u) : ∃ k : Int, k ≠ 0 ∧ u = scale k (Vec.fu u) ∧ lz u u = k * k * lz (Vec.fu u) (Vec.fu u) := by
  obtain ⟨k, hk, e⟩ := scale_fu h
  refine ⟨k, hk, e, ?_⟩
  have := lz_scale k k (T4_fu f) (T4_fu f)
  rwa [← e] at this
theorem Ci.of {u : List Int} (f : T4 u) (h : 0 < lz u u) : Ci (Vec.fu u) := by
  have nz := lz_nz f h
  obtain ⟨k, hk, _, e⟩ := lz_fu f nz
  rw [e] at h
  exact ⟨T4_fu f, (pos_iff (sq_pos0 hk) _).mp h, fu_g nz, fu_p nz⟩
/-- the touching ray's row -/
def tx : List Int → List Int → List Int
  | [a, b, c, d], [x, y, z, e] =>
    let f := a * x + b * y + c * z
    let g := a * a + b * b + c * c
    let h := x * x + y * y + z * z
    [(d * h - e * f) * a + (e * g - d * f) * x, (d * h - e * f) * b + (e * g - d * f) * y, (d * h - e * f) * c + (e * g - d * f) * z]
  | _, _ => []
theorem T3_tx {u v : List Int} (f : T4 u) (g : T4 v) : T3 (tx u v) := by
  obtain ⟨a, b, c, d, rfl⟩ := f
  obtain ⟨x, y, z, w, rfl⟩ := g
  exact ⟨_, _, _, rfl⟩
theorem tx_comm {u v : List Int} (f : T4 u) (g : T4 v) : tx u v = tx v u := by
  obtain ⟨a, b, c, d, rfl⟩ := f
  obtain ⟨x, y, z, w, rfl⟩ := g
  simp only [tx, List.cons.injEq, and_true]
  refine ⟨by grind, by grind, by grind⟩
theorem tx_scale (k m : Int) {u v : List Int} (f : T4 u) (g : T4 v) : tx (scale k u) (scale m v) = scale (k * k * (m * m)) (tx u v) := by
  obtain ⟨a, b, c, d, rfl⟩ := f
  obtain ⟨x, y, z, w, rfl⟩ := g
  simp only [scale, List.map_cons, List.map_nil, tx, List.cons.injEq, and_true]
  refine ⟨by grind, by grind, by grind⟩
/-- the circle about an axis through a ray, not yet reduced -/
def ct : List Int → List Int → Int → List Int
  | [a, b, c], [p, q, r], w => [a * w, b * w, c * w, a * p + b * q + c * r]
  | _, _, _ => []
theorem T4_ct {u v : List Int} {w : Int} (f : T3 u) (g : T3 v) : T4 (ct u v w) := by
  obtain ⟨a, b, c, rfl⟩ := f
  obtain ⟨p, q, r, rfl⟩ := g
  exact ⟨_, _, _, _, rfl⟩
theorem sum3_sq {x y z : Int} (h : x * x + y * y + z * z ≤ 0) : x = 0 ∧ y = 0 ∧ z = 0 := by
  have s : ∀ i : Int, 0 ≤ i * i := fun i => by
    rcases Int.le_total 0 i with q | q
    · exact Int.mul_nonneg q q
    · exact Int.mul_nonneg_of_nonpos_of_nonpos q q
  have h1 := s x
  have h2 := s y
  have h3 := s z
  refine ⟨(Int.mul_eq_zero.mp (by omega : x * x = 0)).elim id id, (Int.mul_eq_zero.mp (by omega : y * y = 0)).elim id id, (Int.mul_eq_zero.mp (by omega : z * z = 0)).elim id id⟩
theorem lz_ct {u v : List Int} {w : Int} (f : T3 u) (g : T3 v) (e : dot v v = w * w) : lz (ct u v w) (ct u v w) = dot (cross u v) (cross u v) := by
  obtain ⟨a, b, c, rfl⟩ := f
  obtain ⟨p, q, r, rfl⟩ := g
  simp only [dot, cross, ct, lz] at *
  grind
theorem ct_pos {u v : List Int} {w : Int} (f : T3 u) (g : T3 v) (e : dot v v = w * w) (nz : ¬ Zer (cross u v)) : 0 < lz (ct u v w) (ct u v w) := by
  rw [lz_ct f g e]; exact dot_pos (f.cross g) nz
/-- what a ray's circles have in common: they are at right angles to its row -/
theorem ct_on {u v : List Int} {w : Int} (f : T3 u) (g : T3 v) (e : dot v v = w * w) : ∀ p q r, v = [p, q, r] → lz (ct u v w) [p, q, r, w] = 0 := by
  rintro p q r rfl
  obtain ⟨a, b, c, rfl⟩ := f
  simp only [dot, ct, lz] at *
  grind
theorem fu_on {u P : List Int} (f : T4 u) (g : T4 P) (nz : ¬ Zer u) : lz (Vec.fu u) P = 0 ↔ lz u P = 0 := by
  obtain ⟨k, hk, e⟩ := scale_fu nz
  have h := lz_scale k 1 (T4_fu f) g
  rw [← e] at h
  have e1 : scale 1 P = P := by
    obtain ⟨a, b, c, d, rfl⟩ := g; simp [scale]
  rw [e1, Int.mul_one] at h
  rw [h]
  constructor
  · intro q; rw [q, Int.mul_zero]
  · intro q; exact (Int.mul_eq_zero.mp q).resolve_left hk
theorem unscale {k m : Int} {u v : List Int} (hk : k ≠ 0) (f : T4 u) (g : T4 v) (h : Ci u) (h' : Ci v) (e : scale k u = scale m v) : u = v := by
  have hm : m ≠ 0 := fun z => by
    subst z
    have e0 : Zer (scale k u) := by rw [e]; intro i hi; obtain ⟨j, _, rfl⟩ := List.mem_map.mp hi; simp
    exact h.nz ((Zer.scale hk).mp e0)
  rw [← h.fus hk, e, h'.fus hm]
theorem prod_cancel {k : Int} (hk : k ≠ 0) {x y : Int} (e : k * x = k * y) : x = y := Int.eq_of_mul_eq_mul_left hk e
/-- two circles that touch at a ray -/
theorem touch {a b c p q r w t : Int} (gv : gcdL [p, q, r] = 1) (e : p * p + q * q + r * r = w * w) (wp : 0 < w) (tz : t ≠ 0) (nz : ¬ Zer (cross [a, b, c] [p, q, r])) :
    ¬ Zer (cross [t * a + w * p, t * b + w * q, t * c + w * r] [p, q, r]) ∧ Vec.fu (ct [a, b, c] [p, q, r] w) ≠ Vec.fu (ct [t * a + w * p, t * b + w * q, t * c + w * r] [p, q, r] w) ∧ lz (Vec.fu (ct [a, b, c] [p, q, r] w)) (Vec.fu (ct [t * a + w * p, t * b + w * q, t * c + w * r] [p, q, r] w)) * lz (Vec.fu (ct [a, b, c] [p, q, r] w)) (Vec.fu (ct [t * a + w * p, t * b + w * q, t * c + w * r] [p, q, r] w)) = lz (Vec.fu (ct [a, b, c] [p, q, r] w)) (Vec.fu (ct [a, b, c] [p, q, r] w)) * lz (Vec.fu (ct [t * a + w * p, t * b + w * q, t * c + w * r] [p, q, r] w)) (Vec.fu (ct [t * a + w * p, t * b + w * q, t * c + w * r] [p, q, r] w)) ∧ Vec.red (tx (Vec.fu (ct [a, b, c] [p, q, r] w)) (Vec.fu (ct [t * a + w * p, t * b + w * q, t * c + w * r] [p, q, r] w))) = [p, q, r] := by
  have e' : dot [p, q, r] [p, q, r] = w * w := e
  have cr : cross [t * a + w * p, t * b + w * q, t * c + w * r] [p, q, r] = scale t (cross [a, b, c] [p, q, r]) := by
    simp only [cross, scale, List.map_cons, List.map_nil, List.cons.injEq, and_true]
    refine ⟨by grind, by grind, by grind⟩
  have nz2 : ¬ Zer (cross [t * a + w * p, t * b + w * q, t * c + w * r] [p, q, r]) := by rw [cr, Zer.scale tz]; exact nz
  have f1 := T3_lit a b c
  have f2 := T3_lit p q r
  have f3 := T3_lit (t * a + w * p) (t * b + w * q) (t * c + w * r)
  have p1 := ct_pos f1 f2 e' nz
  have p2 := ct_pos f3 f2 e' nz2
  have c1 := Ci.of (T4_ct f1 f2) p1
  have c2 := Ci.of (T4_ct f3 f2) p2
  obtain ⟨k, hk, ek⟩ := scale_fu (lz_nz (T4_ct f1 f2) p1)
  obtain ⟨m, hm, em⟩ := scale_fu (lz_nz (T4_ct f3 f2) p2)
  have x11 := lz_scale k k c1.t c1.t
  have x12 := lz_scale k m c1.t c2.t
  have x22 := lz_scale m m c2.t c2.t
  have xt := tx_scale k m c1.t c2.t
  rw [← ek] at x11 x12 xt
  rw [← em] at x12 x22 xt
  have l12 : lz (ct [a, b, c] [p, q, r] w) (ct [t * a + w * p, t * b + w * q, t * c + w * r] [p, q, r] w) = t * lz (ct [a, b, c] [p, q, r] w) (ct [a, b, c] [p, q, r] w) := by
    simp only [ct, lz]; grind
  have l22 : lz (ct [t * a + w * p, t * b + w * q, t * c + w * r] [p, q, r] w) (ct [t * a + w * p, t * b + w * q, t * c + w * r] [p, q, r] w) = t * t * lz (ct [a, b, c] [p, q, r] w) (ct [a, b, c] [p, q, r] w) := by
    simp only [ct, lz]; grind
  have xv : tx (ct [a, b, c] [p, q, r] w) (ct [t * a + w * p, t * b + w * q, t * c + w * r] [p, q, r] w) = scale (w * w * w * (w * w) * (w * w * (a * a + b * b + c * c) - (a * p + b * q + c * r) * (a * p + b * q + c * r))) [p, q, r] := by
    have hf : a * w * ((t * a + w * p) * w) + b * w * ((t * b + w * q) * w) + c * w * ((t * c + w * r) * w) = w * w * (t * (a * a + b * b + c * c) + w * (a * p + b * q + c * r)) := by grind
    have hg : a * w * (a * w) + b * w * (b * w) + c * w * (c * w) = w * w * (a * a + b * b + c * c) := by grind
    have hh : (t * a + w * p) * w * ((t * a + w * p) * w) + (t * b + w * q) * w * ((t * b + w * q) * w) + (t * c + w * r) * w * ((t * c + w * r) * w) = w * w * (t * t * (a * a + b * b + c * c) + 2 * t * w * (a * p + b * q + c * r) + w * w * (w * w)) := by rw [← e]; grind
    have he : (t * a + w * p) * p + (t * b + w * q) * q + (t * c + w * r) * r = t * (a * p + b * q + c * r) + w * (w * w) := by rw [← e]; grind
    simp only [ct, tx, scale, List.map_cons, List.map_nil]
    rw [hf, hg, hh, he]
    generalize a * a + b * b + c * c = A
    generalize a * p + b * q + c * r = L
    simp only [List.cons.injEq, and_true]
    refine ⟨by grind, by grind, by grind⟩
  refine ⟨nz2, ?_, ?_, ?_⟩
  · intro same
    rw [← same] at x12 em
    rw [l12, x11] at x12
    have hn := c1.p
    generalize Vec.fu (ct [a, b, c] [p, q, r] w) = N at *
    have mk : m = t * k := by
      have : (k * lz N N) * (t * k) = (k * lz N N) * m := by grind
      exact (prod_cancel (by
        intro z
        rcases Int.mul_eq_zero.mp z with z | z
        · exact hk z
        · omega) this).symm
    have e4 : ct [t * a + w * p, t * b + w * q, t * c + w * r] [p, q, r] w = scale t (ct [a, b, c] [p, q, r] w) := by
      rw [em, ek, mk, scale_scale]
    simp only [ct, scale, List.map_cons, List.map_nil, List.cons.injEq, and_true] at e4
    have e5 := e4.2.2.2
    have e6 : w * (w * w) = 0 := by rw [← e]; grind
    have := Int.mul_pos wp (Int.mul_pos wp wp)
    omega
  · rw [l12, x11] at x12
    rw [l22, x11] at x22
    generalize lz (Vec.fu (ct [a, b, c] [p, q, r] w)) (Vec.fu (ct [a, b, c] [p, q, r] w)) = A at *
    generalize lz (Vec.fu (ct [a, b, c] [p, q, r] w)) (Vec.fu (ct [t * a + w * p, t * b + w * q, t * c + w * r] [p, q, r] w)) = B at *
    generalize lz (Vec.fu (ct [t * a + w * p, t * b + w * q, t * c + w * r] [p, q, r] w)) (Vec.fu (ct [t * a + w * p, t * b + w * q, t * c + w * r] [p, q, r] w)) = C at *
    have hkm : k * m * (k * m) ≠ 0 := by
      have := sq_pos0 (k := k * m) (fun z => (Int.mul_eq_zero.mp z).elim hk hm)
      omega
    refine prod_cancel hkm ?_
    have q1 : k * m * (k * m) * (B * B) = (k * m * B) * (k * m * B) := by grind
    have q2 : k * m * (k * m) * (A * C) = (k * k * A) * (m * m * C) := by grind
    rw [q1, q2, ← x12, ← x22]
    grind
  · have kp : 0 < k * k * (m * m) := Int.mul_pos (sq_pos0 hk) (sq_pos0 hm)
    have hK : 0 < w * w * (a * a + b * b + c * c) - (a * p + b * q + c * r) * (a * p + b * q + c * r) := by
      have : w * w * (a * a + b * b + c * c) - (a * p + b * q + c * r) * (a * p + b * q + c * r) = lz (ct [a, b, c] [p, q, r] w) (ct [a, b, c] [p, q, r] w) := by
        simp only [ct, lz]; grind
      rw [this]; exact p1
    rw [← Vec.red_scale kp, ← xt, xv, Vec.red_scale (Int.mul_pos (Int.mul_pos (Int.mul_pos (Int.mul_pos wp wp) wp) (Int.mul_pos wp wp)) hK), red_unit gv]
theorem sq_eq_pos {x y : Int} (hx : 0 < x) (hy : 0 < y) (e : x * x = y * y) : x = y := by
  have : (x - y) * (x + y) = 0 := by
    have : (x - y) * (x + y) = x * x - y * y := by grind
    omega
  rcases Int.mul_eq_zero.mp this with q | q <;> omega
/-- two unlike circles through two unlike whole-long rays cross -/
theorem crossed {N M : List Int} {p q r w p' q' r' w' : Int} (h : Ci N) (h' : Ci M) (ne : N ≠ M) (e : p * p + q * q + r * r = w * w) (wp : 0 < w) (e' : p' * p' + q' * q' + r' * r' = w' * w') (wp' : 0 < w') (g : gcdL [p, q, r] = 1) (g' : gcdL [p', q', r'] = 1) (np : [p, q, r] ≠ [p', q', r']) (o1 : lz N [p, q, r, w] = 0) (o2 : lz N [p', q', r', w'] = 0) (o3 : lz M [p, q, r, w] = 0) (o4 : lz M [p', q', r', w'] = 0) : lz N M * lz N M < lz N N * lz M M := by
  refine Decidable.byContradiction fun hn => ?_
  have hA := h.p
  obtain ⟨a, b, c, d, rfl⟩ := h.t
  obtain ⟨x, y, z, f, rfl⟩ := h'.t
  -- the part of M at right angles to N
  obtain ⟨A, hA'⟩ : ∃ A, A = lz [a, b, c, d] [a, b, c, d] := ⟨_, rfl⟩
  obtain ⟨B, hB'⟩ : ∃ B, B = lz [a, b, c, d] [x, y, z, f] := ⟨_, rfl⟩
  obtain ⟨C, hC'⟩ : ∃ C, C = lz [x, y, z, f] [x, y, z, f] := ⟨_, rfl⟩
  rw [← hA', ← hB', ← hC'] at hn
  rw [← hA'] at hA
  obtain ⟨v1, h1⟩ : ∃ v, v = A * x - B * a := ⟨_, rfl⟩
  obtain ⟨v2, h2⟩ : ∃ v, v = A * y - B * b := ⟨_, rfl⟩
  obtain ⟨v3, h3⟩ : ∃ v, v = A * z - B * c := ⟨_, rfl⟩
  obtain ⟨v4, h4⟩ : ∃ v, v = A * f - B * d := ⟨_, rfl⟩
  have vv : v1 * v1 + v2 * v2 + v3 * v3 - v4 * v4 = A * (A * C - B * B) := by
    have q1 : v1 * v1 + v2 * v2 + v3 * v3 - v4 * v4 = A * A * C - 2 * A * B * B + B * B * A := by
      rw [h1, h2, h3, h4]
      have e1 : A = a * a + b * b + c * c - d * d := hA'
      have e2 : B = a * x + b * y + c * z - d * f := hB'
      have e3 : C = x * x + y * y + z * z - f * f := hC'
      have r1 : (A * x - B * a) * (A * x - B * a) + (A * y - B * b) * (A * y - B * b) + (A * z - B * c) * (A * z - B * c) - (A * f - B * d) * (A * f - B * d) = A * A * (x * x + y * y + z * z - f * f) - 2 * A * B * (a * x + b * y + c * z - d * f) + B * B * (a * a + b * b + c * c - d * d) := by grind
      rw [r1, ← e1, ← e2, ← e3]
    rw [q1]; grind
  have vp : v1 * p + v2 * q + v3 * r = v4 * w := by
    simp only [lz] at o1 o3
    rw [h1, h2, h3, h4]
    have : (A * x - B * a) * p + (A * y - B * b) * q + (A * z - B * c) * r - (A * f - B * d) * w = A * (x * p + y * q + z * r - f * w) - B * (a * p + b * q + c * r - d * w) := by grind
    rw [o1, o3] at this
    omega
  have vq : v1 * p' + v2 * q' + v3 * r' = v4 * w' := by
    simp only [lz] at o2 o4
    rw [h1, h2, h3, h4]
    have : (A * x - B * a) * p' + (A * y - B * b) * q' + (A * z - B * c) * r' - (A * f - B * d) * w' = A * (x * p' + y * q' + z * r' - f * w') - B * (a * p' + b * q' + c * r' - d * w') := by grind
    rw [o2, o4] at this
    omega
  have le : v1 * v1 + v2 * v2 + v3 * v3 - v4 * v4 ≤ 0 := by
    rw [vv]
    have : A * C - B * B ≤ 0 := by omega
    exact Int.mul_nonpos_of_nonneg_of_nonpos (by omega) this
  have along : ∀ p q r w : Int, p * p + q * q + r * r = w * w → 0 < w → v1 * p + v2 * q + v3 * r = v4 * w → Zer (cross [v1, v2, v3] [p, q, r]) := by
    intro p q r w e wp vp
    have lag : (v2 * r - v3 * q) * (v2 * r - v3 * q) + (v3 * p - v1 * r) * (v3 * p - v1 * r) + (v1 * q - v2 * p) * (v1 * q - v2 * p) = (w * w) * (v1 * v1 + v2 * v2 + v3 * v3 - v4 * v4) := by
      have : (v2 * r - v3 * q) * (v2 * r - v3 * q) + (v3 * p - v1 * r) * (v3 * p - v1 * r) + (v1 * q - v2 * p) * (v1 * q - v2 * p) = (v1 * v1 + v2 * v2 + v3 * v3) * (p * p + q * q + r * r) - (v1 * p + v2 * q + v3 * r) * (v1 * p + v2 * q + v3 * r) := by grind
      rw [this, e, vp]; grind
    have := sum3_sq (by rw [lag]; exact Int.mul_nonpos_of_nonneg_of_nonpos (by have := Int.mul_pos wp wp; omega) le)
    simp only [cross, Zer_cons]
    exact ⟨this.1, this.2.1, this.2.2, Zer_nil⟩
  have z1 := along p q r w e wp vp
  have z2 := along p' q' r' w' e' wp' vq
  have pn : ¬ Zer [p, q, r] := fun z => by rw [gcdL_zero.mpr z] at g; cases g
  have pn' : ¬ Zer [p', q', r'] := fun z => by rw [gcdL_zero.mpr z] at g'; cases g'
  by_cases hv : Zer [v1, v2, v3]
  · -- M along N
    simp only [Zer_cons] at hv
    obtain ⟨k1, k2, k3, _⟩ := hv
    have k4 : v4 = 0 := by
      rw [k1, k2, k3] at vp
      have : v4 * w = 0 := by rw [← vp]; grind
      exact (Int.mul_eq_zero.mp this).resolve_right (by omega)
    have es : scale A [x, y, z, f] = scale B [a, b, c, d] := by
      simp only [scale, List.map_cons, List.map_nil, List.cons.injEq, and_true]
      refine ⟨by omega, by omega, by omega, by omega⟩
    exact ne (unscale (by omega) h'.t h.t h' h es).symm
  · have f1 := T3_lit v1 v2 v3
    have f2 := T3_lit p q r
    have f3 := T3_lit p' q' r'
    have e1 := para_or f1 f2 hv pn z1
    have e2 := para_or f1 f3 hv pn' z2
    rw [red_unit g] at e1
    rw [red_unit g'] at e2
    have op : neg [p, q, r] = [p', q', r'] := by
      rcases e1 with e1 | e1 <;> rcases e2 with e2 | e2
      · exact absurd (e1.symm.trans e2) np
      · rw [← e1, e2, neg_neg]
      · rw [← e1, e2]
      · exact absurd (by rw [← neg_neg [p, q, r], ← e1, e2, neg_neg]) np
    simp only [neg, List.map_cons, List.map_nil, List.cons.injEq, and_true] at op
    obtain ⟨i1, i2, i3⟩ := op
    have s1 : w' * w' = w * w := by rw [← e, ← e', ← i1, ← i2, ← i3]; grind
    have s2 : w' = w := sq_eq_pos wp' wp s1
    have s3 : v1 * p + v2 * q + v3 * r = 0 := by
      rw [← i1, ← i2, ← i3, s2] at vq
      have : v1 * -p + v2 * -q + v3 * -r = -(v1 * p + v2 * q + v3 * r) := by grind
      rw [this, ← vp] at vq
      omega
    exact dot_para f1 f2 hv pn z1 s3
/-- two circles about one axis -/
theorem apart {a b c d : Int} (h : 0 < a * a + b * b + c * c) (d0 : -4 ≤ d) (d1 : d ≤ 4) :
    0 < lz [9 * a, 9 * b, 9 * c, d] [9 * a, 9 * b, 9 * c, d] ∧ 0 < lz [9 * a, 9 * b, 9 * c, d + 1] [9 * a, 9 * b, 9 * c, d + 1] ∧ lz (Vec.fu [9 * a, 9 * b, 9 * c, d]) (Vec.fu [9 * a, 9 * b, 9 * c, d]) * lz (Vec.fu [9 * a, 9 * b, 9 * c, d + 1]) (Vec.fu [9 * a, 9 * b, 9 * c, d + 1]) < lz (Vec.fu [9 * a, 9 * b, 9 * c, d]) (Vec.fu [9 * a, 9 * b, 9 * c, d + 1]) * lz (Vec.fu [9 * a, 9 * b, 9 * c, d]) (Vec.fu [9 * a, 9 * b, 9 * c, d + 1]) := by
  have sm : ∀ i : Int, -5 ≤ i → i ≤ 5 → i * i ≤ 25 := fun i h1 h2 => by
    have : i = -5 ∨ i = -4 ∨ i = -3 ∨ i = -2 ∨ i = -1 ∨ i = 0 ∨ i = 1 ∨ i = 2 ∨ i = 3 ∨ i = 4 ∨ i = 5 := by omega
    rcases this with rfl | rfl | rfl | rfl | rfl | rfl | rfl | rfl | rfl | rfl | rfl <;> decide
  have k1 := sm d (by omega) (by omega)
  have k2 := sm (d + 1) (by omega) (by omega)
  have eg : 9 * a * (9 * a) + 9 * b * (9 * b) + 9 * c * (9 * c) = 81 * (a * a + b * b + c * c) := by grind
  have p1 : 0 < lz [9 * a, 9 * b, 9 * c, d] [9 * a, 9 * b, 9 * c, d] := by simp only [lz]; rw [eg]; omega
  have p2 : 0 < lz [9 * a, 9 * b, 9 * c, d + 1] [9 * a, 9 * b, 9 * c, d + 1] := by simp only [lz]; rw [eg]; omega
  refine ⟨p1, p2, ?_⟩
  have t1 := T4_lit (9 * a) (9 * b) (9 * c) d
  have t2 := T4_lit (9 * a) (9 * b) (9 * c) (d + 1)
  obtain ⟨k, hk, ek⟩ := scale_fu (lz_nz t1 p1)
  obtain ⟨m, hm, em⟩ := scale_fu (lz_nz t2 p2)
  have x11 := lz_scale k k (T4_fu t1) (T4_fu t1)
  have x12 := lz_scale k m (T4_fu t1) (T4_fu t2)
  have x22 := lz_scale m m (T4_fu t2) (T4_fu t2)
  rw [← ek] at x11 x12
  rw [← em] at x12 x22
  have main : lz [9 * a, 9 * b, 9 * c, d] [9 * a, 9 * b, 9 * c, d] * lz [9 * a, 9 * b, 9 * c, d + 1] [9 * a, 9 * b, 9 * c, d + 1] < lz [9 * a, 9 * b, 9 * c, d] [9 * a, 9 * b, 9 * c, d + 1] * lz [9 * a, 9 * b, 9 * c, d] [9 * a, 9 * b, 9 * c, d + 1] := by
    simp only [lz]
    rw [eg]
    have hG : 0 < 81 * (a * a + b * b + c * c) := by omega
    generalize 81 * (a * a + b * b + c * c) = G at *
    have : (G - d * (d + 1)) * (G - d * (d + 1)) - (G - d * d) * (G - (d + 1) * (d + 1)) = G := by grind
    omega
  rw [x11, x12, x22] at main
  generalize lz (Vec.fu [9 * a, 9 * b, 9 * c, d]) (Vec.fu [9 * a, 9 * b, 9 * c, d]) = A at *
  generalize lz (Vec.fu [9 * a, 9 * b, 9 * c, d]) (Vec.fu [9 * a, 9 * b, 9 * c, d + 1]) = B at *
  generalize lz (Vec.fu [9 * a, 9 * b, 9 * c, d + 1]) (Vec.fu [9 * a, 9 * b, 9 * c, d + 1]) = C at *
  have q : k * k * (m * m) * (A * C) < k * k * (m * m) * (B * B) := by
    have q1 : k * k * A * (m * m * C) = k * k * (m * m) * (A * C) := by grind
    have q2 : k * m * B * (k * m * B) = k * k * (m * m) * (B * B) := by grind
    rwa [q1, q2] at main
  exact Int.lt_of_mul_lt_mul_left q (Int.le_of_lt (Int.mul_pos (sq_pos0 hk) (sq_pos0 hm)))
/-- how many rays two circles have in common -/
def cmn (u v : List Int) : D := if u = v then .non else .int (1 + sg (lz u u * lz v v - lz u v * lz u v))
def tchB (u v : List Int) : Bool := !decide (u = v) && decide (lz u v * lz u v = lz u u * lz v v)
def tch (u v : List Int) : D := if tchB u v = true then tpl (Vec.red (tx u v)) else .non
theorem cmn_pure (u v : List Int) : (cmn u v).pure = true := by unfold cmn; split <;> simp
theorem tch_pure (u v : List Int) : (tch u v).pure = true := by unfold tch; split <;> simp
theorem cmn_comm {u v : List Int} (f : T4 u) (g : T4 v) : cmn u v = cmn v u := by
  unfold cmn
  rw [lz_comm f g, Int.mul_comm (lz u u)]
  by_cases q : u = v
  · subst q; rfl
  · rw [if_neg q, if_neg (fun e => q e.symm)]
theorem tchB_comm {u v : List Int} (f : T4 u) (g : T4 v) : tchB u v = tchB v u := by
  unfold tchB
  rw [lz_comm f g, Int.mul_comm (lz u u)]
  by_cases q : u = v
  · subst q; rfl
  · have q' : ¬ v = u := fun e => q e.symm
    simp [q, q']
theorem tch_comm {u v : List Int} (f : T4 u) (g : T4 v) : tch u v = tch v u := by
  unfold tch
  rw [tchB_comm f g, tx_comm f g]
theorem sg_one {x : Int} : 1 + sg x = 1 ↔ x = 0 := by
  rw [← sg_zero (n := x)]
  omega
theorem cmn_eq (u v : List Int) (st : L3.Store) : eqD st (cmn u v) (.int 1) = some (tchB u v) ∧ (tchB u v = true → cmn u v = .int 1) := by
  unfold cmn tchB
  by_cases q : u = v
  · rw [if_pos q]
    exact ⟨by simp [q]; rfl, by simp [q]⟩
  · rw [if_neg q]
    have : 1 + sg (lz u u * lz v v - lz u v * lz u v) = 1 ↔ lz u v * lz u v = lz u u * lz v v := by rw [sg_one]; omega
    refine ⟨by simp [q, this], fun h => ?_⟩
    simp [q] at h
    rw [this.mpr h]
theorem Bv_tx {u v : List Int} (f : T4 u) (g : T4 v) (a : Bv 200 u) (b : Bv 200 v) : Bv 1620 (tx u v) := by
  obtain ⟨x, y, z, w, rfl⟩ := f
  obtain ⟨p, q, r, s, rfl⟩ := g
  simp only [Bv_cons] at a b
  have d : ∀ i1 j1 i2 j2 i3 j3 : Int, Bd 200 i1 → Bd 200 j1 → Bd 200 i2 → Bd 200 j2 → Bd 200 i3 → Bd 200 j3 → Bd 402 (i1 * j1 + i2 * j2 + i3 * j3) := fun i1 j1 i2 j2 i3 j3 h1 h2 h3 h4 h5 h6 => Bd_add (Bd_add (Bd_mul (h1.mono (by decide)) (h2.mono (by decide))) (Bd_mul (h3.mono (by decide)) (h4.mono (by decide)))) (Bd_mul (h5.mono (by decide)) (h6.mono (by decide)))
  have m : ∀ i j k l : Int, Bd 200 i → Bd 402 j → Bd 200 k → Bd 402 l → Bd 805 (i * j - k * l) := fun i j k l h1 h2 h3 h4 => Bd_sub (Bd_mul (h1.mono (by decide)) (h2.mono (by decide))) (Bd_mul (h3.mono (by decide)) (h4.mono (by decide)))
  have t : ∀ A B i j : Int, Bd 805 A → Bd 805 B → Bd 200 i → Bd 200 j → Bd 1620 (A * i + B * j) := fun A B i j h1 h2 h3 h4 => Bd_add (Bd_mul (h1.mono (by decide)) (h3.mono (by decide))) (Bd_mul (h2.mono (by decide)) (h4.mono (by decide)))
  obtain ⟨a1, a2, a3, a4, _⟩ := a
  obtain ⟨b1, b2, b3, b4, _⟩ := b
  have hf := d x p y q z r a1 b1 a2 b2 a3 b3
  have hg := d x x y y z z a1 a1 a2 a2 a3 a3
  have hh := d p p q q r r b1 b1 b2 b2 b3 b3
  have s1 := m _ _ _ _ a4 hh b4 hf
  have s2 := m _ _ _ _ b4 hg a4 hf
  simp only [tx, Bv_cons]
  exact ⟨t _ _ _ _ s1 s2 a1 b1, t _ _ _ _ s1 s2 a2 b2, t _ _ _ _ s1 s2 a3 b3, Bv_nil⟩
theorem tx_nz {N M : List Int} (h : Ci N) (h' : Ci M) (q : tchB N M = true) : ¬ Zer (tx N M) := fun z => by
  have ne : N ≠ M ∧ lz N M * lz N M = lz N N * lz M M := by simpa [tchB] using q
  obtain ⟨ne, eq⟩ := ne
  have p1 := h.p
  have p2 := h'.p
  obtain ⟨a, b, c, d, rfl⟩ := h.t
  obtain ⟨x, y, w, e, rfl⟩ := h'.t
  simp only [tx, Zer_cons] at z
  obtain ⟨z1, z2, z3, _⟩ := z
  simp only [lz] at eq p1 p2
  obtain ⟨f, hf⟩ : ∃ f, f = a * x + b * y + c * w := ⟨_, rfl⟩
  obtain ⟨g, hg⟩ : ∃ f, f = a * a + b * b + c * c := ⟨_, rfl⟩
  obtain ⟨k, hk⟩ : ∃ f, f = x * x + y * y + w * w := ⟨_, rfl⟩
  rw [← hf, ← hg, ← hk] at z1 z2 z3 eq
  rw [← hg] at p1
  rw [← hk] at p2
  have sd : 0 ≤ d * d := by
    rcases Int.le_total 0 d with q | q
    · exact Int.mul_nonneg q q
    · exact Int.mul_nonneg_of_nonpos_of_nonpos q q
  have gp : 0 < g := by omega
  have n1 : d * (g * k - f * f) = 0 := by
    have : d * (g * k - f * f) = ((d * k - e * f) * a + (e * g - d * f) * x) * a + ((d * k - e * f) * b + (e * g - d * f) * y) * b + ((d * k - e * f) * c + (e * g - d * f) * w) * c := by
      have t1 : ((d * k - e * f) * a + (e * g - d * f) * x) * a + ((d * k - e * f) * b + (e * g - d * f) * y) * b + ((d * k - e * f) * c + (e * g - d * f) * w) * c = (d * k - e * f) * (a * a + b * b + c * c) + (e * g - d * f) * (a * x + b * y + c * w) := by grind
      rw [t1, ← hf, ← hg]; grind
    rw [this, z1, z2, z3]; simp
  have n2 : e * (g * k - f * f) = 0 := by
    have : e * (g * k - f * f) = ((d * k - e * f) * a + (e * g - d * f) * x) * x + ((d * k - e * f) * b + (e * g - d * f) * y) * y + ((d * k - e * f) * c + (e * g - d * f) * w) * w := by
      have t1 : ((d * k - e * f) * a + (e * g - d * f) * x) * x + ((d * k - e * f) * b + (e * g - d * f) * y) * y + ((d * k - e * f) * c + (e * g - d * f) * w) * w = (d * k - e * f) * (a * x + b * y + c * w) + (e * g - d * f) * (x * x + y * y + w * w) := by grind
      rw [t1, ← hf, ← hk]; grind
    rw [this, z1, z2, z3]; simp
  have delta : g * k - f * f = 0 := by
    refine Decidable.byContradiction fun hn => ?_
    have d0 := (Int.mul_eq_zero.mp n1).resolve_right hn
    have e0 := (Int.mul_eq_zero.mp n2).resolve_right hn
    subst d0; subst e0
    apply hn
    simp at eq
    omega
  have lag : (b * w - c * y) * (b * w - c * y) + (c * x - a * w) * (c * x - a * w) + (a * y - b * x) * (a * y - b * x) ≤ 0 := by
    have : (b * w - c * y) * (b * w - c * y) + (c * x - a * w) * (c * x - a * w) + (a * y - b * x) * (a * y - b * x) = (a * a + b * b + c * c) * (x * x + y * y + w * w) - (a * x + b * y + c * w) * (a * x + b * y + c * w) := by grind
    rw [this, ← hf, ← hg, ← hk]; omega
  obtain ⟨c1, c2, c3⟩ := sum3_sq lag
  have lag2 : (e * a - d * x) * (e * a - d * x) + (e * b - d * y) * (e * b - d * y) + (e * c - d * w) * (e * c - d * w) ≤ 0 := by
    have t1 : (e * a - d * x) * (e * a - d * x) + (e * b - d * y) * (e * b - d * y) + (e * c - d * w) * (e * c - d * w) = e * e * (a * a + b * b + c * c) - 2 * d * e * (a * x + b * y + c * w) + d * d * (x * x + y * y + w * w) := by grind
    rw [t1, ← hf, ← hg, ← hk]
    have t2 : e * e * g - 2 * d * e * f + d * d * k = (f - d * e) * (f - d * e) - (g - d * d) * (k - e * e) + (g * k - f * f) := by grind
    rw [t2, delta, eq]; omega
  obtain ⟨m1, m2, m3⟩ := sum3_sq lag2
  have ege : e * g = d * f := by
    have t1 : e * (a * a + b * b + c * c) - d * (a * x + b * y + c * w) = (e * a - d * x) * a + (e * b - d * y) * b + (e * c - d * w) * c := by grind
    rw [← hf, ← hg, m1, m2, m3] at t1
    omega
  refine ne (unscale (k := f) (m := g) ?_ h.t h'.t h h' ?_)
  · intro f0
    rw [f0] at delta
    have : g * k = 0 := by omega
    rcases Int.mul_eq_zero.mp this with q | q
    · omega
    · have se : 0 ≤ e * e := by
        rcases Int.le_total 0 e with q | q
        · exact Int.mul_nonneg q q
        · exact Int.mul_nonneg_of_nonpos_of_nonpos q q
      omega
  · simp only [scale, List.map_cons, List.map_nil, List.cons.injEq, and_true]
    rw [hf, hg]
    refine ⟨by grind, by grind, by grind, ?_⟩
    rw [← hf, ← hg]; rw [Int.mul_comm f d, ← ege, Int.mul_comm]
end Vec
namespace L3
open L2 PySem PySem.Spec PyProof.Rows
/-- a row or None -/
def odD : Option (List Int) → D
  | none => .non
  | some v => tpl v
def odP : Option (List Int) → PyData
  | none => .none
  | some v => tupP v
theorem pys_od : ∀ vs : List (Option (List Int)), pys (vs.map odD) = some (vs.map odP)
  | [] => rfl
  | none :: vs => by
    show (match D.non.py, pys (vs.map odD) with | some p, some ps => some (p :: ps) | _, _ => none) = _
    simp only [D.py, pys_od vs, List.map_cons, odP]
  | some v :: vs => by
    show (match (D.tup (v.map .int)).py, pys (vs.map odD) with | some p, some ps => some (p :: ps) | _, _ => none) = _
    simp only [D.py, pys_ints, pys_od vs, Option.map, List.map_cons, odP]
theorem canLay_od : ∀ vs : List (Option (List Int)), PyData.canLayAll0 (vs.map odP) = true
  | [] => by simp only [List.map_nil, PyData.canLayAll0]
  | none :: vs => by simp only [List.map_cons, odP, PyData.canLayAll0, PyData.canLay0, canLay_od vs, Bool.and_self]
  | some v :: vs => by simp only [List.map_cons, odP, PyData.canLayAll0, PyData.canLay0, canLay_ints, canLay_od vs, Bool.and_self]
theorem depth_od : ∀ vs : List (Option (List Int)), PyData.depthAll (vs.map odP) ≤ 1
  | [] => by simp only [List.map_nil, PyData.depthAll]; omega
  | none :: vs => by
    have := depth_od vs
    simp only [List.map_cons, odP, PyData.depthAll, PyData.depth]
    omega
  | some v :: vs => by
    have := depth_od vs
    simp only [List.map_cons, odP, PyData.depthAll, PyData.depth, depth_ints]
    omega
theorem in_none {st : Store} {n : Nat} {vs : List (Option (List Int))} (h : st[n]? = some (vs.map odD)) : inD st .non (.loc n) = some (vs.any (·.isNone)) := by
  have s1 : SeqAt.shaped .none = true := by simp [SeqAt.shaped, PyData.canLay0, PyData.depth]
  have s2 : SeqAt.shaped (.list (vs.map odP)) = true := by
    have := depth_od vs
    simp only [SeqAt.shaped, PyData.canLay0, canLay_od, PyData.depth, Bool.true_and, decide_eq_true_eq]
    exact decide_eq_true (Nat.le_trans (Nat.succ_le_succ this) (by decide : Nat.succ 1 ≤ 64))
  have e : (vs.map odP).any (fun z => PyData.eqv z .none) = vs.any (·.isNone) := by
    clear h s2
    induction vs with
    | nil => rfl
    | cons v vs ih =>
      simp only [List.map_cons, List.any_cons, ih]
      cases v with
      | none => simp [odP, PyData.eqv]
      | some v => simp [odP, PyData.eqv]
  simp only [inD, tupD, pyOf, h, D.py, pys_od, Option.map, s1, s2, and_self, if_true, e]
end L3

set_option maxHeartbeats 2000000
/-! ### rows among rows -/
namespace L3
open L2 PySem PySem.Spec PyProof.Rows
section
variable {cf : Nat → List D → Store → Res D} {gl : Nat → Option D} {r : DEnv} {st : Store}
theorem loop_seqT {ex : Ex} {t : Lv} {xs : List D} {d : D} {body : List Sm} {s0 s1 : Store} (he : den cf gl ex r s0 = .ok d s1) (hd : isSeq s1 d = some xs) : denS cf gl (.loop .seq [ex] t body) r s0 = forL (walked .seq [d]) (fun x r s => match bindL cf gl t x r s with | some (r1, s2) => denB cf gl body r1 s2 | none => .stuck) xs r s1 := by
  have e : itemsOf s1 .seq [d] = some xs := hd
  simp only [denS_loop, denI, dens_cons, dens_nil, he, rbind_ok, e, Option.map, rof_some] <;> rfl
/-- a walk with any target -/
theorem seq_invT {ex : Ex} {t : Lv} {xs : List D} {d : D} {body : List Sm} {s0 s1 : Store} (P : Nat → DEnv → Store → Prop) (he : den cf gl ex r s0 = .ok d s1) (hd : isSeq s1 d = some xs) (hw : walked .seq [d] = []) (h0 : P 0 r s1)
    (hs : ∀ i x r s, xs[i]? = some x → P i r s → ∃ r1 s2 r2 s3, bindL cf gl t x r s = some (r1, s2) ∧ denB cf gl body r1 s2 = .go .nx r2 s3 ∧ P (i + 1) r2 s3) : ∃ r1 s2, denS cf gl (.loop .seq [ex] t body) r s0 = .go .nx r1 s2 ∧ P xs.length r1 s2 := by
  rw [loop_seqT he hd, hw]
  exact forL_inv (ns := []) (xs := xs) P h0 fun i x r s hx hp => by
    obtain ⟨r1, s2, r2, s3, e1, e2, p⟩ := hs i x r s hx hp
    exact ⟨r2, s3, by simp only [e1]; exact e2, stillB_nil _ _, p⟩
/-- a walk with any target that leaves the store -/
theorem seq_sameT {ex : Ex} {t : Lv} {xs : List D} {d : D} {body : List Sm} {s0 : Store} (P : DEnv → Prop) (he : den cf gl ex r s0 = .ok d s0) (hd : isSeq s0 d = some xs) (h0 : P r)
    (hs : ∀ x ∈ xs, ∀ r, P r → ∃ r1 r2, bindL cf gl t x r s0 = some (r1, s0) ∧ denB cf gl body r1 s0 = .go .nx r2 s0 ∧ P r2) : ∃ r1, denS cf gl (.loop .seq [ex] t body) r s0 = .go .nx r1 s0 ∧ P r1 := by
  rw [loop_seqT he hd]
  obtain ⟨r1, s1, e, h1, h2⟩ := forL_inv (ns := walked .seq [d]) (xs := xs) (step := fun x r s => match bindL cf gl t x r s with | some (r1, s2) => denB cf gl body r1 s2 | none => .stuck) (r0 := r) (s0 := s0) (fun _ r s => P r ∧ s = s0) ⟨h0, rfl⟩ (fun i x r s hx hp => by
    obtain ⟨hp, rfl⟩ := hp
    obtain ⟨r1, r2, e1, e2, p⟩ := hs x (List.mem_of_getElem? hx) r hp
    exact ⟨r2, s, by simp only [e1]; exact e2, stillB_same _ _, p, rfl⟩)
  subst h2
  exact ⟨r1, e, h1⟩
end
theorem any_eqv (us : List (List Int)) (v : List Int) : (us.map tupP).any (fun z => PyData.eqv z (tupP v)) = us.any (fun u => decide (u = v)) := by
  induction us with
  | nil => rfl
  | cons u us ih => simp only [List.map_cons, List.any_cons, ih, PyData.eqv, eqv_ints]
theorem shaped_tupP (v : List Int) : SeqAt.shaped (tupP v) = true := shaped_ints v
theorem pyOf_tpl {st : Store} (v : List Int) : pyOf st (tpl v) = some (tupP v) := by
  show (D.tup (v.map .int)).py = _
  simp only [D.py, pys_ints, Option.map]
theorem in_tplsL {st : Store} (us : List (List Int)) (v : List Int) : inD st (tpl v) (.lst (us.map tpl)) = some (us.any (fun u => decide (u = v))) := by
  have t : tupD (.lst (us.map tpl)) = none := rfl
  have p2 : pyOf st (.lst (us.map tpl)) = some (.list (us.map tupP)) := by
    show (D.lst (us.map tpl)).py = _
    simp only [D.py, pys_tpls, Option.map]
  simp only [inD, t, pyOf_tpl, p2, shaped_tupP, shaped_tplsL, and_self, if_true, any_eqv]
theorem in_tpls_loc {st : Store} {n : Nat} (us : List (List Int)) (v : List Int) (h : st[n]? = some (us.map tpl)) : inD st (tpl v) (.loc n) = some (us.any (fun u => decide (u = v))) := by
  have t : tupD (.loc n) = none := rfl
  have p2 : pyOf st (.loc n) = some (.list (us.map tupP)) := by simp only [pyOf, h, pys_tpls, Option.map]
  simp only [inD, t, pyOf_tpl, p2, shaped_tupP, shaped_tplsL, and_self, if_true, any_eqv]
theorem in_none_tpls {st : Store} (us : List (List Int)) : inD st .non (.lst (us.map tpl)) = some false := by
  have t : tupD (.lst (us.map tpl)) = none := rfl
  have p2 : pyOf st (.lst (us.map tpl)) = some (.list (us.map tupP)) := by
    show (D.lst (us.map tpl)).py = _
    simp only [D.py, pys_tpls, Option.map]
  have p1 : pyOf st .non = some .none := rfl
  have s1 : SeqAt.shaped .none = true := by simp [SeqAt.shaped, PyData.canLay0, PyData.depth]
  have e : (us.map tupP).any (fun z => PyData.eqv z .none) = false := by
    induction us with
    | nil => rfl
    | cons u us ih => simp only [List.map_cons, List.any_cons, PyData.eqv, Bool.false_or]; exact ih (by rfl) (by
        show (D.lst (us.map tpl)).py = _
        simp only [D.py, pys_tpls, Option.map])
  simp only [inD, t, p1, p2, s1, shaped_tplsL, and_self, if_true, e]
/-- a row with its length -/
def lrD (p : List Int × Int) : D := .lst [tpl p.1, .int p.2]
def lrP (p : List Int × Int) : PyData := .list [tupP p.1, .int p.2]
theorem pys_lr : ∀ vs : List (List Int × Int), pys (vs.map lrD) = some (vs.map lrP)
  | [] => rfl
  | (v, w) :: vs => by
    show (match (D.lst [.tup (v.map .int), .int w]).py, pys (vs.map lrD) with | some p, some ps => some (p :: ps) | _, _ => none) = _
    simp only [D.py, pys, pys_ints, pys_lr vs, Option.map, List.map_cons, lrP]
theorem py_lr (v : List Int) (w : Int) : (lrD (v, w)).py = some (lrP (v, w)) := by
  show (D.lst [.tup (v.map .int), .int w]).py = _
  simp only [D.py, pys, pys_ints, Option.map, lrP]
theorem canLay_lr : ∀ vs : List (List Int × Int), PyData.canLayAll0 (vs.map lrP) = true
  | [] => by simp only [List.map_nil, PyData.canLayAll0]
  | v :: vs => by simp only [List.map_cons, lrP, PyData.canLayAll0, PyData.canLay0, canLay_ints, canLay_lr vs, Bool.and_self]
theorem depth_lr : ∀ vs : List (List Int × Int), PyData.depthAll (vs.map lrP) ≤ 2
  | [] => by simp only [List.map_nil, PyData.depthAll]; omega
  | v :: vs => by
    have := depth_lr vs
    simp only [List.map_cons, lrP, PyData.depthAll, PyData.depth, depth_ints]
    omega
theorem shaped_lr (p : List Int × Int) : SeqAt.shaped (lrP p) = true := by
  simp only [lrP, SeqAt.shaped, PyData.canLay0, PyData.canLayAll0, canLay_ints, PyData.depth, PyData.depthAll, depth_ints, Bool.and_self, Bool.true_and]
  exact decide_eq_true (by decide)
theorem shaped_lrs (vs : List (List Int × Int)) : SeqAt.shaped (.list (vs.map lrP)) = true := by
  have := depth_lr vs
  simp only [SeqAt.shaped, PyData.canLay0, canLay_lr, PyData.depth, Bool.true_and, decide_eq_true_eq]
  exact decide_eq_true (Nat.le_trans (Nat.succ_le_succ this) (by decide : Nat.succ 2 ≤ 64))
theorem eqv_lr (p q : List Int × Int) : PyData.eqv (lrP p) (lrP q) = decide (p = q) := by
  obtain ⟨a, b⟩ := p
  obtain ⟨c, d⟩ := q
  simp only [lrP, PyData.eqv, PyData.eqvAll, eqv_ints, Bool.and_true]
  by_cases h : a = c
  · by_cases k : b = d <;> simp [h, k]
  · simp [h]
theorem in_lr {st : Store} {n : Nat} (vs : List (List Int × Int)) (p : List Int × Int) (h : st[n]? = some (vs.map lrD)) : inD st (lrD p) (.loc n) = some (vs.any fun q => decide (q = p)) := by
  have e : (vs.map lrP).any (fun z => PyData.eqv z (lrP p)) = vs.any fun q => decide (q = p) := by
    clear h
    induction vs with
    | nil => rfl
    | cons v vs ih => simp only [List.map_cons, List.any_cons, ih, eqv_lr]
  obtain ⟨a, b⟩ := p
  have t : tupD (.loc n) = none := rfl
  have p1 : pyOf st (lrD (a, b)) = some (lrP (a, b)) := py_lr a b
  have p2 : pyOf st (.loc n) = some (.list (vs.map lrP)) := by simp only [pyOf, h, pys_lr, Option.map]
  simp only [inD, t, p1, p2, shaped_lr, shaped_lrs, and_self, if_true, e]
end L3
namespace Vec
open L2 L3
/-! ### a circle through three rays -/
/-- the normal of three points -/
def n3 : List Int → List Int → List Int → List Int
  | [a, b, c], [x, y, z], [p, q, r] => cross [x - a, y - b, z - c] [p - a, q - b, r - c]
  | _, _, _ => []
theorem T3_n3 {u v w : List Int} (f : T3 u) (g : T3 v) (h : T3 w) : T3 (n3 u v w) := by
  obtain ⟨a, b, c, rfl⟩ := f
  obtain ⟨x, y, z, rfl⟩ := g
  obtain ⟨p, q, r, rfl⟩ := h
  exact ⟨_, _, _, rfl⟩
theorem n3_cyc {u v w : List Int} (f : T3 u) (g : T3 v) (h : T3 w) : n3 v w u = n3 u v w := by
  obtain ⟨a, b, c, rfl⟩ := f
  obtain ⟨x, y, z, rfl⟩ := g
  obtain ⟨p, q, r, rfl⟩ := h
  simp only [n3, cross, List.cons.injEq, and_true]
  refine ⟨by grind, by grind, by grind⟩
theorem n3_on {u v w : List Int} (f : T3 u) (g : T3 v) (h : T3 w) : dot (n3 u v w) v = dot (n3 u v w) u ∧ dot (n3 u v w) w = dot (n3 u v w) u := by
  obtain ⟨a, b, c, rfl⟩ := f
  obtain ⟨x, y, z, rfl⟩ := g
  obtain ⟨p, q, r, rfl⟩ := h
  simp only [n3, cross, dot]
  exact ⟨by grind, by grind⟩
theorem same_len {a b c x y z W : Int} (e : a * a + b * b + c * c = W * W) (e' : x * x + y * y + z * z = W * W) (h : a * x + b * y + c * z = W * W) : a = x ∧ b = y ∧ c = z := by
  have := sum3_sq (x := a - x) (y := b - y) (z := c - z) (by
    have : (a - x) * (a - x) + (b - y) * (b - y) + (c - z) * (c - z) = (a * a + b * b + c * c) + (x * x + y * y + z * z) - 2 * (a * x + b * y + c * z) := by grind
    rw [this, e, e', h]; omega)
  omega
theorem lagc {n1 n2 n3 a b c : Int} (z1 : n2 * c - n3 * b = 0) (z2 : n3 * a - n1 * c = 0) (z3 : n1 * b - n2 * a = 0) : (n1 * n1 + n2 * n2 + n3 * n3) * a = (n1 * a + n2 * b + n3 * c) * n1 ∧ (n1 * n1 + n2 * n2 + n3 * n3) * b = (n1 * a + n2 * b + n3 * c) * n2 ∧ (n1 * n1 + n2 * n2 + n3 * n3) * c = (n1 * a + n2 * b + n3 * c) * n3 := by
  refine ⟨by grind, by grind, by grind⟩
/-- three unlike points of a sphere are in no line, and their normal is not along the first -/
theorem n3_nz {u v w : List Int} {W : Int} (f : T3 u) (g : T3 v) (h : T3 w) (e1 : dot u u = W * W) (e2 : dot v v = W * W) (e3 : dot w w = W * W) (d1 : u ≠ v) (d2 : u ≠ w) (d3 : v ≠ w) : ¬ Zer (cross (n3 u v w) u) := by
  obtain ⟨a, b, c, rfl⟩ := f
  obtain ⟨x, y, z, rfl⟩ := g
  obtain ⟨p, q, r, rfl⟩ := h
  intro Z
  obtain ⟨n1, n2, n3', en⟩ : ∃ n1 n2 n3', n3 [a, b, c] [x, y, z] [p, q, r] = [n1, n2, n3'] := ⟨_, _, _, rfl⟩
  have on := n3_on (T3_lit a b c) (T3_lit x y z) (T3_lit p q r)
  rw [en] at Z on
  simp only [dot] at on e1 e2 e3
  have dn : ∀ {s t m s' t' m' : Int}, [s, t, m] ≠ [s', t', m'] → ¬ (s = s' ∧ t = t' ∧ m = m') := fun h k => h (by rw [k.1, k.2.1, k.2.2])
  have d1 := dn d1
  have d2 := dn d2
  have d3 := dn d3
  simp only [cross, Zer_cons] at Z
  obtain ⟨z1, z2, z3, _⟩ := Z
  by_cases hn : n1 = 0 ∧ n2 = 0 ∧ n3' = 0
  · -- in a line
    obtain ⟨rfl, rfl, rfl⟩ := hn
    simp only [n3, cross, List.cons.injEq, and_true] at en
    obtain ⟨k1, k2, k3⟩ := en
    obtain ⟨A1, hA1⟩ : ∃ t, t = x - a := ⟨_, rfl⟩
    obtain ⟨A2, hA2⟩ : ∃ t, t = y - b := ⟨_, rfl⟩
    obtain ⟨A3, hA3⟩ : ∃ t, t = z - c := ⟨_, rfl⟩
    obtain ⟨B1, hB1⟩ : ∃ t, t = p - a := ⟨_, rfl⟩
    obtain ⟨B2, hB2⟩ : ∃ t, t = q - b := ⟨_, rfl⟩
    obtain ⟨B3, hB3⟩ : ∃ t, t = r - c := ⟨_, rfl⟩
    rw [← hA2, ← hA3, ← hB2, ← hB3] at k1
    rw [← hA1, ← hA3, ← hB1, ← hB3] at k2
    rw [← hA1, ← hA2, ← hB1, ← hB2] at k3
    have qa : 2 * (a * A1 + b * A2 + c * A3) + (A1 * A1 + A2 * A2 + A3 * A3) = 0 := by
      rw [hA1, hA2, hA3]
      have : 2 * (a * (x - a) + b * (y - b) + c * (z - c)) + ((x - a) * (x - a) + (y - b) * (y - b) + (z - c) * (z - c)) = (x * x + y * y + z * z) - (a * a + b * b + c * c) := by grind
      rw [this, e1, e2]; omega
    have qb : 2 * (a * B1 + b * B2 + c * B3) + (B1 * B1 + B2 * B2 + B3 * B3) = 0 := by
      rw [hB1, hB2, hB3]
      have : 2 * (a * (p - a) + b * (q - b) + c * (r - c)) + ((p - a) * (p - a) + (q - b) * (q - b) + (r - c) * (r - c)) = (p * p + q * q + r * r) - (a * a + b * b + c * c) := by grind
      rw [this, e1, e3]; omega
    have lg1 : (B1 * B1 + B2 * B2 + B3 * B3) * A1 = (A1 * B1 + A2 * B2 + A3 * B3) * B1 := by grind
    have lg2 : (B1 * B1 + B2 * B2 + B3 * B3) * A2 = (A1 * B1 + A2 * B2 + A3 * B3) * B2 := by grind
    have lg3 : (B1 * B1 + B2 * B2 + B3 * B3) * A3 = (A1 * B1 + A2 * B2 + A3 * B3) * B3 := by grind
    have bn : ¬ (B1 * B1 + B2 * B2 + B3 * B3) = 0 := fun k => d2 (by
      have := sum3_sq (x := B1) (y := B2) (z := B3) (by omega)
      omega)
    obtain ⟨B, hB⟩ : ∃ t, t = B1 * B1 + B2 * B2 + B3 * B3 := ⟨_, rfl⟩
    obtain ⟨C, hC⟩ : ∃ t, t = A1 * B1 + A2 * B2 + A3 * B3 := ⟨_, rfl⟩
    rw [← hB, ← hC] at lg1 lg2 lg3
    rw [← hB] at bn qb
    have cc : C * (C - B) = 0 := by
      have t1 : B * (2 * (a * A1 + b * A2 + c * A3) + (A1 * A1 + A2 * A2 + A3 * A3)) = 2 * (a * (B * A1) + b * (B * A2) + c * (B * A3)) + ((B * A1) * A1 + (B * A2) * A2 + (B * A3) * A3) := by grind
      rw [qa, lg1, lg2, lg3] at t1
      have t2 : 2 * (a * (C * B1) + b * (C * B2) + c * (C * B3)) + (C * B1 * A1 + C * B2 * A2 + C * B3 * A3) = C * (2 * (a * B1 + b * B2 + c * B3)) + C * (A1 * B1 + A2 * B2 + A3 * B3) := by grind
      rw [t2, ← hC] at t1
      have t3 : 2 * (a * B1 + b * B2 + c * B3) = -B := by omega
      rw [t3] at t1
      have : C * (C - B) = C * -B + C * C := by grind
      rw [this]; omega
    have can : ∀ s t : Int, B * s = B * t → s = t := fun s t k => Int.eq_of_mul_eq_mul_left bn k
    rcases Int.mul_eq_zero.mp cc with k | k
    · rw [k] at lg1 lg2 lg3
      have r1 := can A1 0 (by rw [lg1]; simp)
      have r2 := can A2 0 (by rw [lg2]; simp)
      have r3 := can A3 0 (by rw [lg3]; simp)
      exact d1 (by omega)
    · have k' : C = B := by omega
      rw [k'] at lg1 lg2 lg3
      have r1 := can _ _ lg1
      have r2 := can _ _ lg2
      have r3 := can _ _ lg3
      exact d3 (by omega)
  · -- along the first
    have t1 : (n1 * n1 + n2 * n2 + n3' * n3') * ((a * x + b * y + c * z) - W * W) = 0 := by
      have o1 := on.1
      obtain ⟨l1, l2, l3⟩ := lagc z1 z2 z3
      rw [← e1]
      have : (n1 * n1 + n2 * n2 + n3' * n3') * ((a * x + b * y + c * z) - (a * a + b * b + c * c)) = ((n1 * n1 + n2 * n2 + n3' * n3') * a) * (x - a) + ((n1 * n1 + n2 * n2 + n3' * n3') * b) * (y - b) + ((n1 * n1 + n2 * n2 + n3' * n3') * c) * (z - c) := by grind
      rw [this, l1, l2, l3]
      have : (n1 * a + n2 * b + n3' * c) * n1 * (x - a) + (n1 * a + n2 * b + n3' * c) * n2 * (y - b) + (n1 * a + n2 * b + n3' * c) * n3' * (z - c) = (n1 * a + n2 * b + n3' * c) * ((n1 * x + n2 * y + n3' * z) - (n1 * a + n2 * b + n3' * c)) := by grind
      rw [this, o1]; simp
    rcases Int.mul_eq_zero.mp t1 with k | k
    · exact hn (sum3_sq (by omega))
    · exact d1 (same_len e1 e2 (by omega))
/-- the circle through three rays with their lengths, not yet reduced -/
def cT (u v w : List Int) (l m k : Int) : List Int := ct (n3 (scale (m * k) u) (scale (l * k) v) (scale (l * m) w)) (scale (m * k) u) (l * m * k)
/-- a reduced ray with a whole length -/
structure Lr (u : List Int) (l : Int) : Prop where
  t : T3 u
  g : gcdL u = 1
  e : dot u u = l * l
  p : 0 < l
theorem Lr.nz {u : List Int} {l : Int} (h : Lr u l) : ¬ Zer u := fun z => by have := h.g; rw [gcdL_zero.mpr z] at this; cases this
theorem len_scale {u : List Int} {l : Int} (h : Lr u l) (k : Int) : dot (scale k u) (scale k u) = (l * k) * (l * k) := by
  have e := h.e
  obtain ⟨a, b, c, rfl⟩ := h.t
  simp only [dot, scale, List.map_cons, List.map_nil] at *
  have : k * a * (k * a) + k * b * (k * b) + k * c * (k * c) = k * k * (a * a + b * b + c * c) := by grind
  rw [this, e]; grind
theorem scale_ne {u v : List Int} {l m a b : Int} (h : Lr u l) (g : Lr v m) (ha : 0 < a) (hb : 0 < b) (ne : u ≠ v) : scale a u ≠ scale b v := fun e => ne (by
  have := red_along ha hb e
  rwa [red_unit h.g, red_unit g.g] at this)
section
variable {u v w : List Int} {l m k : Int}
theorem T4_cT (f : T3 u) (g : T3 v) (h : T3 w) : T4 (cT u v w l m k) := T4_ct (T3_n3 (f.scale _) (g.scale _) (h.scale _)) (f.scale _)
theorem cT_pos (h1 : Lr u l) (h2 : Lr v m) (h3 : Lr w k) (d1 : u ≠ v) (d2 : u ≠ w) (d3 : v ≠ w) : 0 < lz (cT u v w l m k) (cT u v w l m k) := by
  have e1 := len_scale h1 (m * k)
  have e2 := len_scale h2 (l * k)
  have e3 := len_scale h3 (l * m)
  have q1 : l * (m * k) = l * m * k := by grind
  have q2 : m * (l * k) = l * m * k := by grind
  have q3 : k * (l * m) = l * m * k := by grind
  rw [q1] at e1; rw [q2] at e2; rw [q3] at e3
  have p1 := Int.mul_pos h2.p h3.p
  have p2 := Int.mul_pos h1.p h3.p
  have p3 := Int.mul_pos h1.p h2.p
  exact ct_pos (T3_n3 (h1.t.scale _) (h2.t.scale _) (h3.t.scale _)) (h1.t.scale _) e1 (n3_nz (h1.t.scale _) (h2.t.scale _) (h3.t.scale _) e1 e2 e3 (scale_ne h1 h2 p1 p2 d1) (scale_ne h1 h3 p1 p3 d2) (scale_ne h2 h3 p2 p3 d3))
theorem cT_cyc (h1 : Lr u l) (h2 : Lr v m) (h3 : Lr w k) : cT v w u m k l = cT u v w l m k := by
  unfold cT
  rw [Int.mul_comm k l, Int.mul_comm m l]
  have e := n3_cyc (h1.t.scale (m * k)) (h2.t.scale (l * k)) (h3.t.scale (l * m))
  rw [e]
  have on := (n3_on (h1.t.scale (m * k)) (h2.t.scale (l * k)) (h3.t.scale (l * m))).1
  have q : l * m * k = m * k * l := by grind
  have tn := T3_n3 (h1.t.scale (m * k)) (h2.t.scale (l * k)) (h3.t.scale (l * m))
  generalize n3 (scale (m * k) u) (scale (l * k) v) (scale (l * m) w) = N at *
  have t1 := h1.t.scale (m * k)
  have t2 := h2.t.scale (l * k)
  generalize scale (m * k) u = U at *
  generalize scale (l * k) v = V at *
  obtain ⟨a, b, c, rfl⟩ := tn
  obtain ⟨x, y, z, rfl⟩ := t1
  obtain ⟨p, q', r, rfl⟩ := t2
  simp only [dot] at on
  simp only [ct, ← q, on, Int.mul_comm m l]
theorem lz_row {N : List Int} {a b c w : Int} (f : T4 N) {j : Int} (hj : j ≠ 0) (h : lz N [j * a, j * b, j * c, j * w] = 0) : lz N [a, b, c, w] = 0 := by
  obtain ⟨x, y, z, d, rfl⟩ := f
  simp only [lz] at *
  have : x * (j * a) + y * (j * b) + z * (j * c) - d * (j * w) = j * (x * a + y * b + z * c - d * w) := by grind
  rw [this] at h
  exact (Int.mul_eq_zero.mp h).resolve_left hj
/-- the circle goes through its rays -/
theorem cT_on (h1 : Lr u l) (h2 : Lr v m) (h3 : Lr w k) (pos : 0 < lz (cT u v w l m k) (cT u v w l m k)) : ∀ a b c, u = [a, b, c] → lz (fu (cT u v w l m k)) [a, b, c, l] = 0 := by
  rintro a b c rfl
  have t4 := T4_cT (l := l) (m := m) (k := k) h1.t h2.t h3.t
  rw [fu_on t4 (T4_lit _ _ _ _) (lz_nz t4 pos)]
  have e1 := len_scale h1 (m * k)
  have q1 : l * (m * k) = l * m * k := by grind
  rw [q1] at e1
  have o := ct_on (T3_n3 (h1.t.scale (m * k)) (h2.t.scale (l * k)) (h3.t.scale (l * m))) (h1.t.scale (m * k)) e1 _ _ _ rfl
  have hj : m * k ≠ 0 := by have := Int.mul_pos h2.p h3.p; omega
  refine lz_row t4 hj ?_
  have q2 : m * k * l = l * m * k := by grind
  rw [q2]
  exact o
end
theorem Bd_mulA {a b : Nat} {i j : Int} (h : Bd a i) (k : Bd b j) : Bd (a + b) (i * j) := by
  show (i * j).natAbs < 2 ^ (a + b)
  rw [Int.natAbs_mul, Nat.pow_add]
  exact Nat.mul_lt_mul'' h k
theorem Bv_cT {u v w : List Int} {l m k : Int} (f : T3 u) (g : T3 v) (h : T3 w) (b1 : Bv 7 u) (b2 : Bv 7 v) (b3 : Bv 7 w) (b4 : Bd 7 l) (b5 : Bd 7 m) (b6 : Bd 7 k) : Bv 100 (cT u v w l m k) := by
  obtain ⟨a, b, c, rfl⟩ := f
  obtain ⟨x, y, z, rfl⟩ := g
  obtain ⟨p, q, r, rfl⟩ := h
  simp only [Bv_cons] at b1 b2 b3
  have sc : ∀ i j s : Int, Bd 7 i → Bd 7 j → Bd 7 s → Bd 21 (i * j * s) := fun i j s h1 h2 h3 => Bd_mulA (Bd_mulA h1 h2) h3
  have u1 := sc _ _ _ b5 b6 b1.1
  have u2 := sc _ _ _ b5 b6 b1.2.1
  have u3 := sc _ _ _ b5 b6 b1.2.2.1
  have v1 := sc _ _ _ b4 b6 b2.1
  have v2 := sc _ _ _ b4 b6 b2.2.1
  have v3 := sc _ _ _ b4 b6 b2.2.2.1
  have w1 := sc _ _ _ b4 b5 b3.1
  have w2 := sc _ _ _ b4 b5 b3.2.1
  have w3 := sc _ _ _ b4 b5 b3.2.2.1
  have lmk := sc _ _ _ b4 b5 b6
  have su : ∀ i j : Int, Bd 21 i → Bd 21 j → Bd 22 (i - j) := fun i j hi hj => Bd_sub hi hj
  have cr : ∀ i j k l : Int, Bd 22 i → Bd 22 j → Bd 22 k → Bd 22 l → Bd 45 (i * j - k * l) := fun i j k l a b c d => Bd_sub (Bd_mulA a b) (Bd_mulA c d)
  have n1 := cr _ _ _ _ (su _ _ v2 u2) (su _ _ w3 u3) (su _ _ v3 u3) (su _ _ w2 u2)
  have n2 := cr _ _ _ _ (su _ _ v3 u3) (su _ _ w1 u1) (su _ _ v1 u1) (su _ _ w3 u3)
  have n3 := cr _ _ _ _ (su _ _ v1 u1) (su _ _ w2 u2) (su _ _ v2 u2) (su _ _ w1 u1)
  have m1 : ∀ i j : Int, Bd 45 i → Bd 21 j → Bd 66 (i * j) := fun i j hi hj => Bd_mulA hi hj
  simp only [cT, scale, List.map_cons, List.map_nil, Vec.n3, cross, ct, Bv_cons]
  exact ⟨(m1 _ _ n1 lmk).mono (by decide), (m1 _ _ n2 lmk).mono (by decide), (m1 _ _ n3 lmk).mono (by decide), Bd_add (Bd_add ((m1 _ _ n1 u1).mono (by decide)) ((m1 _ _ n2 u2).mono (by decide))) ((m1 _ _ n3 u3).mono (by decide)), Bv_nil⟩
/-! the circle on the disc -/
def dN : List Int → List Int
  | [a, b, c, d] => [c + d, -2 * a, -2 * b, d - c]
  | _ => []
theorem T4_dN {N : List Int} (h : T4 N) : T4 (dN N) := by obtain ⟨a, b, c, d, rfl⟩ := h; exact ⟨_, _, _, _, rfl⟩
/-- what makes a row a circle of the disc -/
def dz : List Int → Int
  | [q, l, m, k] => l * l + m * m - 4 * q * k
  | _ => 0
theorem dz_dN {N : List Int} (h : T4 N) : dz (dN N) = 4 * lz N N := by
  obtain ⟨a, b, c, d, rfl⟩ := h
  simp only [dN, dz, lz]; grind
theorem dz_scale (k : Int) {N : List Int} (h : T4 N) : dz (scale k N) = k * k * dz N := by
  obtain ⟨a, b, c, d, rfl⟩ := h
  simp only [scale, List.map_cons, List.map_nil, dz]; grind
theorem dz_nz {N : List Int} (h : T4 N) (p : 0 < dz N) : ¬ Zer N := fun z => by
  obtain ⟨a, b, c, d, rfl⟩ := h
  simp only [Zer_cons] at z
  obtain ⟨rfl, rfl, rfl, rfl, _⟩ := z
  simp [dz] at p
theorem dz_fu {N : List Int} (h : T4 N) (p : 0 < dz N) : 0 < dz (fu N) := by
  obtain ⟨k, hk, e⟩ := scale_fu (dz_nz h p)
  have := dz_scale k (T4_fu h)
  rw [← e] at this
  rw [this] at p
  exact (pos_iff (sq_pos0 hk) _).mp p
/-- the sum of a point on a disc's circle -/
def ds : List Int → List Int → Int
  | [q, l, m, k], [x, y, w] => q * (x * x + y * y) + l * (x * w) + m * (y * w) + k * (w * w)
  | _, _ => 0
theorem ds_scaleL (j : Int) {N p : List Int} (h : T4 N) (f : T3 p) : ds (scale j N) p = j * ds N p := by
  obtain ⟨a, b, c, d, rfl⟩ := h
  obtain ⟨x, y, z, rfl⟩ := f
  simp only [scale, List.map_cons, List.map_nil, ds]; grind
theorem ds_scaleR (j : Int) {N p : List Int} (h : T4 N) (f : T3 p) : ds N (scale j p) = j * j * ds N p := by
  obtain ⟨a, b, c, d, rfl⟩ := h
  obtain ⟨x, y, z, rfl⟩ := f
  simp only [scale, List.map_cons, List.map_nil, ds]; grind
theorem ds_on {N : List Int} {x y z w : Int} (h : T4 N) (e : x * x + y * y + z * z = w * w) (o : lz N [x, y, z, w] = 0) : ds (dN N) [x, y, w + z] = 0 := by
  obtain ⟨a, b, c, d, rfl⟩ := h
  simp only [lz] at o
  simp only [dN, ds]
  have e' : x * x + y * y = (w + z) * (w - z) := by
    have : (w + z) * (w - z) = w * w - z * z := by grind
    rw [this, ← e]; omega
  have o' : a * x + b * y = d * w - c * z := by omega
  rw [e']
  have : (c + d) * ((w + z) * (w - z)) + -2 * a * (x * (w + z)) + -2 * b * (y * (w + z)) + (d - c) * ((w + z) * (w + z)) = (w + z) * ((c + d) * (w - z) - 2 * (a * x + b * y) + (d - c) * (w + z)) := by grind
  rw [this, o']
  have : (c + d) * (w - z) - 2 * (d * w - c * z) + (d - c) * (w + z) = 0 := by grind
  rw [this, Int.mul_zero]
theorem ds_fu {N p : List Int} (h : T4 N) (f : T3 p) (nz : ¬ Zer N) (o : ds N p = 0) : ds (fu N) p = 0 := by
  obtain ⟨k, hk, e⟩ := scale_fu nz
  have := ds_scaleL k (T4_fu h) f
  rw [← e, o] at this
  exact (Int.mul_eq_zero.mp this.symm).resolve_left hk
theorem ds_red {N p : List Int} (h : T4 N) (f : T3 p) (nz : ¬ Zer p) (o : ds N p = 0) : ds N (red p) = 0 := by
  obtain ⟨k, hk, e⟩ := scale_red_pos nz
  have := ds_scaleR k h (T3_red f)
  rw [← e, o] at this
  exact (Int.mul_eq_zero.mp this.symm).resolve_left (by have := Int.mul_pos hk hk; omega)
/-- how far a point is from the middle, squared, over its third number squared -/
theorem ds_far {q l m k x y w : Int} (o : ds [q, l, m, k] [x, y, w] = 0) {g a b c : Int} (e1 : -l = g * a) (e2 : -m = g * b) (e3 : 2 * q = g * c) : g * g * ((a * w - x * c) * (a * w - x * c) + (b * w - y * c) * (b * w - y * c)) = dz [q, l, m, k] * (w * w) := by
  simp only [ds, dz] at *
  have : g * g * ((a * w - x * c) * (a * w - x * c) + (b * w - y * c) * (b * w - y * c)) = (g * a * w - x * (g * c)) * (g * a * w - x * (g * c)) + (g * b * w - y * (g * c)) * (g * b * w - y * (g * c)) := by grind
  rw [this, ← e1, ← e2, ← e3]
  have : (-l * w - x * (2 * q)) * (-l * w - x * (2 * q)) + (-m * w - y * (2 * q)) * (-m * w - y * (2 * q)) = (l * l + m * m - 4 * q * k) * (w * w) + 4 * q * (q * (x * x + y * y) + l * (x * w) + m * (y * w) + k * (w * w)) := by grind
  rw [this, o]; omega
end Vec

set_option maxHeartbeats 2000000
/-! ### walks of any kind; whole roots; points of the disc -/
namespace L3
open L2 PySem PySem.Spec PyProof.Rows
section
variable {cf : Nat → List D → Store → Res D} {gl : Nat → Option D} {r : DEnv} {st : Store}
theorem loop_inv {k : IK} {its : List Ex} {v : Nat} {xs ds : List D} {body : List Sm} {s0 : Store} (P : Nat → DEnv → Store → Prop) (he : dens cf gl its r s0 = .ok ds s0) (hd : itemsOf s0 k ds = some xs) (hw : walked k ds = []) (h0 : P 0 r s0)
    (hs : ∀ i x r s, xs[i]? = some x → P i r s → ∃ r1 s1, denB cf gl body (r.set v (some x)) s = .go .nx r1 s1 ∧ P (i + 1) r1 s1) : ∃ r1 s1, denS cf gl (.loop k its (.nm v) body) r s0 = .go .nx r1 s1 ∧ P xs.length r1 s1 := by
  have e : denS cf gl (.loop k its (.nm v) body) r s0 = forL (walked k ds) (fun x r s => denB cf gl body (r.set v (some x)) s) xs r s0 := by
    simp only [denS_loop, denI, he, rbind_ok, hd, Option.map, rof_some, bindL_nm]
  rw [e, hw]
  exact forL_inv (ns := []) (xs := xs) P h0 fun i x r s hx hp => by
    obtain ⟨r1, s1, e, p⟩ := hs i x r s hx hp
    exact ⟨r1, s1, e, stillB_nil _ _, p⟩
end
end L3
namespace Vec
open L2 L3
/-- the whole root, if there is one -/
def rtD (S : Int) : D := if sqB S = true then .int ((PySem.Float64.isqrt S.toNat : Nat) : Int) else .non
theorem rtD_sq {w : Int} (h : 0 ≤ w) : rtD (w * w) = .int w := by
  unfold rtD
  rw [if_pos (sqB_of h rfl), isq_eq h rfl]
theorem rtD_pure (S : Int) : (rtD S).pure = true := by unfold rtD; split <;> simp
theorem isq_of {S F : Int} (h0 : 0 ≤ F) (h1 : F * F ≤ S) (h2 : S < (F + 1) * (F + 1)) : ((PySem.Float64.isqrt S.toNat : Nat) : Int) = F := by
  have s0 : 0 ≤ S := Int.le_trans (Int.mul_nonneg h0 h0) h1
  have e : PySem.Float64.isqrt S.toNat = F.toNat := by
    refine isq_at ?_ ?_
    · have : ((F.toNat * F.toNat : Nat) : Int) ≤ ((S.toNat : Nat) : Int) := by
        rw [Int.natCast_mul, Int.toNat_of_nonneg h0, Int.toNat_of_nonneg s0]; exact h1
      exact Int.ofNat_le.mp this
    · have : ((S.toNat : Nat) : Int) < (((F.toNat + 1) * (F.toNat + 1) : Nat) : Int) := by
        rw [Int.natCast_mul, Int.natCast_add, Int.toNat_of_nonneg h0, Int.toNat_of_nonneg s0]; exact h2
      exact Int.ofNat_lt.mp this
  rw [e, Int.toNat_of_nonneg h0]
theorem rtD_at {S F : Int} (h0 : 0 ≤ F) (h1 : F * F ≤ S) (h2 : S < (F + 1) * (F + 1)) : rtD S = if F * F = S then .int F else .non := by
  unfold rtD
  have e := isq_of h0 h1 h2
  have es : sqB S = decide (F * F = S) := by unfold sqB; rw [e]
  rw [es, e]
  by_cases q : F * F = S
  · simp [q]
  · simp [q]
/-! points -/
/-- the row of a point's ray -/
def pr : List Int → List Int
  | [x, y, w] => [2 * x * w, 2 * y * w, w * w - x * x - y * y]
  | _ => []
theorem T3_pr {p : List Int} (h : T3 p) : T3 (pr p) := by obtain ⟨x, y, w, rfl⟩ := h; exact ⟨_, _, _, rfl⟩
theorem pr_scale (k : Int) {p : List Int} (h : T3 p) : pr (scale k p) = scale (k * k) (pr p) := by
  obtain ⟨x, y, w, rfl⟩ := h
  simp only [scale, List.map_cons, List.map_nil, pr, List.cons.injEq, and_true]
  refine ⟨by grind, by grind, by grind⟩
theorem pr_len (x y w : Int) : dot (pr [x, y, w]) (pr [x, y, w]) = (w * w + x * x + y * y) * (w * w + x * x + y * y) := by
  simp only [pr, dot]; grind
/-- from the ray's row to the point's -/
def rp : List Int → Int → List Int
  | [x, y, z], l => [x, y, l + z]
  | _, _ => []
theorem T3_rp {p : List Int} {l : Int} (h : T3 p) : T3 (rp p l) := by obtain ⟨x, y, w, rfl⟩ := h; exact ⟨_, _, _, rfl⟩
theorem rp_scale (k l : Int) {p : List Int} (h : T3 p) : rp (scale k p) (k * l) = scale k (rp p l) := by
  obtain ⟨x, y, w, rfl⟩ := h
  simp only [scale, List.map_cons, List.map_nil, rp, List.cons.injEq, and_true]
  exact ⟨trivial, trivial, by grind⟩
theorem rp_pr (x y w : Int) : rp (pr [x, y, w]) (w * w + x * x + y * y) = scale (2 * w) [x, y, w] := by
  simp only [pr, rp, scale, List.map_cons, List.map_nil, List.cons.injEq, and_true]
  refine ⟨by grind, by grind, by grind⟩
theorem pr_rp {x y z l : Int} (e : x * x + y * y + z * z = l * l) : pr (rp [x, y, z] l) = scale (2 * (l + z)) [x, y, z] := by
  simp only [pr, rp, scale, List.map_cons, List.map_nil, List.cons.injEq, and_true]
  refine ⟨by grind, by grind, ?_⟩
  have : (l + z) * (l + z) - x * x - y * y = l * l + 2 * l * z + z * z + z * z - (x * x + y * y + z * z) := by grind
  rw [this, e]; grind
theorem rot_rp {x y z l : Int} {t : List Int} (h : T2 t) : rot (rp [x, y, z] l) t = rp (rot [x, y, z] t) (nm t * l) := by
  obtain ⟨a, b, rfl⟩ := h
  simp only [rp, rot, nm, List.cons.injEq, and_true]
  refine ⟨trivial, trivial, by grind⟩
/-- a length goes with its row -/
theorem len_red {u : List Int} {L : Int} (f : T3 u) (nz : ¬ Zer u) (e : dot u u = L * L) (hL : 0 ≤ L) : ∃ k l : Int, 0 < k ∧ u = scale k (red u) ∧ L = k * l ∧ 0 < l ∧ Lr (red u) l := by
  obtain ⟨k, hk, ek⟩ := scale_red_pos nz
  have tr := T3_red f
  have g := gcdL_red nz
  have q : dot u u = k * k * dot (red u) (red u) := by
    conv => lhs; rw [ek]
    obtain ⟨a, b, c, e'⟩ := tr
    rw [e']
    simp only [scale, List.map_cons, List.map_nil, dot]; grind
  have pd := dot_pos f nz
  have hL2 : 0 < L := by
    rcases Int.lt_or_eq_of_le hL with h | h
    · exact h
    · rw [← h] at e; simp at e; omega
  -- k divides L
  have dv : k.natAbs ∣ L.natAbs := by
    refine sq_dvd ?_
    rw [← Int.natAbs_mul, ← Int.natAbs_mul, ← e, q]
    exact Int.natAbs_dvd_natAbs.mpr (Int.dvd_mul_right _ _)
  obtain ⟨l, el⟩ := Int.natAbs_dvd_natAbs.mp dv
  have lp : 0 < l := by
    rw [el] at hL2
    exact (pos_iff hk _).mp hL2
  refine ⟨k, l, hk, ek, el, lp, tr, g, ?_, lp⟩
  rw [q, el] at e
  have kk : k * k ≠ 0 := by have := Int.mul_pos hk hk; omega
  exact prod_cancel kk (by rw [e]; grind)
end Vec

set_option maxHeartbeats 2000000
/-! ### sides of circles -/
namespace Vec
open L2 L3
theorem sq_lt_of {x y : Int} (h1 : -y < x) (h2 : x < y) : x * x < y * y := by
  have := Int.mul_pos (show 0 < y - x by omega) (show 0 < y + x by omega)
  have e : (y - x) * (y + x) = y * y - x * x := by grind
  omega
theorem dN_scale (k : Int) {N : List Int} (h : T4 N) : dN (scale k N) = scale k (dN N) := by
  obtain ⟨a, b, c, d, rfl⟩ := h
  simp only [scale, List.map_cons, List.map_nil, dN, List.cons.injEq, and_true]
  refine ⟨by grind, by grind, by grind, by grind⟩
def sN : List Int → List Int
  | [q, l, m, k] => [-l, -m, q - k, q + k]
  | _ => []
theorem T4_sN {N : List Int} (h : T4 N) : T4 (sN N) := by obtain ⟨a, b, c, d, rfl⟩ := h; exact ⟨_, _, _, _, rfl⟩
theorem sN_scale (k : Int) {N : List Int} (h : T4 N) : sN (scale k N) = scale k (sN N) := by
  obtain ⟨a, b, c, d, rfl⟩ := h
  simp only [scale, List.map_cons, List.map_nil, sN, List.cons.injEq, and_true]
  refine ⟨by grind, by grind, by grind, by grind⟩
theorem sN_dN {N : List Int} (h : T4 N) : sN (dN N) = scale 2 N := by
  obtain ⟨a, b, c, d, rfl⟩ := h
  simp only [scale, List.map_cons, List.map_nil, sN, dN, List.cons.injEq, and_true]
  refine ⟨by grind, by grind, by grind, by grind⟩
theorem lz_sN {N : List Int} (h : T4 N) : lz (sN N) (sN N) = dz N := by
  obtain ⟨a, b, c, d, rfl⟩ := h
  simp only [sN, lz, dz]; grind
/-- a ray's level -/
def d3 : List Int → List Int → Int
  | [a, b, c, _], [x, y, z] => a * x + b * y + c * z
  | _, _ => 0
/-- the side of a circle, squared with its signs -/
def sdc : List Int → List Int → Int
  | [a, b, c, d], [x, y, z] => sq (a * x + b * y + c * z) - sq d * (x * x + y * y + z * z)
  | _, _ => 0
theorem sq_mulS (k z : Int) : sq (k * z) = sq k * sq z := by
  rcases Int.lt_trichotomy k 0 with h | h | h
  · have h1 : k * z = -((-k) * z) := by grind
    have h2 : k = -(-k) := by omega
    rw [h1, sq_neg, sq_mul (by omega)]
    conv => rhs; rw [h2, sq_neg]
    have : sq (-k) = (-k) * (-k) := by unfold sq; rw [if_neg (by omega)]
    rw [this]; grind
  · subst h; simp [sq]
  · rw [sq_mul h]
    have : sq k = k * k := by unfold sq; rw [if_neg (by omega)]
    rw [this]
theorem sdc_scale (k : Int) {N r : List Int} (h : T4 N) (f : T3 r) : sdc (scale k N) r = sq k * sdc N r := by
  obtain ⟨a, b, c, d, rfl⟩ := h
  obtain ⟨x, y, z, rfl⟩ := f
  simp only [scale, List.map_cons, List.map_nil, sdc]
  have : k * a * x + k * b * y + k * c * z = k * (a * x + b * y + c * z) := by grind
  rw [this, sq_mulS, sq_mulS]; grind
theorem sdc_scaleR {k : Int} (hk : 0 < k) {N r : List Int} (h : T4 N) (f : T3 r) : sdc N (scale k r) = k * k * sdc N r := by
  obtain ⟨a, b, c, d, rfl⟩ := h
  obtain ⟨x, y, z, rfl⟩ := f
  simp only [scale, List.map_cons, List.map_nil, sdc]
  have : a * (k * x) + b * (k * y) + c * (k * z) = k * (a * x + b * y + c * z) := by grind
  rw [this, sq_mul hk]; grind
theorem sg_mul (a b : Int) : sg (a * b) = sg a * sg b := by
  rcases Int.lt_trichotomy a 0 with h | h | h
  · have e : a * b = -((-a) * b) := by grind
    rw [e, sg_neg, sg_mul_pos (by omega)]
    have : sg a = -1 := by unfold sg; rw [if_neg (by omega), if_pos h]
    rw [this]; omega
  · subst h; simp [sg]
  · rw [sg_mul_pos h]
    have : sg a = 1 := by unfold sg; rw [if_pos h]
    rw [this]; omega
theorem sg_sqz (z : Int) : sg (sq z) = sg z := by
  rcases Int.lt_trichotomy z 0 with h | h | h
  · have : sq z = z * -z := by unfold sq; rw [if_pos h]
    rw [this, sg_mul]
    have h1 : sg z = -1 := by unfold sg; rw [if_neg (by omega), if_pos h]
    have h2 : sg (-z) = 1 := by unfold sg; rw [if_pos (by omega)]
    rw [h1, h2]; rfl
  · subst h; rfl
  · have : sq z = z * z := by unfold sq; rw [if_neg (by omega)]
    rw [this, sg_mul]
    have h1 : sg z = 1 := by unfold sg; rw [if_pos h]
    rw [h1]; rfl
theorem sg_sub_sq (x y : Int) : sg (sq x - sq y) = sg (x - y) := by
  rcases Int.lt_trichotomy x y with h | h | h
  · have := sq_lt.mpr h
    unfold sg; rw [if_neg (by omega), if_pos (by omega), if_neg (by omega), if_pos (by omega)]
  · subst h; simp
  · have := sq_lt.mpr h
    unfold sg; rw [if_pos (by omega), if_pos (by omega)]
/-- at a whole-long ray -/
theorem sdc_long {N : List Int} {x y z w : Int} (h : T4 N) (e : x * x + y * y + z * z = w * w) (wp : 0 < w) : sg (sdc N [x, y, z]) = sg (lz N [x, y, z, w]) := by
  obtain ⟨a, b, c, d, rfl⟩ := h
  simp only [sdc, lz]
  rw [e, show sq d * (w * w) = sq (d * w) by rw [sq_mulS]; congr 1; unfold sq; rw [if_neg (by omega)], sg_sub_sq]
/-- a number below, 0 or above, of a sum of roots -/
theorem ros {p q v : Int} (hv : 0 < v) : (if sg p = 0 ∨ sg p = sg q then (if sg p = 0 then sg q else sg p) else if sg q = 0 ∨ 0 < p * p - q * q * v then sg p else if p * p - q * q * v = 0 then 0 else sg q) = sg (sq p + sq q * v) := by
  have sp : ∀ z : Int, 0 < z → sg z = 1 := fun z h => by unfold sg; rw [if_pos h]
  have sn : ∀ z : Int, z < 0 → sg z = -1 := fun z h => by unfold sg; rw [if_neg (by omega), if_pos h]
  have qp : ∀ z : Int, 0 < z → sq z = z * z := fun z h => by unfold sq; rw [if_neg (by omega)]
  have qn : ∀ z : Int, z < 0 → sq z = -(z * z) := fun z h => by unfold sq; rw [if_pos h]; grind
  have s0 : sg 0 = 0 := rfl
  have q0 : sq 0 = 0 := rfl
  rcases Int.lt_trichotomy p 0 with hp | hp | hp
  · have pp : 0 < p * p := Int.mul_pos_of_neg_of_neg hp hp
    rcases Int.lt_trichotomy q 0 with hq | hq | hq
    · have qq : 0 < q * q * v := Int.mul_pos (Int.mul_pos_of_neg_of_neg hq hq) hv
      rw [sn p hp, sn q hq, qn p hp, qn q hq]
      have : -(p * p) + -(q * q) * v = -(p * p) - q * q * v := by grind
      rw [this, sn _ (by omega)]; rfl
    · subst hq
      rw [sn p hp, s0, q0, qn p hp]
      have : -(p * p) + 0 * v = -(p * p) := by omega
      rw [this, sn _ (by omega)]; rfl
    · rw [sn p hp, sp q hq, qn p hp, qp q hq]
      rcases Int.lt_trichotomy (p * p) (q * q * v) with h | h | h
      · rw [sp (-(p * p) + q * q * v) (by omega), if_neg (by decide), if_neg (by omega), if_neg (by omega)]
      · rw [show -(p * p) + q * q * v = 0 by omega, s0, if_neg (by decide), if_neg (by omega), if_pos (by omega)]
      · rw [sn (-(p * p) + q * q * v) (by omega), if_neg (by decide), if_pos (by omega)]
  · subst hp
    rw [s0, q0, if_pos (.inl rfl), if_pos rfl, show (0 : Int) + sq q * v = v * sq q by grind, sg_mul_pos hv, sg_sqz]
  · have pp : 0 < p * p := Int.mul_pos hp hp
    rcases Int.lt_trichotomy q 0 with hq | hq | hq
    · rw [sp p hp, sn q hq, qp p hp, qn q hq]
      have e : p * p + -(q * q) * v = p * p - q * q * v := by grind
      rw [e]
      rcases Int.lt_trichotomy (p * p) (q * q * v) with h | h | h
      · rw [sn (p * p - q * q * v) (by omega), if_neg (by decide), if_neg (by omega), if_neg (by omega)]
      · rw [show p * p - q * q * v = 0 by omega, s0, if_neg (by decide), if_neg (by omega), if_pos rfl]
      · rw [sp (p * p - q * q * v) (by omega), if_neg (by decide), if_pos (by omega)]
    · subst hq
      rw [sp p hp, s0, q0, qp p hp]
      have : p * p + 0 * v = p * p := by omega
      rw [this, sp _ pp]; rfl
    · have qq : 0 < q * q * v := Int.mul_pos (Int.mul_pos hq hq) hv
      rw [sp p hp, sp q hq, qp p hp, qp q hq, sp _ (by omega)]; rfl
/-- how a row stands to its form -/
theorem fu_sign {u : List Int} (nz : ¬ Zer u) : ∃ g : Int, 0 < g ∧ u = scale (g * (if fu u = red u then 1 else -1)) (fu u) := by
  obtain ⟨g, hg, e⟩ := scale_red_pos nz
  rcases fu_or u with q | q
  · rw [if_pos q]
    exact ⟨g, hg, by rw [q, Int.mul_one]; exact e⟩
  · have ne : ¬ fu u = red u := fun z => by
      rw [q] at z
      have h := red_zer nz
      generalize red u = R at *
      apply h
      intro i hi
      have : ∀ (l : List Int), neg l = l → ∀ i ∈ l, i = 0 := fun l hl i hi => by
        induction l with
        | nil => cases hi
        | cons a l ih =>
          simp only [neg, List.map_cons, List.cons.injEq] at hl
          rcases List.mem_cons.mp hi with rfl | hi
          · omega
          · exact ih hl.2 hi
      exact this R z i hi
    rw [if_neg ne]
    refine ⟨g, hg, ?_⟩
    rw [q, show g * -1 = -g by omega, scale_neg, neg_neg]; exact e
theorem ds_dN {N : List Int} {x y z w : Int} (h : T4 N) (e : x * x + y * y + z * z = w * w) : ds (dN N) (rp [x, y, z] w) = -(2 * (w + z)) * lz N [x, y, z, w] := by
  obtain ⟨a, b, c, d, rfl⟩ := h
  simp only [lz, dN, rp, ds]
  have e' : x * x + y * y = (w + z) * (w - z) := by
    have : (w + z) * (w - z) = w * w - z * z := by grind
    rw [this, ← e]; omega
  rw [e']; grind
/-- the side on the disc is the one in the sky -/
theorem side_both {u : List Int} {x y z w : Int} (h : T4 u) (p : 0 < lz u u) (e : x * x + y * y + z * z = w * w) (wp : 0 < w) (k : 0 < w + z) : sg (ds (fu (dN u)) (red (rp [x, y, z] w))) = sg (sdc (fu u) [x, y, z]) * (if fu u = red u then 1 else -1) * (if fu (dN u) = red (dN u) then -1 else 1) := by
  have nz := lz_nz h p
  have td := T4_dN h
  have nd := dz_nz td (by rw [dz_dN h]; omega)
  obtain ⟨g, hg, e1⟩ := fu_sign nz
  obtain ⟨f, hf, e2⟩ := fu_sign nd
  have nr : ¬ Zer (rp [x, y, z] w) := by simp [rp]; omega
  obtain ⟨j, hj, e3⟩ := scale_red_pos nr
  have main := ds_dN h e
  have l1 : ds (dN u) (rp [x, y, z] w) = f * (if fu (dN u) = red (dN u) then 1 else -1) * (j * j * ds (fu (dN u)) (red (rp [x, y, z] w))) := by
    conv => lhs; rw [e2, e3]
    rw [ds_scaleL _ (T4_fu td) ((T3_red (T3_rp (T3_lit x y z))).scale j), ds_scaleR _ (T4_fu td) (T3_red (T3_rp (T3_lit x y z)))]
  have l2 : lz u [x, y, z, w] = g * (if fu u = red u then 1 else -1) * lz (fu u) [x, y, z, w] := by
    have := lz_scale (g * (if fu u = red u then 1 else -1)) 1 (T4_fu h) (T4_lit x y z w)
    rw [← e1] at this
    have e1' : scale 1 [x, y, z, w] = [x, y, z, w] := by simp [scale]
    rwa [e1', Int.mul_one] at this
  rw [l1, l2] at main
  have s := congrArg sg main
  rw [sdc_long (T4_fu h) e wp]
  generalize ds (fu (dN u)) (red (rp [x, y, z] w)) = A at *
  generalize lz (fu u) [x, y, z, w] = B at *
  have pos : ∀ i : Int, 0 < i → sg i = 1 := fun i h => by unfold sg; rw [if_pos h]
  rw [sg_mul, sg_mul, sg_mul, sg_mul, sg_mul, sg_mul, sg_mul, sg_neg, sg_mul, pos f hf, pos j hj, pos g hg, pos (w + z) k, pos 2 (by decide)] at s
  have s1 : sg 1 = 1 := rfl
  have s2 : sg (-1) = -1 := rfl
  by_cases q1 : fu u = red u
  · by_cases q2 : fu (dN u) = red (dN u)
    · simp only [q1, q2, if_true, s1] at s ⊢; omega
    · simp only [q1, q2, if_true, if_false, s1, s2] at s ⊢; omega
  · by_cases q2 : fu (dN u) = red (dN u)
    · simp only [q1, q2, if_true, if_false, s1, s2] at s ⊢; omega
    · simp only [q1, q2, if_false, s1, s2] at s ⊢; omega
/-- a circle turned -/
def rot4 : List Int → List Int → List Int
  | [a, b, c, d], [p, q] => [(q * q - p * p) * a - 2 * p * q * b, 2 * p * q * a + (q * q - p * p) * b, (p * p + q * q) * c, (p * p + q * q) * d]
  | _, _ => []
theorem T4_rot4 {N t : List Int} (h : T4 N) (g : T2 t) : T4 (rot4 N t) := by
  obtain ⟨a, b, c, d, rfl⟩ := h
  obtain ⟨p, q, rfl⟩ := g
  exact ⟨_, _, _, _, rfl⟩
theorem rot4_scale (k : Int) {N t : List Int} (h : T4 N) (g : T2 t) : rot4 (scale k N) t = scale k (rot4 N t) := by
  obtain ⟨a, b, c, d, rfl⟩ := h
  obtain ⟨p, q, rfl⟩ := g
  simp only [scale, List.map_cons, List.map_nil, rot4, List.cons.injEq, and_true]
  refine ⟨by grind, by grind, by grind, by grind⟩
theorem lz_rot4 {N t : List Int} (h : T4 N) (g : T2 t) : lz (rot4 N t) (rot4 N t) = nm t * nm t * lz N N := by
  obtain ⟨a, b, c, d, rfl⟩ := h
  obtain ⟨p, q, rfl⟩ := g
  simp only [rot4, lz, nm]; grind
theorem sdc_rot {N r t : List Int} (h : T4 N) (f : T3 r) (g : T2 t) (n0 : 0 < nm t) : sdc (rot4 N t) (rot r t) = nm t * nm t * (nm t * nm t) * sdc N r := by
  obtain ⟨a, b, c, d, rfl⟩ := h
  obtain ⟨x, y, z, rfl⟩ := f
  obtain ⟨p, q, rfl⟩ := g
  simp only [rot4, rot, sdc]
  have e1 : ((q * q - p * p) * a - 2 * p * q * b) * ((q * q - p * p) * x - 2 * p * q * y) + (2 * p * q * a + (q * q - p * p) * b) * (2 * p * q * x + (q * q - p * p) * y) + (p * p + q * q) * c * ((p * p + q * q) * z) = nm [p, q] * nm [p, q] * (a * x + b * y + c * z) := by simp only [nm]; grind
  have e2 : ((q * q - p * p) * x - 2 * p * q * y) * ((q * q - p * p) * x - 2 * p * q * y) + (2 * p * q * x + (q * q - p * p) * y) * (2 * p * q * x + (q * q - p * p) * y) + (p * p + q * q) * z * ((p * p + q * q) * z) = nm [p, q] * nm [p, q] * (x * x + y * y + z * z) := by simp only [nm]; grind
  have e3 : (p * p + q * q) * d = nm [p, q] * d := rfl
  rw [e1, e2, e3, sq_mul (Int.mul_pos n0 n0), sq_mul n0]; grind
end Vec

set_option maxHeartbeats 2000000
/-! ### signs of sums of two roots, any weights -/
namespace Vec
open L2 L3
theorem sg_cases (z : Int) : sg z = 1 ∨ sg z = 0 ∨ sg z = -1 := by
  unfold sg; split
  · exact .inl rfl
  · split
    · exact .inr (.inr rfl)
    · exact .inr (.inl rfl)
theorem sg_lt {z : Int} : sg z < 0 ↔ z < 0 := by
  unfold sg; split
  · omega
  · split <;> omega
theorem mul_self0 (i : Int) : 0 ≤ i * i := by
  rcases Int.le_total 0 i with q | q
  · exact Int.mul_nonneg q q
  · exact Int.mul_nonneg_of_nonpos_of_nonpos q q
theorem mul_self_z {i : Int} : i * i = 0 ↔ i = 0 := by
  constructor
  · intro h; rcases Int.mul_eq_zero.mp h with h | h <;> exact h
  · rintro rfl; rfl
theorem sq_sg (p : Int) : sq p = sg p * (p * p) := by
  unfold sq sg
  split
  · rw [if_neg (by omega)]; grind
  · rcases Int.lt_or_eq_of_le (show 0 ≤ p by omega) with h | h
    · rw [if_pos h]; omega
    · subst h; simp
/-- the program's way, in one -/
def sumS (f s m : Int) : Int := if f = 0 ∨ f = s then (if f = 0 then s else f) else if s = 0 ∨ 0 < m then f else if m = 0 then 0 else s
theorem ros_core {f s A B : Int} (hf : f = 1 ∨ f = 0 ∨ f = -1) (hs : s = 1 ∨ s = 0 ∨ s = -1) (hA : 0 ≤ A) (hB : 0 ≤ B) (h1 : f = 0 ↔ A = 0) (h2 : s = 0 ↔ B = 0) : sumS f s (A - B) = sg (f * A + s * B) := by
  unfold sumS sg
  rcases hf with rfl | rfl | rfl <;> rcases hs with rfl | rfl | rfl <;> simp at h1 h2 ⊢ <;> (repeat' split) <;> omega
/-- the sign of p √u + q √v -/
def rt2 (p u q v : Int) : Int := sg (sq p * u + sq q * v)
theorem rosG {p u q v : Int} (hu : 0 ≤ u) (hv : 0 ≤ v) : sumS (if 0 < u then sg p else 0) (if 0 < v then sg q else 0) (p * p * u - q * q * v) = rt2 p u q v := by
  have key : ∀ p u : Int, 0 ≤ u → ((if 0 < u then sg p else 0) = 1 ∨ (if 0 < u then sg p else 0) = 0 ∨ (if 0 < u then sg p else 0) = -1) ∧ ((if 0 < u then sg p else 0) = 0 ↔ p * p * u = 0) ∧ (if 0 < u then sg p else 0) * (p * p * u) = sq p * u := by
    intro p u hu
    rcases Int.lt_or_eq_of_le hu with h | h
    · rw [if_pos h]
      refine ⟨sg_cases p, ?_, by rw [sq_sg]; grind⟩
      rw [sg_zero]
      constructor
      · rintro rfl; simp
      · intro z
        rcases Int.mul_eq_zero.mp z with z | z
        · exact mul_self_z.mp z
        · omega
    · subst h
      rw [if_neg (by decide)]
      simp
  obtain ⟨a1, a2, a3⟩ := key p u hu
  obtain ⟨b1, b2, b3⟩ := key q v hv
  rw [ros_core a1 b1 (Int.mul_nonneg (mul_self0 p) hu) (Int.mul_nonneg (mul_self0 q) hv) a2 b2, a3, b3]; rfl
theorem rt2_cases (p u q v : Int) : rt2 p u q v = 1 ∨ rt2 p u q v = 0 ∨ rt2 p u q v = -1 := sg_cases _
theorem rt2_comm (p u q v : Int) : rt2 p u q v = rt2 q v p u := by unfold rt2; rw [Int.add_comm]
theorem rt2_mul {k : Int} (hk : 0 ≤ k) (p u q v : Int) : rt2 p (u * k) q (v * k) = if 0 < k then rt2 p u q v else 0 := by
  unfold rt2
  have : sq p * (u * k) + sq q * (v * k) = k * (sq p * u + sq q * v) := by grind
  rw [this]
  split
  · rename_i h; exact sg_mul_pos h _
  · have : k = 0 := by omega
    subst this; simp [sg]
/-- the last choice: two that are not alike, and which is the greater -/
theorem sumS_opp {f s m : Int} (hf : f = 1 ∨ f = 0 ∨ f = -1) (hs : s = 1 ∨ s = 0 ∨ s = -1) (hm : m = 1 ∨ m = 0 ∨ m = -1) (h : f * s < 0) : sumS f s m = f * m := by
  unfold sumS
  rcases hf with rfl | rfl | rfl <;> rcases hs with rfl | rfl | rfl <;> rcases hm with rfl | rfl | rfl <;> simp at h ⊢
/-- the sign of a sum of four roots -/
def F4 (p q r t n d e : Int) : Int :=
  let f := rt2 p 1 t (d * e)
  let s := if 0 < n then rt2 q d r e else 0
  if f = 0 ∨ s = 0 ∨ f = s then (if f ≠ 0 then f else s) else sumS f s (rt2 (p * p + t * t * d * e - n * (q * q * d + r * r * e)) 1 (2 * (p * t - n * q * r)) (d * e))
/-- the law's way -/
theorem F4_law (p q r t n d e : Int) (hn : 0 ≤ n) : F4 p q r t n d e = (let f := rt2 p 1 t (d * e); let s := rt2 q (d * n) r (e * n); if 0 ≤ f * s then (if f ≠ 0 then f else s) else f * rt2 (p * p + t * t * d * e - n * (q * q * d + r * r * e)) 1 (2 * (p * t - n * q * r)) (d * e)) := by
  unfold F4
  simp only [rt2_mul hn]
  have hf := rt2_cases p 1 t (d * e)
  have hs : (if 0 < n then rt2 q d r e else 0) = 1 ∨ (if 0 < n then rt2 q d r e else 0) = 0 ∨ (if 0 < n then rt2 q d r e else 0) = -1 := by
    split
    · exact rt2_cases _ _ _ _
    · exact .inr (.inl rfl)
  have hm := rt2_cases (p * p + t * t * d * e - n * (q * q * d + r * r * e)) 1 (2 * (p * t - n * q * r)) (d * e)
  generalize rt2 p 1 t (d * e) = f at *
  generalize (if 0 < n then rt2 q d r e else 0) = s at *
  generalize rt2 (p * p + t * t * d * e - n * (q * q * d + r * r * e)) 1 (2 * (p * t - n * q * r)) (d * e) = m at *
  unfold sumS
  rcases hf with rfl | rfl | rfl <;> rcases hs with rfl | rfl | rfl <;> rcases hm with rfl | rfl | rfl <;> simp
end Vec

set_option maxHeartbeats 2000000
/-! ### moments: hours and edges, their order -/
namespace Vec
open L2 L3
def aN (n : Int) : Int := if n < 0 then -n else n
theorem aN0 (n : Int) : 0 ≤ aN n := by unfold aN; split <;> omega
inductive Mo
  | hr (p q : Int)
  | ed (a b c w : Int)
def eN (n m a b c : Int) : Int := (a * a + b * b) * (m - aN n) - c * c * aN n
namespace Mo
def val : Mo → D
  | .hr p q => tpl [p, q]
  | .ed a b c w => .tup [tpl [a, b, c], .int w]
def ok (n m : Int) : Mo → Prop
  | .hr p q => gcdL [p, q] = 1
  | .ed a b c w => gcdL [a, b, c] = 1 ∧ (w = 1 ∨ w = -1) ∧ 0 < eN n m a b c
def u0 : Mo → Int
  | .hr p _ => p
  | .ed _ b _ w => w * b
def u1 : Mo → Int
  | .hr _ q => q
  | .ed a _ _ w => -(w * a)
def d (n m : Int) : Mo → Int
  | .hr _ _ => 1
  | .ed a b c _ => eN n m a b c
def v0 (n : Int) : Mo → Int
  | .hr _ _ => 0
  | .ed a _ c _ => -(a * (c * sg n))
def v1 (n : Int) : Mo → Int
  | .hr _ _ => 0
  | .ed _ b c _ => -(b * (c * sg n))
end Mo
def mS0 (n m : Int) (x : Mo) : Int := rt2 x.u0 (x.d n m) (x.v0 n) (aN n)
def mS1 (n m : Int) (x : Mo) : Int := rt2 x.u1 (x.d n m) (x.v1 n) (aN n)
theorem rt2_zero {p u q v : Int} (hu : 0 ≤ u) (hv : 0 ≤ v) : rt2 p u q v = 0 → p * p * u = q * q * v ∧ (sg p * sg q ≤ 0 ∨ p * p * u = 0) := by
  intro h
  unfold rt2 at h
  rw [sg_zero, sq_sg, sq_sg] at h
  have hA := Int.mul_nonneg (mul_self0 p) hu
  have hB := Int.mul_nonneg (mul_self0 q) hv
  have e : sg p * (p * p) * u + sg q * (q * q) * v = sg p * (p * p * u) + sg q * (q * q * v) := by grind
  rw [e] at h
  have zp : sg p = 0 → p * p * u = 0 := fun z => by rw [sg_zero] at z; subst z; simp
  have zq : sg q = 0 → q * q * v = 0 := fun z => by rw [sg_zero] at z; subst z; simp
  generalize p * p * u = A at *
  generalize q * q * v = B at *
  rcases sg_cases p with h1 | h1 | h1 <;> rcases sg_cases q with h2 | h2 | h2 <;> simp only [h1, h2] at h zp zq ⊢ <;> simp at zp zq ⊢ <;> omega
/-- no moment's two parts are both nothing -/
theorem S_nz {n m : Int} {x : Mo} (h : x.ok n m) : ¬ (mS0 n m x = 0 ∧ mS1 n m x = 0) := by
  rintro ⟨h0, h1⟩
  cases x with
  | hr p q =>
    simp only [mS0, mS1, Mo.u0, Mo.u1, Mo.d, Mo.v0, Mo.v1, rt2] at h0 h1
    rw [sg_zero] at h0 h1
    have e0 : sq 0 = 0 := rfl
    rw [e0] at h0 h1
    have z : ∀ i : Int, sq i * 1 + 0 * aN n = 0 → i = 0 := fun i hi => by
      have : sq i = 0 := by omega
      have := congrArg sg this
      rw [sg_sqz] at this
      exact sg_zero.mp this
    have a := z p h0
    have b := z q h1
    subst a b
    simp [Mo.ok, gcdL] at h
  | ed a b c w =>
    obtain ⟨_, hw, hd⟩ := h
    have hd' := hd
    obtain ⟨q1, r1⟩ := rt2_zero (Int.le_of_lt hd) (aN0 n) h0
    obtain ⟨q2, r2⟩ := rt2_zero (Int.le_of_lt hd) (aN0 n) h1
    simp only [Mo.u0, Mo.u1, Mo.v0, Mo.v1, Mo.d] at q1 q2 r1 r2
    have w2 : w * w = 1 := by rcases hw with rfl | rfl <;> rfl
    have e1 : w * b * (w * b) = b * b := by have : w * b * (w * b) = (w * w) * (b * b) := by grind
                                            rw [this, w2]; omega
    have e2 : -(w * a) * -(w * a) = a * a := by have : -(w * a) * -(w * a) = (w * w) * (a * a) := by grind
                                                rw [this, w2]; omega
    rw [e1] at q1 r1
    rw [e2] at q2 r2
    have hN : ∀ i : Int, i ≠ 0 → 0 < i * i := fun i hi => sq_pos0 hi
    generalize hE : eN n m a b c = E at *
    generalize hF : aN n = F at *
    have hF0 : 0 ≤ F := by rw [← hF]; exact aN0 n
    have hE0 : a * a + b * b = 0 → False := by
      intro z
      have : E = -(c * c * F) := by rw [← hE, ← hF]; unfold eN; rw [z]; omega
      have := Int.mul_nonneg (mul_self0 c) hF0
      omega
    have aa := mul_self0 a
    have bb := mul_self0 b
    have zE : ∀ i : Int, i * E = 0 → i = 0 := fun i hi => by
      rcases Int.mul_eq_zero.mp hi with h | h
      · exact h
      · omega
    have hb : b ≠ 0 := by
      rintro rfl
      have : a * a = 0 := zE _ (by rw [q2]; simp)
      exact hE0 (by rw [this]; rfl)
    have ha : a ≠ 0 := by
      rintro rfl
      have : b * b = 0 := zE _ (by rw [q1]; simp)
      exact hE0 (by rw [this]; rfl)
    have a2 := sq_pos0 ha
    have b2 := sq_pos0 hb
    have n1 : b * b * E ≠ 0 := fun z => by have := zE _ z; omega
    have n2 : a * a * E ≠ 0 := fun z => by have := zE _ z; omega
    have hcs : c * sg n ≠ 0 := by
      intro z
      rw [z] at q1
      apply n1; rw [q1]; simp
    have r1 := r1.resolve_right n1
    have r2 := r2.resolve_right n2
    generalize c * sg n = k at *
    rw [sg_mul, sg_neg, sg_mul] at r1
    rw [sg_neg, sg_mul, sg_neg, sg_mul] at r2
    have ww : sg w ≠ 0 := by rw [Ne, sg_zero]; omega
    have wa : sg a ≠ 0 := by rw [Ne, sg_zero]; exact ha
    have wb : sg b ≠ 0 := by rw [Ne, sg_zero]; exact hb
    have wk : sg k ≠ 0 := by rw [Ne, sg_zero]; exact hcs
    rcases sg_cases w with h1 | h1 | h1 <;> rcases sg_cases a with h2 | h2 | h2 <;> rcases sg_cases b with h3 | h3 | h3 <;> rcases sg_cases k with h4 | h4 | h4 <;> rw [h1, h2, h3, h4] at r1 r2 <;> first | contradiction | omega
/-- which half, as the law tells -/
def fh (n m : Int) (x : Mo) : Prop := mS1 n m x < 0 ∨ (mS1 n m x = 0 ∧ mS0 n m x < 0)
instance (n m : Int) (x : Mo) : Decidable (fh n m x) := inferInstanceAs (Decidable (_ ∨ _))
/-- as the program tells -/
def hf (n m : Int) (x : Mo) : Int := if mS1 n m x = 0 then (if 0 < mS0 n m x then 1 else 0) else if 0 < mS1 n m x then 1 else 0
theorem hf_fh {n m : Int} {x : Mo} (h : x.ok n m) : hf n m x = if fh n m x then 0 else 1 := by
  have := S_nz h
  have h1 := sg_cases
  unfold hf
  by_cases k : mS1 n m x = 0
  · rw [if_pos k]
    by_cases k1 : 0 < mS0 n m x
    · rw [if_pos k1, if_neg (show ¬ fh n m x by unfold fh; omega)]
    · rw [if_neg k1, if_pos (show fh n m x by unfold fh; omega)]
  · rw [if_neg k]
    by_cases k1 : 0 < mS1 n m x
    · rw [if_pos k1, if_neg (show ¬ fh n m x by unfold fh; omega)]
    · rw [if_neg k1, if_pos (show fh n m x by unfold fh; omega)]
/-- the turn from one to the other -/
def bd (n m : Int) (x y : Mo) : Int := F4 (aN n * (x.v0 n * y.v1 n - x.v1 n * y.v0 n)) (x.u0 * y.v1 n - x.u1 * y.v0 n) (x.v0 n * y.u1 - x.v1 n * y.u0) (x.u0 * y.u1 - x.u1 * y.u0) (aN n) (x.d n m) (y.d n m)
def ordM (n m : Int) (x y : Mo) : Int := if fh n m x ↔ fh n m y then -bd n m x y else if fh n m x then -1 else 1
theorem sumS_sg (f s m : Int) : sumS f s (sg m) = sumS f s m := by
  unfold sumS
  rcases Int.lt_trichotomy m 0 with h | h | h
  · have : sg m = -1 := by unfold sg; rw [if_neg (by omega), if_pos h]
    simp [this, show ¬ 0 < m by omega, show m ≠ 0 by omega]
  · subst h; rfl
  · have : sg m = 1 := by unfold sg; rw [if_pos h]
    simp [this, h]
theorem sumS_join (f s m : Int) : (if f = 0 ∨ s = 0 ∨ f = s then (if f ≠ 0 then f else s) else sumS f s m) = sumS f s m := by
  unfold sumS
  by_cases k1 : f = 0
  · simp [k1]
  · by_cases k2 : s = 0
    · by_cases k3 : f = s
      · simp [k1, k2]
      · simp [k1, k2]
    · by_cases k3 : f = s
      · simp [k1, k3]
      · simp [k1, k2, k3]
theorem rt2_l0 (t u e : Int) (he : 0 ≤ e) : rt2 0 u t e = if 0 < e then sg t else 0 := by
  unfold rt2
  have e0 : sq 0 = 0 := rfl
  rw [e0, show 0 * u + sq t * e = e * sq t by grind]
  split
  · rename_i h; rw [sg_mul_pos h, sg_sqz]
  · have : e = 0 := by omega
    subst this; simp [sg]
theorem F4_a (q t n e : Int) (hn : 0 ≤ n) (he : 0 ≤ e) : F4 0 q 0 t n 1 e = rt2 q n t e := by
  rw [rt2_comm, ← rosG he hn]
  unfold F4
  simp only []
  rw [sumS_join, rt2_comm q 1 0 e, rt2_l0 q e 1 (by decide), if_pos (show (0 : Int) < 1 by decide), rt2_l0 t 1 (1 * e) (by omega)]
  have e1 : 0 * 0 + t * t * 1 * e - n * (q * q * 1 + 0 * 0 * e) = t * t * e - q * q * n := by grind
  have e2 : 2 * (0 * t - n * q * 0) = 0 := by simp
  rw [e1, e2, show (1 : Int) * e = e by omega]
  have e3 : ∀ M : Int, rt2 M 1 0 e = sg M := fun M => by
    unfold rt2
    have e0 : sq 0 = 0 := rfl
    rw [e0, show sq M * 1 + 0 * e = sq M by omega, sg_sqz]
  rw [e3, sumS_sg]
theorem F4_b (r t n d : Int) (hn : 0 ≤ n) (hd : 0 ≤ d) : F4 0 0 r t n d 1 = rt2 r n t d := by
  rw [rt2_comm, ← rosG hd hn]
  unfold F4
  simp only []
  rw [sumS_join, rt2_l0 r d 1 (by decide), if_pos (show (0 : Int) < 1 by decide), rt2_l0 t 1 (d * 1) (by omega)]
  have e1 : 0 * 0 + t * t * d * 1 - n * (0 * 0 * d + r * r * 1) = t * t * d - r * r * n := by grind
  have e2 : 2 * (0 * t - n * 0 * r) = 0 := by simp
  rw [e1, e2, show d * 1 = d by omega]
  have e3 : ∀ M : Int, rt2 M 1 0 d = sg M := fun M => by
    unfold rt2
    have e0 : sq 0 = 0 := rfl
    rw [e0, show sq M * 1 + 0 * d = sq M by omega, sg_sqz]
  rw [e3, sumS_sg]
theorem aN_s2 (n k : Int) : aN n * (sg n * sg n * k) = aN n * k := by
  rcases Int.lt_trichotomy n 0 with h | h | h
  · have : sg n = -1 := by unfold sg; rw [if_neg (by omega), if_pos h]
    rw [this]; grind
  · subst h; simp [aN]
  · have : sg n = 1 := by unfold sg; rw [if_pos h]
    rw [this]; grind
end Vec

set_option maxHeartbeats 2000000
namespace LawX
open L2 L3 PySem PySem.Spec PyProof.Rows Vec
--@ is_whole
theorem r_is_whole (n : Nat) (i : Int) (st : Store) : run (n + 1) i_is_whole [.int i] st = .ok (.bl true) st := by
  simp [u_is_whole, f_is_whole]
--@ are_wholes
theorem bools_true (xs : List D) : boolsD (xs.map fun _ => D.bl true) = some (xs.map fun _ => true) := by
  induction xs with
  | nil => rfl
  | cons x xs ih => rw [List.map_cons, bools_cons, ih]; rfl
theorem r_are_wholes (n : Nat) (ns : List Int) (st : Store) (hl : ns.length ≤ 1000) : run (n + 2) i_are_wholes [tpl ns, .int ns.length] st = .ok (.bl true) st := by
  have e := comp_map (cf := run (n + 1)) (gl := gl) (r := [some (tpl ns), some (.int ns.length), none]) (s0 := st) (ex := .var 0) (v := 2) (c := .con (.bl true)) (e := .call i_is_whole [.var 2] []) (xs := ns.map .int) (d := tpl ns) (fun _ => .bl true) (by simp) rfl (by intros; simp)
    (by intro x hx; obtain ⟨i, _, rfl⟩ := List.mem_map.mp hx; simp [r_is_whole]) (by rw [List.length_map]; omega)
  simp [u_are_wholes, f_are_wholes] at e ⊢
  rw [e]
  have := bools_true (ns.map D.int)
  rw [List.map_map] at this
  simp [Function.comp_def] at this ⊢
  simp [this]
--@ common_divisor
theorem r_common_divisor (n : Nat) (ns : List Int) (st : Store) : run (n + 1) i_common_divisor [tpl ns] st = .ok (.int (Vec.gcdL ns : Nat)) st := by
  obtain ⟨r1, s1, e1, ⟨y, rfl⟩, rfl⟩ := seq_inv (cf := run n) (gl := gl) (r := [some (tpl ns), some (.int 0), none]) (s0 := st) (ex := .var 0) (v := 2) (xs := ns.map .int) (d := tpl ns) (body := [.asg (.nm 1) (.op .gcd [.var 1, .var 2])])
    (fun i r s => (∃ y, r = [some (tpl ns), some (.int (((ns.take i).foldl (fun g x => Nat.gcd g x.natAbs) 0 : Nat) : Int)), y]) ∧ s = st) (by simp) rfl rfl ⟨⟨none, rfl⟩, rfl⟩ (by
      rintro i x r s hx ⟨⟨y, rfl⟩, rfl⟩
      rw [List.getElem?_map] at hx
      cases q : ns[i]? with
      | none => rw [q] at hx; cases hx
      | some m =>
        rw [q] at hx
        cases hx
        refine ⟨_, _, ?_, ⟨some (.int m), rfl⟩, rfl⟩
        have hl := (List.getElem?_eq_some_iff.mp q)
        obtain ⟨hl, hm⟩ := hl
        have e : ns.take (i + 1) = ns.take i ++ [m] := by rw [List.take_add_one, q]; rfl
        simp [e])
  rw [List.length_map, List.take_length, Vec.gcd_fold] at e1
  simp [u_common_divisor, f_common_divisor, e1]
--@ lowest
theorem r_lowest (n : Nat) (ns : List Int) (st : Store) (h : ¬ Vec.Zer ns) (hb : Bd 4000 (Vec.gcdL ns : Nat)) (hl : ns.length ≤ 1000) : run (n + 2) i_lowest [tpl ns] st = .ok (tpl (Vec.red ns)) st := by
  have h0 : (0 : Int) < (Vec.gcdL ns : Nat) := by have := Vec.gcdL_pos h; omega
  have e := comp_map (cf := run (n + 1)) (gl := gl) (r := [some (tpl ns), some (.int (Vec.gcdL ns : Nat)), none]) (s0 := st) (ex := .var 0) (v := 2) (c := .con (.bl true)) (e := .op .fdiv [.var 2, .var 1]) (xs := ns.map .int) (d := tpl ns) (fun x => match x with | .int m => .int (m / (Vec.gcdL ns : Nat)) | d => d) (by simp) rfl (by intros; simp)
    (by intro x hx; obtain ⟨i, _, rfl⟩ := List.mem_map.mp hx; simp [o_fdiv h0 hb]) (by rw [List.length_map]; omega)
  rw [List.map_map] at e
  have e2 : List.map ((fun x => match x with | .int m => .int (m / (Vec.gcdL ns : Nat)) | d => d) ∘ D.int) ns = (Vec.red ns).map D.int := by
    unfold Vec.red
    rw [List.map_map]
    rfl
  rw [e2] at e
  simp [u_lowest, f_lowest, r_common_divisor, e]
  try rfl
--@ is_lowest
theorem r_is_lowest (n : Nat) (ns : List Int) (st : Store) : run (n + 2) i_is_lowest [tpl ns] st = .ok (.bl (decide (Vec.gcdL ns = 1))) st := by
  simp [u_is_lowest, f_is_lowest, r_common_divisor]
  omega
--@ sign
theorem r_sign (n : Nat) (i : Int) (st : Store) : run (n + 1) i_sign [.int i] st = .ok (.int (Vec.sg i)) st := by
  simp [u_sign, f_sign, b2i, Vec.sg]
  rcases Int.lt_trichotomy i 0 with h | h | h
  · simp [h, Int.not_lt.mpr (Int.le_of_lt h)]
  · subst h; simp
  · simp [h, Int.not_lt.mpr (Int.le_of_lt h)]
--@ is_some_triple
theorem r_is_some_triple (n : Nat) {v : List Int} (st : Store) (h : T3 v) (hz : ¬ Zer v) : run (n + 3) i_is_some_triple [tpl v] st = .ok (.bl true) st := by
  obtain ⟨a, b, c, rfl⟩ := h
  have e := r_are_wholes n [a, b, c] st (by simp)
  have e' : run (n + 2) i_are_wholes [tpl [a, b, c], .int 3] st = .ok (.bl true) st := e
  simp [u_is_some_triple, f_is_some_triple, e']
  by_cases ha : a = 0
  · by_cases hb : b = 0
    · by_cases hc : c = 0
      · exact absurd (show Zer [a, b, c] by intro k hk; simp at hk; omega) hz
      · simp [ha, hb, hc]
    · simp [ha, hb]
  · simp [ha]
--@ plane_in
theorem r_plane_in (n : Nat) {v : List Int} {e : Nat} (st : Store) (h : T3 v) (hz : ¬ Zer v) (hb : Bs e v) (he : e < 4000) : run (n + 4) i_plane_in [tpl v] st = .ok (tpl (red v)) st := by
  have b : Bd 4000 (gcdL v : Nat) := Nat.lt_of_le_of_lt (by rw [Int.natAbs_natCast]; exact gcdL_le hz hb) (Nat.pow_lt_pow_right (by decide) he)
  simp [u_plane_in, f_plane_in, r_is_some_triple _ _ h hz, r_lowest _ _ _ hz b (by rw [h.len]; decide)]
--@ plane_in
@[simp] theorem x_plane_in (n : Nat) (v : List Int) (st : Store) (h : T3 v) (hz : ¬ Zer v) (hb : Bv 3900 v) : run (n + 4) i_plane_in [tpl v] st = .ok (tpl (red v)) st := r_plane_in n st h hz hb.bs (by decide)
--@ sign
@[simp] theorem x_sign (n : Nat) (i : Int) (st : Store) : run (n + 1) i_sign [.int i] st = .ok (.int (Vec.sg i)) st := r_sign n i st
--@ lowest
@[simp] theorem x_lowest (n : Nat) (v : List Int) (st : Store) (h : ¬ Vec.Zer v) (hb : Bv 3900 v) (hl : v.length ≤ 20) : run (n + 2) i_lowest [tpl v] st = .ok (tpl (Vec.red v)) st :=
  r_lowest n v st h (by unfold Bd; rw [Int.natAbs_natCast]; exact Nat.lt_of_le_of_lt (gcdL_le h hb.bs) (Nat.pow_lt_pow_right (by decide) (by decide))) (by omega)
@[simp] theorem x_lowest3 (n : Nat) (v : List Int) (st : Store) (h : ¬ Vec.Zer v) (hb : Bv 3900 v) (hl : T3 v) : run (n + 2) i_lowest [tpl v] st = .ok (tpl (Vec.red v)) st := x_lowest n v st h hb (by rw [hl.len]; decide)
--@ is_some_triple
@[simp] theorem x_is_some_triple (n : Nat) (v : List Int) (st : Store) (h : T3 v) : run (n + 3) i_is_some_triple [tpl v] st = .ok (.bl (decide (¬ Zer v))) st := by
  obtain ⟨a, b, c, rfl⟩ := h
  have e' : run (n + 2) i_are_wholes [tpl [a, b, c], .int 3] st = .ok (.bl true) st := r_are_wholes n [a, b, c] st (by simp)
  simp [u_is_some_triple, f_is_some_triple, e'] <;> by_cases ha : a = 0 <;> by_cases hb : b = 0 <;> by_cases hc : c = 0 <;> simp [ha, hb, hc]
--@ _law_cross
@[simp] theorem x_law_cross (n : Nat) (v w : List Int) (st : Store) (h : T3 v) (g : T3 w) (a : Bv 1900 v) (b : Bv 1900 w) : run (n + 1) i__law_cross [tpl v, tpl w] st = .ok (tpl (Vec.cross v w)) st := by
  obtain ⟨x, y, z, rfl⟩ := h
  obtain ⟨p, q, r, rfl⟩ := g
  simp only [Bv_cons] at a b
  obtain ⟨a1, a2, a3, _⟩ := a
  obtain ⟨b1, b2, b3, _⟩ := b
  have m : ∀ {i j : Int}, Bd 1900 i → Bd 1900 j → opD st .mul [.int i, .int j] = some (.int (i * j)) := fun h k => o_mul (h.mono (by decide)) (k.mono (by decide))
  simp [u__law_cross, f__law_cross, m a1 b2, m a1 b3, m a2 b1, m a2 b3, m a3 b1, m a3 b2, Vec.cross]
--@ is_lowest
@[simp] theorem x_is_lowest (n : Nat) (v : List Int) (st : Store) : run (n + 2) i_is_lowest [tpl v] st = .ok (.bl (decide (gcdL v = 1))) st := r_is_lowest n v st
--@ are_wholes
@[simp] theorem x_are_wholes2 (n : Nat) (v : List Int) (st : Store) (h : T2 v) : run (n + 2) i_are_wholes [tpl v, .int 2] st = .ok (.bl true) st := by
  have := r_are_wholes n v st (by rw [h.len]; decide)
  rwa [h.len] at this
@[simp] theorem x_are_wholes3 (n : Nat) (v : List Int) (st : Store) (h : T3 v) : run (n + 2) i_are_wholes [tpl v, .int 3] st = .ok (.bl true) st := by
  have := r_are_wholes n v st (by rw [h.len]; decide)
  rwa [h.len] at this
--@ lowest
@[simp] theorem x_lowest2 (n : Nat) (v : List Int) (st : Store) (h : ¬ Vec.Zer v) (hb : Bv 3900 v) (hl : T2 v) : run (n + 2) i_lowest [tpl v] st = .ok (tpl (Vec.red v)) st := x_lowest n v st h hb (by rw [hl.len]; decide)
--@ is_hour
@[simp] theorem x_is_hour (n : Nat) (v : List Int) (st : Store) (h : T2 v) (g : gcdL v = 1) : run (n + 3) i_is_hour [tpl v] st = .ok (.bl true) st := by
  simp [u_is_hour, f_is_hour, h, g]
--@ is_day
@[simp] theorem x_is_height (n : Nat) (v : List Int) (st : Store) (h : T2 v) (g : gcdL v = 1) (d : ∃ p q, v = [p, q] ∧ 0 < q ∧ -q < p ∧ p < q) : run (n + 3) i_is_height [tpl v] st = .ok (.bl true) st := by
  obtain ⟨p, q, rfl, h1, h2, h3⟩ := d
  simp [u_is_height, f_is_height, g, h1, Int.le_of_lt h2, Int.le_of_lt h3]
@[simp] theorem x_is_day (n : Nat) (v : List Int) (st : Store) (h : T2 v) (g : gcdL v = 1) (d : ∃ p q, v = [p, q] ∧ 0 < q ∧ -q < p ∧ p < q) : run (n + 4) i_is_day [tpl v] st = .ok (.bl true) st := by
  have e := x_is_height n v st h g d
  obtain ⟨p, q, rfl, h1, h2, h3⟩ := d
  simp [u_is_day, f_is_day, e, h2, h3]
--@ check_day is_day
@[simp] theorem x_check_day (n : Nat) (v : List Int) (st : Store) (g : gcdL v = 1) (d : Dat v) : run (n + 5) i_check_day [tpl v] st = .ok .non st := by
  simp [u_check_day, f_check_day, x_is_day _ _ _ d.t2 g d]
--@ common_divisor
theorem r_common_divisorL (n : Nat) (ns : List Int) (st : Store) : run (n + 1) i_common_divisor [.lst (ns.map .int)] st = .ok (.int (Vec.gcdL ns : Nat)) st := by
  obtain ⟨r1, s1, e1, ⟨y, rfl⟩, rfl⟩ := seq_inv (cf := run n) (gl := gl) (r := [some (.lst (ns.map .int)), some (.int 0), none]) (s0 := st) (ex := .var 0) (v := 2) (xs := ns.map .int) (d := .lst (ns.map .int)) (body := [.asg (.nm 1) (.op .gcd [.var 1, .var 2])])
    (fun i r s => (∃ y, r = [some (.lst (ns.map .int)), some (.int (((ns.take i).foldl (fun g x => Nat.gcd g x.natAbs) 0 : Nat) : Int)), y]) ∧ s = st) (by simp) rfl rfl ⟨⟨none, rfl⟩, rfl⟩ (by
      rintro i x r s hx ⟨⟨y, rfl⟩, rfl⟩
      rw [List.getElem?_map] at hx
      cases q : ns[i]? with
      | none => rw [q] at hx; cases hx
      | some m =>
        rw [q] at hx
        cases hx
        refine ⟨_, _, ?_, ⟨some (.int m), rfl⟩, rfl⟩
        obtain ⟨hl, hm⟩ := List.getElem?_eq_some_iff.mp q
        have e : ns.take (i + 1) = ns.take i ++ [m] := by rw [List.take_add_one, q]; rfl
        simp [e])
  rw [List.length_map, List.take_length, Vec.gcd_fold] at e1
  simp [u_common_divisor, f_common_divisor, e1]
--@ is_lowest
theorem x_is_lowest9 (n : Nat) (a b c d e f g h i : Int) (st : Store) : run (n + 2) i_is_lowest [.lst [.int a, .int b, .int c, .int d, .int e, .int f, .int g, .int h, .int i]] st = .ok (.bl (decide (gcdL [a, b, c, d, e, f, g, h, i] = 1))) st := by
  have e := r_common_divisorL n [a, b, c, d, e, f, g, h, i] st
  simp only [List.map_cons, List.map_nil] at e
  simp [u_is_lowest, f_is_lowest, e]
  omega
--@ lowest common_divisor
theorem x_lowestL (n : Nat) (ns : List Int) (st : Store) (h : ¬ Vec.Zer ns) (hb : Bv 3900 ns) (hl : ns.length ≤ 20) : run (n + 2) i_lowest [.lst (ns.map .int)] st = .ok (tpl (Vec.red ns)) st := by
  have h0 : (0 : Int) < (Vec.gcdL ns : Nat) := by have := Vec.gcdL_pos h; omega
  have hb2 : Bd 4000 (Vec.gcdL ns : Nat) := by unfold Bd; rw [Int.natAbs_natCast]; exact Nat.lt_of_le_of_lt (gcdL_le h hb.bs) (Nat.pow_lt_pow_right (by decide) (by decide))
  have e := comp_map (cf := run (n + 1)) (gl := gl) (r := [some (.lst (ns.map .int)), some (.int (Vec.gcdL ns : Nat)), none]) (s0 := st) (ex := .var 0) (v := 2) (c := .con (.bl true)) (e := .op .fdiv [.var 2, .var 1]) (xs := ns.map .int) (d := .lst (ns.map .int)) (fun x => match x with | .int m => .int (m / (Vec.gcdL ns : Nat)) | d => d) (by simp) rfl (by intros; simp)
    (by intro x hx; obtain ⟨i, _, rfl⟩ := List.mem_map.mp hx; simp [o_fdiv h0 hb2]) (by rw [List.length_map]; omega)
  rw [List.map_map] at e
  have e2 : List.map ((fun x => match x with | .int m => .int (m / (Vec.gcdL ns : Nat)) | d => d) ∘ D.int) ns = (Vec.red ns).map D.int := by
    unfold Vec.red
    rw [List.map_map]
    rfl
  rw [e2] at e
  simp [u_lowest, f_lowest, r_common_divisorL, e]
  try rfl
--@ common_divisor
theorem fold6 (a b c d e f : Int) : D.tup [.int a, .int b, .int c, .int d, .int e, .int f] = tpl [a, b, c, d, e, f] := rfl
theorem r_common_divisorG (n : Nat) (d : D) (ns : List Int) (st : Store) (hd : isSeq st d = some (ns.map .int)) : run (n + 1) i_common_divisor [d] st = .ok (.int (Vec.gcdL ns : Nat)) st := by
  have ls := loop_seq (cf := run n) (gl := gl) (r := [some d, some (.int 0), none]) (s0 := st) (s1 := st) (ex := .var 0) (v := 2) (xs := ns.map .int) (d := d) (body := [.asg (.nm 1) (.op .gcd [.var 1, .var 2])]) (by simp) hd
  obtain ⟨r1, s1, e1, ⟨y, rfl⟩, rfl⟩ := forL_inv (ns := walked .seq [d]) (step := fun x r s => denB (run n) gl [.asg (.nm 1) (.op .gcd [.var 1, .var 2])] (r.set 2 (some x)) s) (r0 := [some d, some (.int 0), none]) (s0 := st) (xs := ns.map .int)
    (fun i r s => (∃ y, r = [some d, some (.int (((ns.take i).foldl (fun g x => Nat.gcd g x.natAbs) 0 : Nat) : Int)), y]) ∧ s = st) ⟨⟨none, rfl⟩, rfl⟩ (by
      rintro i x r s hx ⟨⟨y, rfl⟩, rfl⟩
      rw [List.getElem?_map] at hx
      cases q : ns[i]? with
      | none => rw [q] at hx; cases hx
      | some m =>
        rw [q] at hx
        cases hx
        refine ⟨_, _, ?_, stillB_same _ _, ⟨some (.int m), rfl⟩, rfl⟩
        obtain ⟨hl, hm⟩ := List.getElem?_eq_some_iff.mp q
        have e : ns.take (i + 1) = ns.take i ++ [m] := by rw [List.take_add_one, q]; rfl
        simp [e])
  rw [List.length_map, List.take_length, Vec.gcd_fold] at e1
  have e2 := ls.trans e1
  simp [u_common_divisor, f_common_divisor, e2]
--@ lowest common_divisor
theorem x_lowestG (n : Nat) (d : D) (ns : List Int) (st : Store) (hd : isSeq st d = some (ns.map .int)) (h : ¬ Vec.Zer ns) (hb : Bv 3900 ns) (hl : ns.length ≤ 20) : run (n + 2) i_lowest [d] st = .ok (tpl (Vec.red ns)) st := by
  have h0 : (0 : Int) < (Vec.gcdL ns : Nat) := by have := Vec.gcdL_pos h; omega
  have hb2 : Bd 4000 (Vec.gcdL ns : Nat) := by unfold Bd; rw [Int.natAbs_natCast]; exact Nat.lt_of_le_of_lt (gcdL_le h hb.bs) (Nat.pow_lt_pow_right (by decide) (by decide))
  have e := comp_map (cf := run (n + 1)) (gl := gl) (r := [some d, some (.int (Vec.gcdL ns : Nat)), none]) (s0 := st) (ex := .var 0) (v := 2) (c := .con (.bl true)) (e := .op .fdiv [.var 2, .var 1]) (xs := ns.map .int) (d := d) (fun x => match x with | .int m => .int (m / (Vec.gcdL ns : Nat)) | d => d) (by simp) hd (by intros; simp)
    (by intro x hx; obtain ⟨i, _, rfl⟩ := List.mem_map.mp hx; simp [o_fdiv h0 hb2]) (by rw [List.length_map]; omega)
  rw [List.map_map] at e
  have e2 : List.map ((fun x => match x with | .int m => .int (m / (Vec.gcdL ns : Nat)) | d => d) ∘ D.int) ns = (Vec.red ns).map D.int := by
    unfold Vec.red
    rw [List.map_map]
    rfl
  rw [e2] at e
  have e3 := r_common_divisorG n d ns st hd
  simp [u_lowest, f_lowest, e3, e]
  try rfl
--@ _law_dip
theorem r_dip (n : Nat) {b : Nat} {xs : List D} {m : Int} (st : Store) (h : Spr b xs) (hb : b ≤ 1000000) (h0 : 0 < m) (h1 : m < 1073741824) : ∃ xs' f, run (n + 1) i__law_dip [.loc 0, .int m] (xs :: st) = .ok (.int f) (xs' :: st) ∧ Spr (b + 1) xs' ∧ 0 ≤ f ∧ f < m := by
  obtain ⟨x, y, z, rfl, hx, hy, hy2, hz, hz2⟩ := h
  by_cases q : 0 < x
  · refine ⟨[.int (x / m), .int y, .int z], x % m, ?_, ⟨_, _, _, rfl, Int.ediv_nonneg hx (Int.le_of_lt h0), hy, hy2, hz, by omega⟩, Int.emod_nonneg _ (by omega), Int.emod_lt_of_pos _ h0⟩
    simp [u__law_dip, f__law_dip, q, o_divmod h0 h1]
  · have b1 : Bd 4000 90001 := bd_small (n := 90001) (by decide) (by decide) (by decide)
    have b2 : Bd 4000 (z + 1) := bd_small (n := b + 1) (by omega) (by omega) (by omega)
    have b3 : Bd 4000 61 := bd_small (n := 61) (by decide) (by decide) (by decide)
    have b5 : Bd 4000 y := bd_small (n := 10000000000) hy (by omega) (by decide)
    have p1 : (0 : Int) < 2147483563 := by decide
    have p2 : (0 : Int) < 10007 := by decide
    have p3 : (0 : Int) < 61 := by decide
    have t0 : 0 ≤ y % 10007 := Int.emod_nonneg _ (by decide)
    have t1 : y % 10007 < 10007 := Int.emod_lt_of_pos _ (by decide)
    have b6 : Bd 4000 (y % 10007 + 20011) := bd_small (n := 40000) (by omega) (by omega) (by decide)
    generalize hy' : (y * (y % 10007 + 20011) + 90001 * (z + 1) + 11) % 2147483563 = y'
    have y0 : 0 ≤ y' := by rw [← hy']; exact Int.emod_nonneg _ (by decide)
    have y1 : y' < 2147483563 := by rw [← hy']; exact Int.emod_lt_of_pos _ (by decide)
    refine ⟨[.int x, .int y', .int (z + 1)], (y' / 61) % m, ?_, ⟨_, _, _, rfl, hx, y0, by omega, by omega, by omega⟩, Int.emod_nonneg _ (by omega), Int.emod_lt_of_pos _ h0⟩
    simp [u__law_dip, f__law_dip, q, o_mul b1 b2, o_md p1, o_md p2, o_mul b5 b6, hy', o_fdiv p3 b3, o_md h0]
--@ _law_well
theorem r_well (n : Nat) (ns : List Int) (i : Nat) (hi : i ≤ 1000) : ∃ xs, run (n + 1) i__law_well [.scr ns, .int (i : Int)] [] = .ok (.loc 0) [xs] ∧ Spr 0 xs := by
  have b1 : Bd 4000 1613 := bd_small (n := 1613) (by decide) (by decide) (by decide)
  have b2 : Bd 4000 (i : Int) := bd_small (n := i) (by omega) (by omega) (by omega)
  have b3 : Bd 4000 48673 := bd_small (n := 48673) (by decide) (by decide) (by decide)
  have b4 : Bd 4000 30011 := bd_small (n := 30011) (by decide) (by decide) (by decide)
  have b5 : Bd 4000 6151 := bd_small (n := 6151) (by decide) (by decide) (by decide)
  have p1 : (0 : Int) < 2147483563 := by decide
  have ab : ∀ x : Int, (if x < 0 then -x else x) = (x.natAbs : Int) := by intro x; split <;> omega
  have hcut : opD [] (.cut false true) [.scr ns, .int 9] = some (.lst (cutD (ns.map .int) none (some 9))) := rfl
  obtain ⟨r1, s1, e, ⟨m, y, rfl, m0, m1⟩, rfl⟩ := seq_inv (cf := run n) (gl := gl) (r := [some (.scr ns), some (.int (i : Int)), some (.int (70207 + 1613 * (i : Int))), none, none, none]) (s0 := []) (ex := .op (.cut false true) [.var 0, .con (.int (9))]) (v := 3) (xs := cutD (ns.map .int) none (some 9)) (d := .lst (cutD (ns.map .int) none (some 9)))
    (body := [.asg (.nm 2) (.op .md [.op .int [.op .add [.op .add [.op .mul [.var 2, .con (.int (48673))], .op .md [.op .int [.var 3], .con (.int (2147483563))]], .con (.int (29))]], .con (.int (2147483563))])])
    (fun _ r s => (∃ m y, r = [some (.scr ns), some (.int (i : Int)), some (.int m), y, none, none] ∧ 0 ≤ m ∧ m < 2147483563) ∧ s = []) (by simp [hcut]) rfl rfl ⟨⟨_, none, rfl, by omega, by omega⟩, rfl⟩ (by
      rintro j x r s hx ⟨⟨m, y, rfl, m0, m1⟩, rfl⟩
      obtain ⟨c, _, rfl⟩ := List.mem_map.mp (mem_cut hx)
      have bm : Bd 4000 m := bd_small (n := 2147483563) m0 (by omega) (by decide)
      refine ⟨_, _, ?_, ⟨(m * 48673 + c % 2147483563 + 29) % 2147483563, some (.int c), rfl, Int.emod_nonneg _ (by decide), Int.emod_lt_of_pos _ (by decide)⟩, rfl⟩
      simp [o_mul bm b3, o_md p1])
  have own : ∃ o : Int, den (run n) gl (.ifx (.op .lt [.var 1, .op .len [.var 0]]) (.op .int [.op .idx [.var 0, .var 1]]) (.var 2)) [some (.scr ns), some (.int (i : Int)), some (.int m), y, none, none] [] = .ok (.int o) [] := by
    have hl : opD [] .len [.scr ns] = some (.int (ns.length : Int)) := by
      rw [o_len (xs := ns.map .int) rfl, List.length_map]
    by_cases q : i < ns.length
    · have q' : (i : Int) < (ns.length : Int) := by omega
      have hx : opD [] .idx [.scr ns, .int (i : Int)] = some (.int ns[i]) := by
        rw [o_idx (xs := ns.map .int) rfl]
        exact at_nat (by rw [List.getElem?_map, List.getElem?_eq_getElem q]; rfl)
      exact ⟨ns[i], by simp [hl, q, hx]⟩
    · exact ⟨m, by simp [hl, q]⟩
  obtain ⟨o, eo⟩ := own
  have q0 : 0 ≤ o % 2147483563 := Int.emod_nonneg _ (by decide)
  have q1 : o % 2147483563 < 2147483563 := Int.emod_lt_of_pos _ (by decide)
  have bq : Bd 4000 (o % 2147483563) := bd_small (n := 2147483563) q0 (by omega) (by decide)
  have bm : Bd 4000 m := bd_small (n := 2147483563) m0 (by omega) (by decide)
  have hpow : opD [] .pow [.int 10, .int 18] = some (.int 1000000000000000000) := rfl
  have w0 : 0 ≤ (m * 30011 + o % 2147483563 * 6151 + 7) % 2147483563 := Int.emod_nonneg _ (by decide)
  have w1 : (m * 30011 + o % 2147483563 * 6151 + 7) % 2147483563 < 2147483563 := Int.emod_lt_of_pos _ (by decide)
  have e5 : ∃ w : Int, 0 ≤ w ∧ den (run n) gl (.ifx (.or2 (.op .lt [.var 4, .con (.int (0))]) (.op .ge [.var 4, .op .pow [.con (.int (10)), .con (.int (18))]])) (.op .abs [.var 4]) (.con (.int (0)))) [some (.scr ns), some (.int (i : Int)), some (.int m), y, some (.int o), none] [] = .ok (.int w) [] := by
    by_cases k1 : o < 0
    · exact ⟨(o.natAbs : Int), by omega, by simp [k1]; omega⟩
    · by_cases k2 : (1000000000000000000 : Int) ≤ o
      · exact ⟨(o.natAbs : Int), by omega, by simp [k1, hpow, k2]; omega⟩
      · exact ⟨0, by omega, by simp [k1, hpow, k2]⟩
  obtain ⟨w, wp, e5⟩ := e5
  refine ⟨[.int w, .int ((m * 30011 + o % 2147483563 * 6151 + 7) % 2147483563), .int 0], ?_, ⟨_, _, _, rfl, wp, w0, by omega, by omega, by omega⟩⟩
  have e0 : den (run n) gl (.op .add [.con (.int (70207)), .op .mul [.con (.int (1613)), .var 1]]) [some (.scr ns), some (.int (i : Int)), none, none, none, none] [] = .ok (.int (70207 + 1613 * (i : Int))) [] := by simp [o_mul b1 b2]
  simp only [u__law_well, f__law_well, denB_cons, denS_asg]
  rw [e0]
  simp only [outE_ok, bindL_nm, List.set_cons_succ, List.set_cons_zero]
  rw [e]
  simp only [denB_cons, denS_asg, eo, e5, outE_ok, bindL_nm, List.set_cons_succ, List.set_cons_zero]
  simp [o_mul bm b4, o_mul bq b5, o_md p1, refD]
--@ _law_of
theorem r_of (n : Nat) {b : Nat} {xs : List D} {d : D} {ys : List D} (st : Store) (h : Spr b xs) (hb : b ≤ 1000000) (hs : ∀ st, isSeq st d = some ys) (h0 : 0 < ys.length) (h1 : ys.length ≤ 1000) : ∃ xs' x, run (n + 2) i__law_of [.loc 0, d] (xs :: st) = .ok x (xs' :: st) ∧ Spr (b + 1) xs' ∧ x ∈ ys := by
  obtain ⟨xs', f, e, h', f0, f1⟩ := r_dip n (m := (ys.length : Int)) st h hb (by omega) (by omega)
  have hf : f.toNat < ys.length := by omega
  have e1 : opD (xs :: st) .len [d] = some (.int ys.length) := o_len (hs _)
  have e2 : opD (xs' :: st) .idx [d, .int f] = some ys[f.toNat] := by
    rw [o_idx (hs _)]
    have := at_nat (xs := ys) (n := f.toNat) (List.getElem?_eq_getElem hf)
    rwa [Int.toNat_of_nonneg f0] at this
  exact ⟨xs', ys[f.toNat], by simp [u__law_of, f__law_of, e1, e, e2], h', List.getElem_mem hf⟩
--@ _law_cut
theorem r_cutG (n : Nat) (d : D) (ns : List Int) (st : Store) (hd : isSeq st d = some (ns.map .int)) (h : ¬ Zer ns) (hb : Bv 1000 ns) (hl : ns.length ≤ 1000) : run (n + 1) i__law_cut [d] st = .ok (tpl (red ns)) st := by
  have h0 : (0 : Int) < (gcdL ns : Nat) := by have := gcdL_pos h; omega
  have bg : Bd 4000 (gcdL ns : Nat) := by
    have := gcdL_le (b := 2 ^ 1000) h (fun m hm => Nat.le_of_lt (hb m hm))
    show ((gcdL ns : Nat) : Int).natAbs < 2 ^ 4000
    rw [Int.natAbs_natCast]
    exact Nat.lt_of_le_of_lt this (Nat.pow_lt_pow_right (by decide) (by decide))
  obtain ⟨r1, e1, ⟨y2, y3, y4, rfl⟩⟩ := seq_invS (cf := run n) (gl := gl) (r := [some d, some (.int 0), none, none, none]) (s0 := st) (ex := .var 0) (v := 2) (xs := ns.map .int) (d := d) (body := [.par [3, 4] [.var 1, .op .abs [.var 2]], .whl (.op .gt [.var 4, .con (.int (0))]) [.par [3, 4] [.var 4, .op .md [.op .int [.var 3], .var 4]]], .asg (.nm 1) (.var 3)])
    (fun i r => ∃ y2 y3 y4, r = [some d, some (.int (((ns.take i).foldl (fun g x => Nat.gcd g x.natAbs) 0 : Nat) : Int)), y2, y3, y4]) (by simp) hd ⟨none, none, none, rfl⟩ (by
      rintro i x r hx ⟨y2, y3, y4, rfl⟩
      rw [List.getElem?_map] at hx
      cases q : ns[i]? with
      | none => rw [q] at hx; cases hx
      | some m =>
        rw [q] at hx
        cases hx
        obtain ⟨hl', hm⟩ := List.getElem?_eq_some_iff.mp q
        have e : ns.take (i + 1) = ns.take i ++ [m] := by rw [List.take_add_one, q]; rfl
        have bm := hb m (List.mem_of_getElem? q)
        have ew := euclidW (cf := run n) (gl := gl) (st := st) (a0 := some d) (a1 := some (.int (((ns.take i).foldl (fun g x => Nat.gcd g x.natAbs) 0 : Nat) : Int))) (a2 := some (.int m)) 1000 whlMax ((ns.take i).foldl (fun g x => Nat.gcd g x.natAbs) 0) m.natAbs bm (by decide)
        refine ⟨[some d, some (.int (((ns.take (i + 1)).foldl (fun g x => Nat.gcd g x.natAbs) 0 : Nat) : Int)), some (.int m), some (.int (Nat.gcd ((ns.take i).foldl (fun g x => Nat.gcd g x.natAbs) 0) m.natAbs : Nat)), some (.int 0)], ?_, _, _, _, rfl⟩
        rw [e, List.foldl_append]
        simp only [List.foldl_cons, List.foldl_nil]
        generalize (ns.take i).foldl (fun g x => Nat.gcd g x.natAbs) 0 = g at *
        have ewS := (denS_whl (cf := run n) (gl := gl) (st := st) euC euW).trans ew
        simp [natAbs_if, ewS])
  rw [List.length_map, List.take_length, gcd_fold] at e1
  have e2 := comp_map (cf := run n) (gl := gl) (r := [some d, some (.int (gcdL ns : Nat)), y2, y3, y4]) (s0 := st) (ex := .var 0) (v := 2) (c := .con (.bl true)) (e := .op .fdiv [.var 2, .var 1]) (xs := ns.map .int) (d := d) (fun x => match x with | .int m => .int (m / (gcdL ns : Nat)) | d => d) (by simp) hd (by intros; simp)
    (by intro x hx; obtain ⟨i, _, rfl⟩ := List.mem_map.mp hx; simp [o_fdiv h0 bg]) (by rw [List.length_map]; omega)
  rw [List.map_map] at e2
  have e3 : List.map ((fun x => match x with | .int m => .int (m / (gcdL ns : Nat)) | d => d) ∘ D.int) ns = (red ns).map D.int := by
    unfold red
    rw [List.map_map]
    rfl
  rw [e3] at e2
  simp [u__law_cut, f__law_cut, e1, e2]
  try rfl
theorem x_cut (n : Nat) (ns : List Int) (st : Store) (h : ¬ Zer ns) (hb : Bv 1000 ns) (hl : ns.length ≤ 20) : run (n + 1) i__law_cut [tpl ns] st = .ok (tpl (red ns)) st := r_cutG n (tpl ns) ns st rfl h hb (by omega)
theorem x_cutL (n : Nat) (ns : List Int) (st : Store) (h : ¬ Zer ns) (hb : Bv 1000 ns) (hl : ns.length ≤ 20) : run (n + 1) i__law_cut [.lst (ns.map .int)] st = .ok (tpl (red ns)) st := r_cutG n _ ns st rfl h hb (by omega)
--@ _law_row _law_cut _law_dip
theorem row_x (n : Nat) {b : Nat} {xs : List D} (st : Store) (k m : Nat) (h : Spr b xs) (hb : b ≤ 900000) (k0 : 1 ≤ k) (k1 : k ≤ 20) (m0 : 1 ≤ m) (m1 : m ≤ 100000000) : ∃ x' ex v, run (n + 2) i__law_row [.loc 0, .int (k : Int), .int (m : Int)] (xs :: st) = .ok (tpl v) (x' :: (st ++ ex)) ∧ Spr (b + k + 2) x' ∧ v.length = k ∧ gcdL v = 1 ∧ ¬ Zer v ∧ (∀ i ∈ v, i.natAbs ≤ m) := by
  have bm : Bd 4000 (m : Int) := bd_small (n := m) (by omega) (by omega) (by omega)
  have b2 : Bd 4000 2 := bd_small (n := 2) (by decide) (by decide) (by decide)
  obtain ⟨x1, ds, e1, h1, l1, p1⟩ := comp_drawn (cf := run (n + 1)) (gl := gl) (r := [some (.loc 0), some (.int (k : Int)), some (.int (m : Int)), none, none]) (st := st) (ex := .var 1) (e := .op .sub [.call i__law_dip [.var 0, .op .add [.op .mul [.con (.int (2)), .var 2], .con (.int (1))]] [], .var 2]) (v := 4) (m := k) (s0 := xs :: st) (xs := xs) (b := b) (c := 1) (fun d => ∃ i, d = .int i ∧ i.natAbs ≤ m) (by simp) (by omega) h (by
    rintro i _ x hi hx
    obtain ⟨x', f, e, h', f0, f1⟩ := r_dip n (m := 2 * (m : Int) + 1) st hx (by omega) (by omega) (by omega)
    exact ⟨x', .int (f - m), by simp [o_mul b2 bm, e], h'.mono (by omega), f - m, rfl, by omega⟩)
  obtain ⟨ns, rfl, hn⟩ := ints_of p1
  rw [List.length_map] at l1
  have er : refD (x1 :: st) (.lst (ns.map .int)) = .ok (.loc (st.length + 1)) (x1 :: (st ++ [ns.map .int])) := refD_at (st := x1 :: st) (pureAll_ints ns)
  have hat : ∀ (y : List D) (z : List D), (y :: (st ++ [z]))[st.length + 1]? = some z := fun y z => by simp
  have e0 : opD (x1 :: (st ++ [ns.map .int])) .mul [.lst [.int 0], .int (k : Int)] = some (.lst ((List.replicate k (0 : Int)).map .int)) := by
    show (if (0 ≤ (k : Int) ∧ (k : Int) ≤ 100) ∧ [D.int 0].length * (k : Int).toNat ≤ sizeLine then some (D.lst (List.replicate (k : Int).toNat [D.int 0]).flatten) else none) = _
    rw [if_pos ⟨⟨by omega, by omega⟩, small_len (by simp; omega)⟩]
    have : (List.replicate (k : Int).toNat [D.int 0]).flatten = (List.replicate k (0 : Int)).map .int := by
      rw [Int.toNat_natCast]
      induction k with
      | zero => rfl
      | succ k ih => rw [List.replicate_succ, List.replicate_succ, List.flatten_cons, List.map_cons]; simp
    rw [this]
  have eq0 := eq_loc_lst (st := x1 :: (st ++ [ns.map .int])) (n := st.length + 1) (a := ns) (b := List.replicate k 0) (hat _ _)
  have zr : ns = List.replicate k 0 ↔ Zer ns := by
    rw [← l1]
    constructor
    · intro e i hi; rw [e] at hi; exact (List.mem_replicate.mp hi).2
    · intro z; exact List.eq_replicate_iff.mpr ⟨rfl, z⟩
  by_cases z : Zer ns
  · have hz := zr.mpr z
    obtain ⟨x2, t, e2, h2, t0, t1⟩ := r_dip n (m := 2) (st ++ [ns.map .int]) h1 (by omega) (by decide) (by decide)
    obtain ⟨x3, f, e3, h3, f0, f1⟩ := r_dip n (m := (k : Int)) (st ++ [ns.map .int]) h2 (by omega) (by omega) (by omega)
    have bt : Bd 4000 t := bd_small (n := 2) t0 (by omega) (by decide)
    have hf : f.toNat < ns.length := by omega
    have sd : setD (x3 :: (st ++ [ns.map .int])) (.loc (st.length + 1)) (.int f) (.int (1 - 2 * t)) = some (x3 :: (st ++ [(ns.set f.toNat (1 - 2 * t)).map .int])) := by
      rw [setD_of (j := f.toNat) (hat _ _) (by rw [List.length_map]; simp only [ixN]; rw [if_pos f0, if_pos (by omega)]) (by simp)]
      rw [List.set_cons_succ, List.set_append_right _ _ (Nat.le_refl _), Nat.sub_self, List.map_set, List.set_cons_zero]
    have w : 1 - 2 * t = 1 ∨ 1 - 2 * t = -1 := by omega
    have nz : ¬ Zer (ns.set f.toNat (1 - 2 * t)) := fun q => by
      have := q (1 - 2 * t) (List.mem_set hf _)
      omega
    have bn : ∀ i ∈ ns.set f.toNat (1 - 2 * t), i.natAbs ≤ m := fun i hi => by
      rcases List.mem_or_eq_of_mem_set hi with q | q
      · exact hn i q
      · omega
    have e4 := r_cutG n (.loc (st.length + 1)) (ns.set f.toNat (1 - 2 * t)) (x3 :: (st ++ [(ns.set f.toNat (1 - 2 * t)).map .int])) (by rw [isLoc_loc]; exact hat _ _) nz (bv_of (m := m) (e := 1000) (Nat.lt_of_le_of_lt m1 (by decide)) bn _ (by decide)) (by rw [List.length_set]; omega)
    have hln : (ns.set f.toNat (1 - 2 * t)).length = k := by rw [List.length_set, l1]
    obtain ⟨ns', hns⟩ : ∃ y, y = ns.set f.toNat (1 - 2 * t) := ⟨_, rfl⟩
    rw [← hns] at sd nz bn e4 hln
    refine ⟨x3, [ns'.map .int], red ns', ?_, h3.mono (by omega), by rw [red_len, hln], gcdL_red nz, red_zer nz, fun i hi => red_le hi bn⟩
    clear hns
    have f1 : denB (run (n + 1)) gl (f__law_row.body.take 1) [some (.loc 0), some (.int (k : Int)), some (.int (m : Int)), none, none] (xs :: st) = .go .nx [some (.loc 0), some (.int (k : Int)), some (.int (m : Int)), some (.loc (st.length + 1)), none] (x1 :: (st ++ [ns.map .int])) := by
      simp [f__law_row, e1, er]
    have eq1 : eqD (x1 :: (st ++ [ns.map .int])) (.loc (st.length + 1)) (.lst (List.replicate k (.int 0))) = some true := by
      rw [decide_eq_true hz, List.map_replicate] at eq0; exact eq0
    rw [List.map_replicate] at e0
    have f2 : denB (run (n + 1)) gl ((f__law_row.body.drop 1).take 1) [some (.loc 0), some (.int (k : Int)), some (.int (m : Int)), some (.loc (st.length + 1)), none] (x1 :: (st ++ [ns.map .int])) = .go .nx [some (.loc 0), some (.int (k : Int)), some (.int (m : Int)), some (.loc (st.length + 1)), none] (x3 :: (st ++ [ns'.map .int])) := by
      simp only [f__law_row, List.drop, List.take, denB_cons, denB_nil]
      simp [e0, eq1, e2, e3, o_mul b2 bt, sd]
    rw [u__law_row, denB_at 1 f1, denB_at 1 f2, List.drop_drop]
    simp [f__law_row, e4]
  · have e2 := r_cutG n (.loc (st.length + 1)) ns (x1 :: (st ++ [ns.map .int])) (by rw [isLoc_loc]; exact hat _ _) z (bv_of (m := m) (e := 1000) (Nat.lt_of_le_of_lt m1 (by decide)) hn _ (by decide)) (by omega)
    have nz : ¬ ns = List.replicate k 0 := fun e => z (zr.mp e)
    refine ⟨x1, [ns.map .int], red ns, ?_, h1.mono (by omega), by rw [red_len, l1], gcdL_red z, red_zer z, fun i hi => red_le hi hn⟩
    have f1 : denB (run (n + 1)) gl (f__law_row.body.take 1) [some (.loc 0), some (.int (k : Int)), some (.int (m : Int)), none, none] (xs :: st) = .go .nx [some (.loc 0), some (.int (k : Int)), some (.int (m : Int)), some (.loc (st.length + 1)), none] (x1 :: (st ++ [ns.map .int])) := by
      simp [f__law_row, e1, er]
    rw [u__law_row, denB_at 1 f1]
    rw [decide_eq_false nz, List.map_replicate] at eq0
    simp [f__law_row, e0, eq0, e2]
--@ sign_of_roots sign_of_sum sign
theorem x_sign_of_roots (n : Nat) (p q v : Int) (st : Store) (hv : 0 < v) (b1 : Bd 900 p) (b2 : Bd 900 q) (b3 : Bd 1900 v) : run (n + 2) i_sign_of_roots [.int p, .int 1, .int q, .int v] st = .ok (.int (sg (sq p + sq q * v))) st := by
  have e1 := r_sign n p st
  have e2 := r_sign n q st
  have o1 : ∀ st : Store, opD st .mul [.int p, .int p] = some (.int (p * p)) := fun st => o_mul (b1.mono (by decide)) (b1.mono (by decide))
  have bp : Bd 1900 (p * p) := Bd_mul (b1.mono (by decide)) (b1.mono (by decide))
  have bq : Bd 1900 (q * q) := Bd_mul (b2.mono (by decide)) (b2.mono (by decide))
  have o2 : ∀ st : Store, opD st .mul [.int q, .int q] = some (.int (q * q)) := fun st => o_mul (b2.mono (by decide)) (b2.mono (by decide))
  have o3 : ∀ st : Store, opD st .mul [.int (p * p), .int 1] = some (.int (p * p)) := fun st => by
    rw [o_mul (bp.mono (by decide)) (by decide), Int.mul_one]
  have o4 : ∀ st : Store, opD st .mul [.int (q * q), .int v] = some (.int (q * q * v)) := fun st => o_mul (bq.mono (by decide)) (b3.mono (by decide))
  rw [← ros hv]
  obtain ⟨M, hM⟩ : ∃ M, M = p * p - q * q * v := ⟨_, rfl⟩
  rw [← hM]
  have main : run (n + 1) i_sign_of_sum [.int (sg p), .int (sg q), .int M] st = .ok (.int (if sg p = 0 ∨ sg p = sg q then (if sg p = 0 then sg q else sg p) else if sg q = 0 ∨ 0 < M then sg p else if M = 0 then 0 else sg q)) st := by
    generalize sg p = a at *
    generalize sg q = b at *
    by_cases k1 : a = 0
    · simp [u_sign_of_sum, f_sign_of_sum, k1]
    · by_cases k2 : a = b
      · simp [u_sign_of_sum, f_sign_of_sum, k1, k2]
      · by_cases k3 : b = 0
        · simp [u_sign_of_sum, f_sign_of_sum, k1, k3]
        · by_cases k4 : 0 < M
          · simp [u_sign_of_sum, f_sign_of_sum, k1, k2, k3, k4]
          · by_cases k5 : M = 0
            · simp [u_sign_of_sum, f_sign_of_sum, k1, k2, k3, k5]
            · simp [u_sign_of_sum, f_sign_of_sum, k1, k2, k3, k4, k5]
  simp [u_sign_of_roots, f_sign_of_roots, e1, e2, hv, o1, o2, o3, o4, ← hM, main]
--@ _law_sgn
theorem x_sgn (n : Nat) (i : Int) (st : Store) : run (n + 1) i__law_sgn [.int i] st = .ok (.int (sg i)) st := by
  rcases Int.lt_trichotomy i 0 with h | h | h
  · have h2 : ¬ 0 < i := by omega
    simp [u__law_sgn, f__law_sgn, h, h2, sg]
  · subst h; simp [u__law_sgn, f__law_sgn, sg]
  · have h2 : ¬ i < 0 := by omega
    simp [u__law_sgn, f__law_sgn, h, h2, sg]
--@ sign_of_sum
theorem x_sign_of_sum (n : Nat) (f s m : Int) (st : Store) : run (n + 1) i_sign_of_sum [.int f, .int s, .int m] st = .ok (.int (sumS f s m)) st := by
  unfold sumS
  by_cases k1 : f = 0
  · simp [u_sign_of_sum, f_sign_of_sum, k1]
  · by_cases k2 : f = s
    · simp [u_sign_of_sum, f_sign_of_sum, k1, k2]
    · by_cases k3 : s = 0
      · simp [u_sign_of_sum, f_sign_of_sum, k1, k3]
      · by_cases k4 : 0 < m
        · simp [u_sign_of_sum, f_sign_of_sum, k1, k2, k3, k4]
        · by_cases k5 : m = 0
          · simp [u_sign_of_sum, f_sign_of_sum, k1, k2, k3, k5]
          · simp [u_sign_of_sum, f_sign_of_sum, k1, k2, k3, k4, k5]
--@ sign_of_roots sign_of_sum sign
theorem x_rootsG (n : Nat) (p u q v : Int) (st : Store) (hu : 0 ≤ u) (hv : 0 ≤ v) (b1 : Bd 900 p) (b2 : Bd 900 q) (b3 : Bd 1900 u) (b4 : Bd 1900 v) : run (n + 2) i_sign_of_roots [.int p, .int u, .int q, .int v] st = .ok (.int (rt2 p u q v)) st := by
  have e1 := r_sign n p st
  have e2 := r_sign n q st
  have o1 : ∀ st : Store, opD st .mul [.int p, .int p] = some (.int (p * p)) := fun st => o_mul (b1.mono (by decide)) (b1.mono (by decide))
  have bp : Bd 1900 (p * p) := Bd_mul (b1.mono (by decide)) (b1.mono (by decide))
  have bq : Bd 1900 (q * q) := Bd_mul (b2.mono (by decide)) (b2.mono (by decide))
  have o2 : ∀ st : Store, opD st .mul [.int q, .int q] = some (.int (q * q)) := fun st => o_mul (b2.mono (by decide)) (b2.mono (by decide))
  have o3 : ∀ st : Store, opD st .mul [.int (p * p), .int u] = some (.int (p * p * u)) := fun st => o_mul (bp.mono (by decide)) (b3.mono (by decide))
  have o4 : ∀ st : Store, opD st .mul [.int (q * q), .int v] = some (.int (q * q * v)) := fun st => o_mul (bq.mono (by decide)) (b4.mono (by decide))
  rw [← rosG hu hv]
  have e3 := x_sign_of_sum n (if 0 < u then sg p else 0) (if 0 < v then sg q else 0) (p * p * u - q * q * v) st
  by_cases k1 : 0 < u
  · by_cases k2 : 0 < v
    · simp only [k1, k2, if_true] at e3
      simp [u_sign_of_roots, f_sign_of_roots, e1, e2, k1, k2, o1, o2, o3, o4, e3]
    · simp only [k1, k2, if_true, if_false] at e3
      simp [u_sign_of_roots, f_sign_of_roots, e1, e2, k1, k2, o1, o2, o3, o4, e3]
  · by_cases k2 : 0 < v
    · simp only [k1, k2, if_true, if_false] at e3
      simp [u_sign_of_roots, f_sign_of_roots, e1, e2, k1, k2, o1, o2, o3, o4, e3]
    · simp only [k1, k2, if_false] at e3
      simp [u_sign_of_roots, f_sign_of_roots, e1, e2, k1, k2, o1, o2, o3, o4, e3]
--@ sign_of_four sign_of_roots sign_of_sum sign
theorem x_four (n : Nat) (p q r t m d e : Int) (st : Store) (hm : 0 ≤ m) (hd : 0 ≤ d) (he : 0 ≤ e) (bp : Bd 220 p) (bq : Bd 220 q) (br : Bd 220 r) (bt : Bd 220 t) (bm : Bd 100 m) (bd : Bd 220 d) (be : Bd 220 e) : run (n + 3) i_sign_of_four [tpl [p, q, r, t], .int m, .int d, .int e] st = .ok (.int (F4 p q r t m d e)) st := by
  have u : ∀ {i : Int}, Bd 220 i → Bd 900 i := fun h => h.mono (by decide)
  have mm : ∀ i j : Int, Bd 220 i → Bd 220 j → Bd 440 (i * j) := fun i j hi hj => Bd_mulA hi hj
  have bde := mm _ _ bd be
  have hde : 0 ≤ d * e := Int.mul_nonneg hd he
  have o : ∀ i j : Int, Bd 900 i → Bd 900 j → ∀ st : Store, opD st .mul [.int i, .int j] = some (.int (i * j)) := fun i j hi hj st => o_mul (hi.mono (by decide)) (hj.mono (by decide))
  have e1 := x_rootsG n p 1 t (d * e) st (by decide) hde (u bp) (u bt) (by decide) (bde.mono (by decide))
  have e2 := x_rootsG n q d r e st hd he (u bq) (u br) (bd.mono (by decide)) (be.mono (by decide))
  have bpp := mm _ _ bp bp
  have bqq := mm _ _ bq bq
  have brr := mm _ _ br br
  have btt := mm _ _ bt bt
  have w1 : Bd 660 (t * t * d) := Bd_mulA btt bd
  have w2 : Bd 880 (t * t * d * e) := Bd_mulA w1 be
  have w3 : Bd 660 (q * q * d) := Bd_mulA bqq bd
  have w4 : Bd 660 (r * r * e) := Bd_mulA brr be
  have w5 : Bd 661 (q * q * d + r * r * e) := Bd_add w3 w4
  have w6 : Bd 761 (m * (q * q * d + r * r * e)) := (Bd_mulA bm w5)
  have w7 : Bd 881 (p * p + t * t * d * e) := Bd_add (bpp.mono (by decide)) w2
  have w8 : Bd 882 (p * p + t * t * d * e - m * (q * q * d + r * r * e)) := Bd_sub w7 (w6.mono (by decide))
  have v1 : Bd 320 (m * q) := Bd_mulA bm bq
  have v2 : Bd 540 (m * q * r) := Bd_mulA v1 br
  have v3 : Bd 541 (p * t - m * q * r) := Bd_sub ((mm _ _ bp bt).mono (by decide)) v2
  have v4 : Bd 543 (2 * (p * t - m * q * r)) := Bd_mulA (a := 2) (by decide) v3
  have e3 := x_rootsG n (p * p + t * t * d * e - m * (q * q * d + r * r * e)) 1 (2 * (p * t - m * q * r)) (d * e) st (by decide) hde (w8.mono (by decide)) (v4.mono (by decide)) (by decide) (bde.mono (by decide))
  have os : ∀ st : Store, opD st .mul [.int d, .int e] = some (.int (d * e)) ∧ opD st .mul [.int p, .int p] = some (.int (p * p)) ∧ opD st .mul [.int t, .int t] = some (.int (t * t)) ∧ opD st .mul [.int q, .int q] = some (.int (q * q)) ∧ opD st .mul [.int r, .int r] = some (.int (r * r)) ∧ opD st .mul [.int (t * t), .int d] = some (.int (t * t * d)) ∧ opD st .mul [.int (t * t * d), .int e] = some (.int (t * t * d * e)) ∧ opD st .mul [.int (q * q), .int d] = some (.int (q * q * d)) ∧ opD st .mul [.int (r * r), .int e] = some (.int (r * r * e)) ∧ opD st .mul [.int m, .int (q * q * d + r * r * e)] = some (.int (m * (q * q * d + r * r * e))) ∧ opD st .mul [.int p, .int t] = some (.int (p * t)) ∧ opD st .mul [.int m, .int q] = some (.int (m * q)) ∧ opD st .mul [.int (m * q), .int r] = some (.int (m * q * r)) ∧ opD st .mul [.int 2, .int (p * t - m * q * r)] = some (.int (2 * (p * t - m * q * r))) := fun st =>
    ⟨o _ _ (u bd) (u be) st, o _ _ (u bp) (u bp) st, o _ _ (u bt) (u bt) st, o _ _ (u bq) (u bq) st, o _ _ (u br) (u br) st, o _ _ (btt.mono (by decide)) (u bd) st, o _ _ (w1.mono (by decide)) (u be) st, o _ _ (bqq.mono (by decide)) (u bd) st, o _ _ (brr.mono (by decide)) (u be) st, o _ _ (bm.mono (by decide)) (w5.mono (by decide)) st, o _ _ (u bp) (u bt) st, o _ _ (bm.mono (by decide)) (u bq) st, o _ _ (v1.mono (by decide)) (u br) st, o _ _ (by decide) (v3.mono (by decide)) st⟩
  obtain ⟨R1, h1⟩ : ∃ R1, R1 = rt2 p 1 t (d * e) := ⟨_, rfl⟩
  obtain ⟨RR, h2⟩ : ∃ RR, RR = rt2 q d r e := ⟨_, rfl⟩
  obtain ⟨R3, h3⟩ : ∃ R3, R3 = rt2 (p * p + t * t * d * e - m * (q * q * d + r * r * e)) 1 (2 * (p * t - m * q * r)) (d * e) := ⟨_, rfl⟩
  have hF : F4 p q r t m d e = (if R1 = 0 ∨ (if 0 < m then RR else 0) = 0 ∨ R1 = (if 0 < m then RR else 0) then (if R1 ≠ 0 then R1 else (if 0 < m then RR else 0)) else sumS R1 (if 0 < m then RR else 0) R3) := by
    rw [h1, h2, h3]; rfl
  rw [hF]
  rw [← h1] at e1; rw [← h2] at e2; rw [← h3] at e3
  have e4 := x_sign_of_sum (n + 1) R1 (if 0 < m then RR else 0) R3 st
  by_cases k0 : 0 < m
  · simp only [k0, if_true] at e4 ⊢
    by_cases k1 : R1 = 0
    · simp [u_sign_of_four, f_sign_of_four, e1, e2, os, k0, k1]
    · by_cases k2 : RR = 0
      · simp [u_sign_of_four, f_sign_of_four, e1, e2, os, k0, k1, k2]
      · by_cases k3 : R1 = RR
        · simp [u_sign_of_four, f_sign_of_four, e1, e2, os, k0, k1, k2, k3]
        · simp [u_sign_of_four, f_sign_of_four, e1, e2, e3, os, k0, k1, k2, k3, e4]
  · simp only [k0, if_false] at e4 ⊢
    by_cases k1 : R1 = 0
    · simp [u_sign_of_four, f_sign_of_four, e1, e2, os, k0, k1]
    · simp [u_sign_of_four, f_sign_of_four, e1, e2, os, k0, k1]
--@ edge_number
theorem x_edge_number (k : Nat) (a b c n m : Int) (st : Store) (bp : Bv 40 [a, b, c]) (bd : Bv 40 [n, m]) : run (k + 1) i_edge_number [tpl [a, b, c], tpl [n, m]] st = .ok (.int (eN n m a b c)) st := by
  simp only [Bv_cons] at bp bd
  have ba : Bd 40 (aN n) := by unfold aN; exact Bd_ite (Bd_neg.mpr bd.1) bd.1
  have hA : (if n < 0 then -n else n) = aN n := rfl
  have o : ∀ i j : Int, Bd 200 i → Bd 200 j → ∀ st : Store, opD st .mul [.int i, .int j] = some (.int (i * j)) := fun i j hi hj st => o_mul (hi.mono (by decide)) (hj.mono (by decide))
  have u : ∀ {i : Int}, Bd 40 i → Bd 200 i := fun h => h.mono (by decide)
  have mm : ∀ i j : Int, Bd 40 i → Bd 40 j → Bd 80 (i * j) := fun i j hi hj => Bd_mulA hi hj
  have h1 : Bd 200 (a * a + b * b) := (Bd_add (n := 81) (mm _ _ bp.1 bp.1) (mm _ _ bp.2.1 bp.2.1)).mono (by decide)
  have h2 : Bd 200 (m - aN n) := (Bd_sub (n := 41) bd.2.1 ba).mono (by decide)
  simp [u_edge_number, f_edge_number, eN, hA, o _ _ (u bp.1) (u bp.1), o _ _ (u bp.2.1) (u bp.2.1), o _ _ (u bp.2.2.1) (u bp.2.2.1), o _ _ h1 h2, o _ _ ((mm _ _ bp.2.2.1 bp.2.2.1).mono (by decide)) (u ba)]
--@ is_edge
def isE : Mo → Bool
  | .hr _ _ => false
  | .ed _ _ _ _ => true
theorem x_is_edge (n : Nat) (x : Mo) (st : Store) : run (n + 1) i_is_edge [x.val] st = .ok (.bl (isE x)) st := by
  cases x with
  | hr p q => simp [u_is_edge, f_is_edge, Mo.val, isE] <;> rfl
  | ed a b c w => simp [u_is_edge, f_is_edge, Mo.val, isE] <;> rfl
--@ checked_moment is_edge_value is_some_triple is_hour lowest are_wholes is_whole
theorem x_edge_val (n : Nat) (a b c w : Int) (st : Store) (g : gcdL [a, b, c] = 1) (hw : w = 1 ∨ w = -1) : run (n + 4) i_is_edge_value [.tup [tpl [a, b, c], .int w]] st = .ok (.bl true) st := by
  have nz : ¬ Zer [a, b, c] := fun z => by have := gcdL_zero.mpr z; omega
  have nz' : ¬ (a = 0 ∧ b = 0 ∧ c = 0) := by rintro ⟨rfl, rfl, rfl⟩; exact nz (by simp)
  have e1 := r_is_some_triple n (v := [a, b, c]) st (T3_lit _ _ _) nz
  have e2 := r_is_whole (n + 2) w st
  rcases hw with rfl | rfl
  · simp [u_is_edge_value, f_is_edge_value, e1, e2, nz'] <;> rfl
  · simp [u_is_edge_value, f_is_edge_value, e1, e2, nz'] <;> rfl
theorem x_edge_valH (n : Nat) (p q : Int) (st : Store) : run (n + 4) i_is_edge_value [tpl [p, q]] st = .ok (.bl false) st := by
  have e1 : run (n + 3) i_is_some_triple [.int p] st = .ok (.bl false) st := by
    have i2 : L3.isType 2 (D.int p) = false := rfl
    simp [u_is_some_triple, f_is_some_triple, u_are_wholes, f_are_wholes, i2] <;> rfl
  simp [u_is_edge_value, f_is_edge_value, e1]
theorem x_checked (k : Nat) (n m : Int) (x : Mo) (st : Store) (h : x.ok n m) (b : ∀ a b c w, x = .ed a b c w → Bv 300 [a, b, c]) : run (k + 5) i_checked_moment [x.val] st = .ok x.val st := by
  cases x with
  | hr p q =>
    have e1 := x_edge_valH k p q st
    have e2 := x_is_hour (k + 1) [p, q] st ⟨p, q, rfl⟩ h
    simp [u_checked_moment, f_checked_moment, Mo.val, e1, e2]
  | ed a b' c w =>
    obtain ⟨g, hw, _⟩ := h
    have nz : ¬ Zer [a, b', c] := fun z => by have := gcdL_zero.mpr z; omega
    have e1 := x_edge_val k a b' c w st g hw
    have e2 := x_lowest (k + 2) [a, b', c] st nz ((b _ _ _ _ rfl).mono (by decide)) (by simp)
    rw [red_unit g] at e2
    simp [u_checked_moment, f_checked_moment, Mo.val, e1, e2]
--@ check_edge is_edge edge_number lowest
theorem x_check_edge (k : Nat) (n m : Int) (x : Mo) (st : Store) (h : x.ok n m) (b : ∀ a b c w, x = .ed a b c w → Bv 40 [a, b, c]) (bd : Bv 40 [n, m]) : run (k + 3) i_check_edge [tpl [n, m], x.val] st = .ok .non st := by
  have e0 := x_is_edge (k + 1) x st
  cases x with
  | hr p q =>
    simp [Mo.val, isE] at e0
    simp [u_check_edge, f_check_edge, Mo.val, e0]
  | ed a b' c w =>
    obtain ⟨g, hw, hp⟩ := h
    have nz : ¬ Zer [a, b', c] := fun z => by have := gcdL_zero.mpr z; omega
    have e2 := x_lowest k [a, b', c] st nz ((b _ _ _ _ rfl).mono (by decide)) (by simp)
    rw [red_unit g] at e2
    have e3 := x_edge_number (k + 1) a b' c n m st (b _ _ _ _ rfl) bd
    have np : ¬ eN n m a b' c ≤ 0 := by omega
    simp [Mo.val, isE] at e0
    simp [u_check_edge, f_check_edge, Mo.val, e0, e2, e3, np]
--@ parts_of is_edge edge_number
def moX : Mo → D
  | .hr p _ => tpl [p, 0, 0]
  | .ed a b c w => tpl [0, -a * c, w * b]
def moY : Mo → D
  | .hr _ q => tpl [q, 0, 0]
  | .ed a b c w => tpl [0, -b * c, -w * a]
def moQ (n m : Int) : Mo → Int
  | .hr _ _ => 0
  | .ed a b c _ => eN n m a b c
def MoB (x : Mo) : Prop := match x with
  | .hr p q => Bv 40 [p, q]
  | .ed a b c _ => Bv 40 [a, b, c]
theorem w_bd {w : Int} (h : w = 1 ∨ w = -1) : Bd 2 w := by rcases h with rfl | rfl <;> decide
theorem x_parts (k : Nat) (n m : Int) (x : Mo) (st : Store) (h : x.ok n m) (b : MoB x) (bd : Bv 40 [n, m]) : run (k + 3) i_parts_of [tpl [n, m], x.val] st = .ok (.tup [moX x, moY x, .int (moQ n m x)]) st := by
  have e0 := x_is_edge (k + 1) x st
  cases x with
  | hr p q =>
    simp [Mo.val, isE] at e0
    simp [u_parts_of, f_parts_of, Mo.val, e0, moX, moY, moQ] <;> rfl
  | ed a b' c w =>
    obtain ⟨g, hw, hp⟩ := h
    have e3 := x_edge_number (k + 1) a b' c n m st b bd
    simp [Mo.val, isE] at e0
    have b2 := b
    simp only [MoB, Bv_cons] at b2
    have bw : Bd 100 w := (w_bd hw).mono (by decide)
    have o : ∀ i j : Int, Bd 100 i → Bd 100 j → ∀ st : Store, opD st .mul [.int i, .int j] = some (.int (i * j)) := fun i j hi hj st => o_mul (hi.mono (by decide)) (hj.mono (by decide))
    have u : ∀ {i : Int}, Bd 40 i → Bd 100 i := fun h => h.mono (by decide)
    simp [u_parts_of, f_parts_of, Mo.val, e0, e3, moX, moY, moQ, o _ _ (Bd_neg.mpr (u b2.1)) (u b2.2.2.1), o _ _ (Bd_neg.mpr (u b2.2.1)) (u b2.2.2.1), o _ _ bw (u b2.2.1), o _ _ (Bd_neg.mpr bw) (u b2.1)] <;> rfl
--@ sign_of_part sign_of_roots sign_of_sum sign
theorem x_part (k : Nat) (n m p0 p1 p2 s : Int) (st : Store) (hs : 0 ≤ s) (b1 : Bd 200 p1) (b2 : Bd 200 p2) (bn : Bd 200 n) (bs : Bd 300 s) : run (k + 3) i_sign_of_part [tpl [n, m], tpl [p0, p1, p2], .int s] st = .ok (.int (if p1 = 0 ∧ p2 = 0 then sg p0 else rt2 (p1 * sg n) (aN n) p2 s)) st := by
  have e1 := r_sign (k + 1) p0 st
  have e2 := r_sign (k + 1) n st
  have ba : Bd 200 (aN n) := by unfold aN; exact Bd_ite (Bd_neg.mpr bn) bn
  have hA : (if n < 0 then -n else n) = aN n := rfl
  have bg : Bd 200 (sg n) := Bd.mono (n := 2) (by rcases sg_cases n with e | e | e <;> rw [e] <;> decide) (by decide)
  have o1 : ∀ st : Store, opD st .mul [.int p1, .int (sg n)] = some (.int (p1 * sg n)) := fun st => o_mul (b1.mono (by decide)) (bg.mono (by decide))
  have e3 := x_rootsG k (p1 * sg n) (aN n) p2 s st (aN0 n) hs ((Bd_mulA b1 bg).mono (by decide)) (b2.mono (by decide)) (ba.mono (by decide)) (bs.mono (by decide))
  by_cases h1 : p1 = 0
  · by_cases h2 : p2 = 0
    · simp [u_sign_of_part, f_sign_of_part, e1, h1, h2]
    · subst h1
      rw [if_neg (by simp [h2])]
      simp only [Int.zero_mul] at e3 o1 ⊢
      simp [u_sign_of_part, f_sign_of_part, e1, e2, h2, hA, o1, e3]
  · rw [if_neg (by simp [h1])]
    simp [u_sign_of_part, f_sign_of_part, e1, e2, h1, hA, o1, e3]
--@ half_of parts_of is_edge edge_number sign_of_part sign_of_roots sign_of_sum sign
theorem rt2_hr (q v : Int) : rt2 q 1 0 v = sg q := by
  unfold rt2
  have e0 : sq 0 = 0 := rfl
  rw [e0, show sq q * 1 + 0 * v = sq q by omega, sg_sqz]
theorem part_ed {n : Int} {a b w E : Int} (c s : Int) (hs : s = sg n) (F : Int) : (if -b * c = 0 ∧ w * a = 0 then sg 0 else rt2 (-b * c * s) F (w * a) E) = rt2 (w * a) E (-(b * (c * s))) F := by
  have e : -b * c * s = -(b * (c * s)) := by grind
  rw [rt2_comm, e]
  split
  · rename_i h
    have h1 : -(b * (c * s)) = 0 := by rw [← e, h.1]; simp
    rw [h1, h.2]
    simp [rt2, sq, sg]
  · rfl
theorem x_half (k : Nat) (n m : Int) (x : Mo) (st : Store) (h : x.ok n m) (b : MoB x) (bd : Bv 40 [n, m]) : run (k + 4) i_half_of [tpl [n, m], x.val] st = .ok (.int (hf n m x)) st := by
  have e1 := x_parts k n m x st h b bd
  have bn : Bd 200 n := by have := bd; simp only [Bv_cons] at this; exact this.1.mono (by decide)
  have key : ∃ y0 y1 y2 x0 x1 x2 s : Int, moY x = tpl [y0, y1, y2] ∧ moX x = tpl [x0, x1, x2] ∧ moQ n m x = s ∧ run (k + 3) i_sign_of_part [tpl [n, m], tpl [y0, y1, y2], .int s] st = .ok (.int (mS1 n m x)) st ∧ run (k + 3) i_sign_of_part [tpl [n, m], tpl [x0, x1, x2], .int s] st = .ok (.int (mS0 n m x)) st := by
    cases x with
    | hr p q =>
      have e2 := x_part k n m q 0 0 0 st (by decide) (by decide) (by decide) bn (by decide)
      have e3 := x_part k n m p 0 0 0 st (by decide) (by decide) (by decide) bn (by decide)
      refine ⟨_, _, _, _, _, _, _, rfl, rfl, rfl, ?_, ?_⟩
      · refine Eq.trans e2 ?_; simp only [mS1, Mo.u1, Mo.d, Mo.v1, rt2_hr, and_self, if_true]
      · refine Eq.trans e3 ?_; simp only [mS0, Mo.u0, Mo.d, Mo.v0, rt2_hr, and_self, if_true]
    | ed a b' c w =>
      obtain ⟨g, hw, hp⟩ := h
      have b2 := b
      simp only [MoB, Bv_cons] at b2
      simp only [Bv_cons] at bd
      have bw : Bd 40 w := (w_bd hw).mono (by decide)
      have mm : ∀ i j : Int, Bd 40 i → Bd 40 j → Bd 80 (i * j) := fun i j hi hj => Bd_mulA hi hj
      have ba : Bd 40 (aN n) := by unfold aN; exact Bd_ite (Bd_neg.mpr bd.1) bd.1
      have bE : Bd 300 (eN n m a b' c) := by
        unfold eN
        exact (Bd_sub (n := 131) ((Bd_mulA (Bd_add (n := 81) (mm _ _ b2.1 b2.1) (mm _ _ b2.2.1 b2.2.1)) (Bd_sub (n := 41) bd.2.1 ba)).mono (by decide)) ((Bd_mulA (mm _ _ b2.2.2.1 b2.2.2.1) ba).mono (by decide))).mono (by decide)
      have e2 := x_part k n m 0 (-b' * c) (-w * a) (eN n m a b' c) st (Int.le_of_lt hp) ((mm _ _ (Bd_neg.mpr b2.2.1) b2.2.2.1).mono (by decide)) ((mm _ _ (Bd_neg.mpr bw) b2.1).mono (by decide)) bn bE
      have e3 := x_part k n m 0 (-a * c) (w * b') (eN n m a b' c) st (Int.le_of_lt hp) ((mm _ _ (Bd_neg.mpr b2.1) b2.2.2.1).mono (by decide)) ((mm _ _ bw b2.2.1).mono (by decide)) bn bE
      rw [part_ed c (sg n) rfl (aN n)] at e2 e3
      refine ⟨_, _, _, _, _, _, _, rfl, rfl, rfl, ?_, ?_⟩
      · refine Eq.trans e2 ?_; simp only [mS1, Mo.u1, Mo.d, Mo.v1, Int.neg_mul]
      · refine Eq.trans e3 ?_; simp only [mS0, Mo.u0, Mo.d, Mo.v0]
  obtain ⟨y0, y1, y2, x0, x1, x2, s, q1, q2, q3, q4, q5⟩ := key
  rw [q1, q2, q3] at e1
  unfold hf
  generalize mS1 n m x = A at *
  generalize mS0 n m x = B at *
  by_cases k1 : A = 0
  · by_cases k2 : 0 < B
    · simp [u_half_of, f_half_of, e1, q4, q5, k1, k2]
    · simp [u_half_of, f_half_of, e1, q4, q5, k1, k2]
  · by_cases k2 : 0 < A
    · simp [u_half_of, f_half_of, e1, q4, q5, k1, k2]
    · simp [u_half_of, f_half_of, e1, q4, q5, k1, k2]
--@ turn_sign parts_of is_edge edge_number sign_of_four sign_of_roots sign_of_sum sign
theorem bd_ee {n m a b c w a' b' c' w' : Int} : bd n m (.ed a b c w) (.ed a' b' c' w') = F4 (aN n * (-a * c * (-b' * c') - -b * c * (-a' * c'))) (sg n * (w * b * (-b' * c') - -w * a * (-a' * c'))) (sg n * (-a * c * (-w' * a') - -b * c * (w' * b'))) (w * b * (-w' * a') - -w * a * (w' * b')) (aN n) (eN n m a b c) (eN n m a' b' c') := by
  unfold bd
  simp only [Mo.u0, Mo.u1, Mo.v0, Mo.v1, Mo.d]
  have e1 : aN n * (-(a * (c * sg n)) * -(b' * (c' * sg n)) - -(b * (c * sg n)) * -(a' * (c' * sg n))) = aN n * (-a * c * (-b' * c') - -b * c * (-a' * c')) := by
    rw [← aN_s2 n (-a * c * (-b' * c') - -b * c * (-a' * c'))]; congr 1; grind
  rw [e1]
  congr 1 <;> grind
theorem x_turn (k : Nat) (n m : Int) (x y : Mo) (st : Store) (h : x.ok n m) (h' : y.ok n m) (b : MoB x) (b' : MoB y) (hd : Bv 40 [n, m]) : run (k + 4) i_turn_sign [tpl [n, m], x.val, y.val] st = .ok (.int (bd n m x y)) st := by
  have e1 := x_parts k n m x st h b hd
  have e2 := x_parts k n m y st h' b' hd
  have e3 := x_is_edge (k + 2) x st
  have e4 := x_is_edge (k + 2) y st
  have e5 := r_sign (k + 2) n st
  have hA : (if n < 0 then -n else n) = aN n := rfl
  have bd' := hd
  simp only [Bv_cons] at bd'
  have ba : Bd 40 (aN n) := by unfold aN; exact Bd_ite (Bd_neg.mpr bd'.1) bd'.1
  have bg : Bd 40 (sg n) := Bd.mono (n := 2) (by rcases sg_cases n with e | e | e <;> rw [e] <;> decide) (by decide)
  have o : ∀ i j : Int, Bd 220 i → Bd 220 j → ∀ st : Store, opD st .mul [.int i, .int j] = some (.int (i * j)) := fun i j hi hj st => o_mul (hi.mono (by decide)) (hj.mono (by decide))
  have mm : ∀ i j : Int, Bd 40 i → Bd 40 j → Bd 80 (i * j) := fun i j hi hj => Bd_mulA hi hj
  have mn : ∀ i j : Int, Bd 80 i → Bd 80 j → Bd 160 (i * j) := fun i j hi hj => Bd_mulA hi hj
  have U : ∀ {i : Int}, Bd 40 i → Bd 80 i := fun h => h.mono (by decide)
  have W : ∀ {i : Int}, Bd 80 i → Bd 220 i := fun h => h.mono (by decide)
  have sub : ∀ i j : Int, Bd 160 i → Bd 160 j → Bd 161 (i - j) := fun i j hi hj => Bd_sub (n := 161) hi hj
  have bE : ∀ a b c : Int, Bd 40 a → Bd 40 b → Bd 40 c → Bd 220 (eN n m a b c) := fun a b c ha hb hc => by
    unfold eN
    exact (Bd_sub (n := 131) ((Bd_mulA (Bd_add (n := 81) (mm _ _ ha ha) (mm _ _ hb hb)) (Bd_sub (n := 41) bd'.2.1 ba)).mono (by decide)) ((Bd_mulA (mm _ _ hc hc) ba).mono (by decide))).mono (by decide)
  have a0 := aN0 n
  cases x with
  | hr p q =>
    simp only [MoB, Bv_cons] at b
    simp only [Mo.val, isE, moX, moY, moQ] at e1 e3
    cases y with
    | hr p' q' =>
      simp only [MoB, Bv_cons] at b'
      simp only [Mo.val, isE, moX, moY, moQ] at e2 e4 ⊢
      have eb : bd n m (.hr p q) (.hr p' q') = sg (p * q' - q * p') := by
        unfold bd
        simp only [Mo.u0, Mo.u1, Mo.v0, Mo.v1, Mo.d, Int.zero_mul, Int.mul_zero, Int.sub_self]
        rw [F4_a _ _ _ _ a0 (by decide), rt2_l0 _ _ 1 (by decide)]; rfl
      rw [eb]
      have e6 := r_sign (k + 2) (p * q' - q * p') st
      simp [u_turn_sign, f_turn_sign, e1, e2, e3, e4, e5, hA, den_comp, o _ _ (W (U b.1)) (W (U b'.2.1)), o _ _ (W (U b.2.1)) (W (U b'.1)), e6]
    | ed a' b'' c' w' =>
      obtain ⟨g', hw', hp'⟩ := h'
      simp only [MoB, Bv_cons] at b'
      simp only [Mo.val, isE, moX, moY, moQ] at e2 e4 ⊢
      have bw' : Bd 40 w' := (w_bd hw').mono (by decide)
      have U1 := mm _ _ (Bd_neg.mpr b'.1) b'.2.2.1
      have U2 := mm _ _ bw' b'.2.1
      have V1 := mm _ _ (Bd_neg.mpr b'.2.1) b'.2.2.1
      have V2 := mm _ _ (Bd_neg.mpr bw') b'.1
      have eb : bd n m (.hr p q) (.ed a' b'' c' w') = rt2 ((p * (-b'' * c') - q * (-a' * c')) * sg n) (aN n) (p * (-w' * a') - q * (w' * b'')) (eN n m a' b'' c') := by
        unfold bd
        simp only [Mo.u0, Mo.u1, Mo.v0, Mo.v1, Mo.d, Int.zero_mul, Int.mul_zero, Int.sub_self]
        rw [F4_a _ _ _ _ a0 (Int.le_of_lt hp')]
        congr 1 <;> grind
      rw [eb]
      generalize -a' * c' = u1 at *
      generalize w' * b'' = u2 at *
      generalize -b'' * c' = v1 at *
      generalize -w' * a' = v2 at *
      have R0 := sub _ _ (mn _ _ (U b.1) V1) (mn _ _ (U b.2.1) U1)
      have R1 := sub _ _ (mn _ _ (U b.1) V2) (mn _ _ (U b.2.1) U2)
      have hE := bE _ _ _ b'.1 b'.2.1 b'.2.2.1
      have e6 := x_rootsG (k + 1) ((p * v1 - q * u1) * sg n) (aN n) (p * v2 - q * u2) (eN n m a' b'' c') st a0 (Int.le_of_lt hp') ((Bd_mulA R0 bg).mono (by decide)) (R1.mono (by decide)) (ba.mono (by decide)) (hE.mono (by decide))
      generalize eN n m a' b'' c' = EE at *
      generalize rt2 ((p * v1 - q * u1) * sg n) (aN n) (p * v2 - q * u2) EE = F at *
      have q1 : (if EE > 0 then EE else 0) = EE := if_pos hp'
      simp [u_turn_sign, f_turn_sign, e1, e2, e3, e4, e5, hA, den_comp, o _ _ (W (U b.1)) (W V1), o _ _ (W (U b.2.1)) (W U1), o _ _ (W (U b.1)) (W V2), o _ _ (W (U b.2.1)) (W U2), o _ _ (R0.mono (by decide)) (bg.mono (by decide)), hp', e6]
  | ed a b'' c w =>
    obtain ⟨g, hw, hp⟩ := h
    simp only [MoB, Bv_cons] at b
    simp only [Mo.val, isE, moX, moY, moQ] at e1 e3
    cases y with
    | hr p' q' =>
      simp only [MoB, Bv_cons] at b'
      simp only [Mo.val, isE, moX, moY, moQ] at e2 e4 ⊢
      have bw : Bd 40 w := (w_bd hw).mono (by decide)
      have X1 := mm _ _ (Bd_neg.mpr b.1) b.2.2.1
      have X2 := mm _ _ bw b.2.1
      have Y1 := mm _ _ (Bd_neg.mpr b.2.1) b.2.2.1
      have Y2 := mm _ _ (Bd_neg.mpr bw) b.1
      have eb : bd n m (.ed a b'' c w) (.hr p' q') = rt2 ((-a * c * q' - -b'' * c * p') * sg n) (aN n) (w * b'' * q' - -w * a * p') (eN n m a b'' c) := by
        unfold bd
        simp only [Mo.u0, Mo.u1, Mo.v0, Mo.v1, Mo.d, Int.zero_mul, Int.mul_zero, Int.sub_self]
        rw [F4_b _ _ _ _ a0 (Int.le_of_lt hp)]
        congr 1 <;> grind
      rw [eb]
      generalize -a * c = x1 at *
      generalize w * b'' = x2 at *
      generalize -b'' * c = y1 at *
      generalize -w * a = y2 at *
      have R0 := sub _ _ (mn _ _ X1 (U b'.2.1)) (mn _ _ Y1 (U b'.1))
      have R1 := sub _ _ (mn _ _ X2 (U b'.2.1)) (mn _ _ Y2 (U b'.1))
      have hE := bE _ _ _ b.1 b.2.1 b.2.2.1
      have e6 := x_rootsG (k + 1) ((x1 * q' - y1 * p') * sg n) (aN n) (x2 * q' - y2 * p') (eN n m a b'' c) st a0 (Int.le_of_lt hp) ((Bd_mulA R0 bg).mono (by decide)) (R1.mono (by decide)) (ba.mono (by decide)) (hE.mono (by decide))
      generalize eN n m a b'' c = EE at *
      generalize rt2 ((x1 * q' - y1 * p') * sg n) (aN n) (x2 * q' - y2 * p') EE = F at *
      have np : ¬ EE < 0 := by omega
      simp [u_turn_sign, f_turn_sign, e1, e2, e3, e4, e5, hA, den_comp, o _ _ (W X1) (W (U b'.2.1)), o _ _ (W Y1) (W (U b'.1)), o _ _ (W X2) (W (U b'.2.1)), o _ _ (W Y2) (W (U b'.1)), o _ _ (R0.mono (by decide)) (bg.mono (by decide)), np, e6]
    | ed a' b3 c' w' =>
      obtain ⟨g', hw', hp'⟩ := h'
      simp only [MoB, Bv_cons] at b'
      simp only [Mo.val, isE, moX, moY, moQ] at e2 e4 ⊢
      rw [bd_ee]
      have bw : Bd 40 w := (w_bd hw).mono (by decide)
      have bw' : Bd 40 w' := (w_bd hw').mono (by decide)
      have X1 := mm _ _ (Bd_neg.mpr b.1) b.2.2.1
      have X2 := mm _ _ bw b.2.1
      have Y1 := mm _ _ (Bd_neg.mpr b.2.1) b.2.2.1
      have Y2 := mm _ _ (Bd_neg.mpr bw) b.1
      have U1 := mm _ _ (Bd_neg.mpr b'.1) b'.2.2.1
      have U2 := mm _ _ bw' b'.2.1
      have V1 := mm _ _ (Bd_neg.mpr b'.2.1) b'.2.2.1
      have V2 := mm _ _ (Bd_neg.mpr bw') b'.1
      generalize -a * c = x1 at *
      generalize w * b'' = x2 at *
      generalize -b'' * c = y1 at *
      generalize -w * a = y2 at *
      generalize -a' * c' = u1 at *
      generalize w' * b3 = u2 at *
      generalize -b3 * c' = v1 at *
      generalize -w' * a' = v2 at *
      have P := sub _ _ (mn _ _ X1 V1) (mn _ _ Y1 U1)
      have Q := sub _ _ (mn _ _ X2 V1) (mn _ _ Y2 U1)
      have R := sub _ _ (mn _ _ X1 V2) (mn _ _ Y1 U2)
      have T := sub _ _ (mn _ _ X2 V2) (mn _ _ Y2 U2)
      have e6 := x_four k (aN n * (x1 * v1 - y1 * u1)) (sg n * (x2 * v1 - y2 * u1)) (sg n * (x1 * v2 - y1 * u2)) (x2 * v2 - y2 * u2) (aN n) (eN n m a b'' c) (eN n m a' b3 c') st a0 (Int.le_of_lt hp) (Int.le_of_lt hp') ((Bd_mulA ba P).mono (by decide)) ((Bd_mulA bg Q).mono (by decide)) ((Bd_mulA bg R).mono (by decide)) (T.mono (by decide)) (ba.mono (by decide)) (bE _ _ _ b.1 b.2.1 b.2.2.1) (bE _ _ _ b'.1 b'.2.1 b'.2.2.1)
      generalize F4 (aN n * (x1 * v1 - y1 * u1)) (sg n * (x2 * v1 - y2 * u1)) (sg n * (x1 * v2 - y1 * u2)) (x2 * v2 - y2 * u2) (aN n) (eN n m a b'' c) (eN n m a' b3 c') = F at *
      simp [u_turn_sign, f_turn_sign, e1, e2, e3, e4, e5, hA, o _ _ (W X1) (W V1), o _ _ (W Y1) (W U1), o _ _ (W X2) (W V1), o _ _ (W Y2) (W U1), o _ _ (W X1) (W V2), o _ _ (W Y1) (W U2), o _ _ (W X2) (W V2), o _ _ (W Y2) (W U2), o _ _ (ba.mono (by decide)) (P.mono (by decide)), o _ _ (bg.mono (by decide)) (Q.mono (by decide)), o _ _ (bg.mono (by decide)) (R.mono (by decide)), e6]
--@ order_of half_of turn_sign parts_of is_edge edge_number sign_of_part sign_of_four sign_of_roots sign_of_sum sign
theorem x_order_of (k : Nat) (n m : Int) (x y : Mo) (st : Store) (h : x.ok n m) (h' : y.ok n m) (b : MoB x) (b' : MoB y) (hd : Bv 40 [n, m]) : run (k + 5) i_order_of [tpl [n, m], x.val, y.val] st = .ok (.int (ordM n m x y)) st := by
  have e1 := x_half k n m x st h b hd
  have e2 := x_half k n m y st h' b' hd
  have e3 := x_turn k n m x y st h h' b b' hd
  rw [hf_fh h] at e1
  rw [hf_fh h'] at e2
  unfold ordM
  generalize bd n m x y = B at *
  by_cases k1 : fh n m x
  · by_cases k2 : fh n m y
    · simp only [k1, k2, if_true] at e1 e2 ⊢
      simp [u_order_of, f_order_of, e1, e2, e3]
    · simp only [k1, k2, if_true, if_false] at e1 e2 ⊢
      simp [u_order_of, f_order_of, e1, e2, e3]
  · by_cases k2 : fh n m y
    · simp only [k1, k2, if_true, if_false] at e1 e2 ⊢
      simp [u_order_of, f_order_of, e1, e2, e3]
    · simp only [k1, k2, if_false] at e1 e2 ⊢
      simp [u_order_of, f_order_of, e1, e2, e3]
--@ compare_moments order_of half_of turn_sign parts_of is_edge edge_number sign_of_part sign_of_four sign_of_roots sign_of_sum sign check_day is_day is_height checked_moment check_edge is_edge_value is_some_triple is_hour lowest are_wholes is_whole
theorem MoB.ed {x : Mo} (b : MoB x) : ∀ a b' c w, x = .ed a b' c w → Bv 40 [a, b', c] := by
  rintro a b' c w rfl; exact b
theorem x_compare (k : Nat) (n m : Int) (x y : Mo) (st : Store) (g : gcdL [n, m] = 1) (dd : Dat [n, m]) (h : x.ok n m) (h' : y.ok n m) (b : MoB x) (b' : MoB y) (hd : Bv 40 [n, m]) : run (k + 6) i_compare_moments [tpl [n, m], x.val, y.val] st = .ok (.int (ordM n m x y)) st := by
  have e1 := x_check_day k [n, m] st g dd
  have e2 := x_checked k n m x st h fun a b' c w e => (b.ed a b' c w e).mono (by decide)
  have e3 := x_checked k n m y st h' fun a b'' c w e => (b'.ed a b'' c w e).mono (by decide)
  have e4 := x_check_edge (k + 2) n m x st h b.ed hd
  have e5 := x_check_edge (k + 2) n m y st h' b'.ed hd
  have e6 := x_order_of k n m x y st h h' b b' hd
  have p1 : x.val.pure = true := by cases x <;> simp [Mo.val]
  have p2 : y.val.pure = true := by cases y <;> simp [Mo.val]
  generalize x.val = X at *
  generalize y.val = Y at *
  simp [u_compare_moments, f_compare_moments, e1, e2, e3, e4, e5, e6, p1, p2]
--@ sign_at sign_of_plane is_edge edge_number sign_of_roots sign_of_sum sign check_day is_day is_height checked_moment check_edge is_edge_value is_some_triple is_hour lowest are_wholes is_whole plane_in
def sgE (n m : Int) (p q r a b c w : Int) : Int := rt2 (p * (w * b) - q * (w * a)) (eN n m a b c) ((r * (a * a + b * b) - c * (p * a + q * b)) * sg n) (aN n)
theorem x_sign_atE (k : Nat) (n m : Int) (p q r a b c w : Int) (st : Store) (g : gcdL [n, m] = 1) (dd : Dat [n, m]) (hd : Bv 40 [n, m]) (h : (Mo.ed a b c w).ok n m) (bb : Bv 40 [a, b, c]) (gp : gcdL [p, q, r] = 1) (bp : Bv 40 [p, q, r]) : run (k + 6) i_sign_at [tpl [p, q, r], tpl [n, m], .tup [tpl [a, b, c], .int w]] st = .ok (.int (sgE n m p q r a b c w)) st := by
  have nz : ¬ Zer [p, q, r] := fun z => by have := gcdL_zero.mpr z; omega
  have e1 := x_plane_in (k + 1) [p, q, r] st (T3_lit _ _ _) nz (bp.mono (by decide))
  rw [red_unit gp] at e1
  have e2 := x_check_day k [n, m] st g dd
  have e3 := x_checked k n m (.ed a b c w) st h fun a' b' c' w' e => by cases e; exact bb.mono (by decide)
  have e4 := x_check_edge (k + 2) n m (.ed a b c w) st h (fun a' b' c' w' e => by cases e; exact bb) hd
  have e5 := x_is_edge (k + 3) (.ed a b c w) st
  have e6 := r_sign (k + 3) n st
  have e7 := x_edge_number (k + 3) a b c n m st bb hd
  obtain ⟨_, hw, hp⟩ := h
  simp only [Mo.val, isE] at e3 e4 e5
  have hA : (if n < 0 then -n else n) = aN n := rfl
  have hd' := hd
  simp only [Bv_cons] at hd' bb bp
  have ba : Bd 40 (aN n) := by unfold aN; exact Bd_ite (Bd_neg.mpr hd'.1) hd'.1
  have bg : Bd 40 (sg n) := Bd.mono (n := 2) (by rcases sg_cases n with e | e | e <;> rw [e] <;> decide) (by decide)
  have bw : Bd 40 w := (w_bd hw).mono (by decide)
  have o : ∀ i j : Int, Bd 220 i → Bd 220 j → ∀ st : Store, opD st .mul [.int i, .int j] = some (.int (i * j)) := fun i j hi hj st => o_mul (hi.mono (by decide)) (hj.mono (by decide))
  have mm : ∀ i j : Int, Bd 40 i → Bd 40 j → Bd 80 (i * j) := fun i j hi hj => Bd_mulA hi hj
  have u : ∀ {i : Int}, Bd 40 i → Bd 220 i := fun h => h.mono (by decide)
  have k1 : Bd 81 (a * a + b * b) := Bd_add (n := 81) (mm _ _ bb.1 bb.1) (mm _ _ bb.2.1 bb.2.1)
  have k2 : Bd 81 (p * a + q * b) := Bd_add (n := 81) (mm _ _ bp.1 bb.1) (mm _ _ bp.2.1 bb.2.1)
  have k3 : Bd 122 (r * (a * a + b * b) - c * (p * a + q * b)) := Bd_sub (n := 122) (Bd_mulA bp.2.2.1 k1) (Bd_mulA bb.2.2.1 k2)
  have k4 : Bd 81 (p * b - q * a) := Bd_sub (n := 81) (mm _ _ bp.1 bb.2.1) (mm _ _ bp.2.1 bb.1)
  have bE : Bd 220 (eN n m a b c) := by
    unfold eN
    exact (Bd_sub (n := 131) ((Bd_mulA k1 (Bd_sub (n := 41) hd'.2.1 ba)).mono (by decide)) ((Bd_mulA (mm _ _ bb.2.2.1 bb.2.2.1) ba).mono (by decide))).mono (by decide)
  have e8 := x_rootsG (k + 2) ((r * (a * a + b * b) - c * (p * a + q * b)) * sg n) (aN n) (w * (p * b - q * a)) (eN n m a b c) st (aN0 n) (Int.le_of_lt hp) ((Bd_mulA k3 bg).mono (by decide)) ((Bd_mulA bw k4).mono (by decide)) (ba.mono (by decide)) (bE.mono (by decide))
  rw [rt2_comm, show w * (p * b - q * a) = p * (w * b) - q * (w * a) by grind] at e8
  have ow : ∀ st : Store, opD st .mul [.int w, .int (p * b - q * a)] = some (.int (p * (w * b) - q * (w * a))) := fun st => by
    rw [o _ _ (u bw) (k4.mono (by decide))]; congr 2; grind
  have e9 : run (k + 5) i_sign_of_plane [tpl [p, q, r], tpl [n, m], .tup [tpl [a, b, c], .int w]] st = .ok (.int (sgE n m p q r a b c w)) st := by
    unfold sgE
    simp [u_sign_of_plane, f_sign_of_plane, e5, e6, e7, hA, o _ _ (u bb.1) (u bb.1), o _ _ (u bb.2.1) (u bb.2.1), o _ _ (u bp.1) (u bb.1), o _ _ (u bp.2.1) (u bb.2.1), o _ _ (u bp.2.2.1) (k1.mono (by decide)), o _ _ (u bb.2.2.1) (k2.mono (by decide)), o _ _ (k3.mono (by decide)) (u bg), o _ _ (u bp.1) (u bb.2.1), o _ _ (u bp.2.1) (u bb.1), ow, e8]
  simp [u_sign_at, f_sign_at, e1, e2, e3, e4, e9]
end LawX

set_option maxHeartbeats 2000000
namespace LawX
open L2 L3 PySem PySem.Spec PyProof.Rows Vec
--@ _law_root _law_sgn
theorem x_law_root (n : Nat) (p q d : Int) (st : Store) (b1 : Bd 900 p) (b2 : Bd 900 q) (b3 : Bd 1900 d) : run (n + 2) i__law_root [.int p, .int q, .int d] st = .ok (.int (rt2 p 1 q d)) st := by
  have ba : ∀ i : Int, Bd 900 i → Bd 900 (if i < 0 then -i else i) := fun i h => Bd_ite (Bd_neg.mpr h) h
  have o : ∀ i j : Int, Bd 900 i → Bd 900 j → ∀ st : Store, opD st .mul [.int i, .int j] = some (.int (i * j)) := fun i j hi hj st => o_mul (hi.mono (by decide)) (hj.mono (by decide))
  have o2 : ∀ st : Store, opD st .mul [.int (q * if q < 0 then -q else q), .int d] = some (.int ((q * if q < 0 then -q else q) * d)) := fun st => o_mul ((Bd_mulA b2 (ba q b2)).mono (by decide)) (b3.mono (by decide))
  have e := x_sgn n ((p * if p < 0 then -p else p) + (q * if q < 0 then -q else q) * d) st
  have er : rt2 p 1 q d = sg ((p * if p < 0 then -p else p) + (q * if q < 0 then -q else q) * d) := by
    unfold rt2 sq; rw [Int.mul_one]
  rw [er]
  simp [u__law_root, f__law_root, o _ _ b1 (ba p b1), o _ _ b2 (ba q b2), o2, e]
--@ _law_two _law_sgn
theorem x_law_two (n : Nat) (p d q e : Int) (st : Store) (b1 : Bd 900 p) (b2 : Bd 900 q) (b3 : Bd 1900 d) (b4 : Bd 1900 e) : run (n + 2) i__law_two [.int p, .int d, .int q, .int e] st = .ok (.int (rt2 p d q e)) st := by
  have ba : ∀ i : Int, Bd 900 i → Bd 900 (if i < 0 then -i else i) := fun i h => Bd_ite (Bd_neg.mpr h) h
  have o : ∀ i j : Int, Bd 900 i → Bd 900 j → ∀ st : Store, opD st .mul [.int i, .int j] = some (.int (i * j)) := fun i j hi hj st => o_mul (hi.mono (by decide)) (hj.mono (by decide))
  have o2 : ∀ st : Store, opD st .mul [.int (q * if q < 0 then -q else q), .int e] = some (.int ((q * if q < 0 then -q else q) * e)) := fun st => o_mul ((Bd_mulA b2 (ba q b2)).mono (by decide)) (b4.mono (by decide))
  have o3 : ∀ st : Store, opD st .mul [.int (p * if p < 0 then -p else p), .int d] = some (.int ((p * if p < 0 then -p else p) * d)) := fun st => o_mul ((Bd_mulA b1 (ba p b1)).mono (by decide)) (b3.mono (by decide))
  have e' := x_sgn n ((p * if p < 0 then -p else p) * d + (q * if q < 0 then -q else q) * e) st
  have er : rt2 p d q e = sg ((p * if p < 0 then -p else p) * d + (q * if q < 0 then -q else q) * e) := by
    unfold rt2 sq; rfl
  rw [er]
  simp [u__law_two, f__law_two, o _ _ b1 (ba p b1), o _ _ b2 (ba q b2), o2, o3, e']
--@ _law_course _law_sgn
def crs (n m : Int) (x : Mo) : D := .tup [tpl [x.u0, x.u1], .int (x.d n m), tpl [x.v0 n, x.v1 n]]
theorem x_course (k : Nat) (n m : Int) (x : Mo) (st : Store) (h : x.ok n m) (b : MoB x) (hd : Bv 40 [n, m]) : run (k + 2) i__law_course [tpl [n, m], x.val] st = .ok (crs n m x) st := by
  cases x with
  | hr p q =>
    have i2 : L3.isType 2 (D.int p) = false := rfl
    simp [u__law_course, f__law_course, Mo.val, i2, crs, Mo.u0, Mo.u1, Mo.d, Mo.v0, Mo.v1] <;> rfl
  | ed a b' c w =>
    obtain ⟨g, hw, hp⟩ := h
    simp only [MoB, Bv_cons] at b
    simp only [Bv_cons] at hd
    have i2 : L3.isType 2 (tpl [a, b', c]) = true := rfl
    have e1 := x_sgn k n st
    have ba : Bd 40 (aN n) := by unfold aN; exact Bd_ite (Bd_neg.mpr hd.1) hd.1
    have hA : (if n < 0 then -n else n) = aN n := rfl
    have bg : Bd 40 (sg n) := Bd.mono (n := 2) (by rcases sg_cases n with e | e | e <;> rw [e] <;> decide) (by decide)
    have bw : Bd 40 w := (w_bd hw).mono (by decide)
    have o : ∀ i j : Int, Bd 200 i → Bd 200 j → ∀ st : Store, opD st .mul [.int i, .int j] = some (.int (i * j)) := fun i j hi hj st => o_mul (hi.mono (by decide)) (hj.mono (by decide))
    have u : ∀ {i : Int}, Bd 40 i → Bd 200 i := fun h => h.mono (by decide)
    have mm : ∀ i j : Int, Bd 40 i → Bd 40 j → Bd 80 (i * j) := fun i j hi hj => Bd_mulA hi hj
    have k1 : Bd 200 (a * a + b' * b') := (Bd_add (n := 81) (mm _ _ b.1 b.1) (mm _ _ b.2.1 b.2.1)).mono (by decide)
    have k2 : Bd 200 (m - aN n) := (Bd_sub (n := 41) hd.2.1 ba).mono (by decide)
    have k3 : Bd 200 (c * sg n) := (mm _ _ b.2.2.1 bg).mono (by decide)
    simp [u__law_course, f__law_course, Mo.val, i2, crs, Mo.u0, Mo.u1, Mo.d, Mo.v0, Mo.v1, e1, hA, eN, o _ _ (u b.2.2.1) (u bg), o _ _ (u bw) (u b.2.1), o _ _ (u bw) (u b.1), o _ _ (u b.1) (u b.1), o _ _ (u b.2.1) (u b.2.1), o _ _ k1 k2, o _ _ (u b.2.2.1) (u b.2.2.1), o _ _ ((mm _ _ b.2.2.1 b.2.2.1).mono (by decide)) (u ba), o _ _ (u b.1) k3, o _ _ (u b.2.1) k3] <;> rfl
--@ _law_first_half _law_two _law_sgn
theorem Mo_bd {n m : Int} {x : Mo} (h : x.ok n m) (b : MoB x) (hd : Bv 40 [n, m]) : Bd 82 x.u0 ∧ Bd 82 x.u1 ∧ Bd 122 (x.v0 n) ∧ Bd 122 (x.v1 n) ∧ Bd 140 (x.d n m) ∧ 0 ≤ x.d n m := by
  simp only [Bv_cons] at hd
  have ba : Bd 40 (aN n) := by unfold aN; exact Bd_ite (Bd_neg.mpr hd.1) hd.1
  have bg : Bd 40 (sg n) := Bd.mono (n := 2) (by rcases sg_cases n with e | e | e <;> rw [e] <;> decide) (by decide)
  have mm : ∀ i j : Int, Bd 40 i → Bd 40 j → Bd 80 (i * j) := fun i j hi hj => Bd_mulA hi hj
  cases x with
  | hr p q =>
    simp only [MoB, Bv_cons] at b
    exact ⟨b.1.mono (by decide), b.2.1.mono (by decide), Bd_zero, Bd_zero, (by decide : Bd 140 1), (by decide : (0 : Int) ≤ 1)⟩
  | ed a b' c w =>
    obtain ⟨g, hw, hp⟩ := h
    simp only [MoB, Bv_cons] at b
    have bw : Bd 40 w := (w_bd hw).mono (by decide)
    simp only [Mo.u0, Mo.u1, Mo.v0, Mo.v1, Mo.d]
    refine ⟨(mm _ _ bw b.2.1).mono (by decide), (Bd_neg.mpr (mm _ _ bw b.1)).mono (by decide), Bd_neg.mpr ((Bd_mulA b.1 (mm _ _ b.2.2.1 bg)).mono (by decide)), Bd_neg.mpr ((Bd_mulA b.2.1 (mm _ _ b.2.2.1 bg)).mono (by decide)), ?_, Int.le_of_lt hp⟩
    unfold eN
    exact (Bd_sub (n := 131) ((Bd_mulA (Bd_add (n := 81) (mm _ _ b.1 b.1) (mm _ _ b.2.1 b.2.1)) (Bd_sub (n := 41) hd.2.1 ba)).mono (by decide)) ((Bd_mulA (mm _ _ b.2.2.1 b.2.2.1) ba).mono (by decide))).mono (by decide)
theorem aN_bd {n m : Int} (hd : Bv 40 [n, m]) : Bd 40 (aN n) := by
  simp only [Bv_cons] at hd
  unfold aN; exact Bd_ite (Bd_neg.mpr hd.1) hd.1
theorem x_fh (k : Nat) (n m : Int) (x : Mo) (st : Store) (h : x.ok n m) (b : MoB x) (hd : Bv 40 [n, m]) : run (k + 3) i__law_first_half [crs n m x, .int (aN n)] st = .ok (.bl (decide (fh n m x))) st := by
  obtain ⟨h0, h1, h2, h3, h4, _⟩ := Mo_bd h b hd
  have ba := aN_bd hd
  have e1 := x_law_two k x.u1 (x.d n m) (x.v1 n) (aN n) st (h1.mono (by decide)) (h3.mono (by decide)) (h4.mono (by decide)) (ba.mono (by decide))
  have e2 := x_law_two k x.u0 (x.d n m) (x.v0 n) (aN n) st (h0.mono (by decide)) (h2.mono (by decide)) (h4.mono (by decide)) (ba.mono (by decide))
  have q1 : rt2 x.u1 (x.d n m) (x.v1 n) (aN n) = mS1 n m x := rfl
  have q2 : rt2 x.u0 (x.d n m) (x.v0 n) (aN n) = mS0 n m x := rfl
  rw [q1] at e1; rw [q2] at e2
  have hfh : fh n m x ↔ (mS1 n m x < 0 ∨ (mS1 n m x = 0 ∧ mS0 n m x < 0)) := Iff.rfl
  simp only [hfh, crs]
  generalize mS1 n m x = A at *
  generalize mS0 n m x = B at *
  by_cases k1 : A < 0
  · simp [u__law_first_half, f__law_first_half, e1, e2, k1]
  · by_cases k2 : A = 0
    · simp [u__law_first_half, f__law_first_half, e1, e2, k1, k2]
    · simp [u__law_first_half, f__law_first_half, e1, e2, k1, k2]
--@ _law_bend _law_root _law_two _law_sgn
theorem x_bend (k : Nat) (n m : Int) (x y : Mo) (st : Store) (h : x.ok n m) (h' : y.ok n m) (b : MoB x) (b' : MoB y) (hd : Bv 40 [n, m]) : run (k + 3) i__law_bend [crs n m x, crs n m y, .int (aN n)] st = .ok (.int (bd n m x y)) st := by
  obtain ⟨h0, h1, h2, h3, h4, h5⟩ := Mo_bd h b hd
  obtain ⟨g0, g1, g2, g3, g4, g5⟩ := Mo_bd h' b' hd
  have ba := aN_bd hd
  have hb : bd n m x y = _ := F4_law (aN n * (x.v0 n * y.v1 n - x.v1 n * y.v0 n)) (x.u0 * y.v1 n - x.u1 * y.v0 n) (x.v0 n * y.u1 - x.v1 n * y.u0) (x.u0 * y.u1 - x.u1 * y.u0) (aN n) (x.d n m) (y.d n m) (aN0 n)
  rw [hb]
  simp only [crs]
  generalize x.u0 = u0 at *
  generalize x.u1 = u1 at *
  generalize x.v0 n = v0 at *
  generalize x.v1 n = v1 at *
  generalize x.d n m = d at *
  generalize y.u0 = w0 at *
  generalize y.u1 = w1 at *
  generalize y.v0 n = t0 at *
  generalize y.v1 n = t1 at *
  generalize y.d n m = e at *
  generalize aN n = F at *
  have o : ∀ i j : Int, Bd 1500 i → Bd 1500 j → ∀ st : Store, opD st .mul [.int i, .int j] = some (.int (i * j)) := fun i j hi hj st => o_mul (hi.mono (by decide)) (hj.mono (by decide))
  have U : ∀ {i : Int}, Bd 82 i → Bd 1500 i := fun h => h.mono (by decide)
  have V : ∀ {i : Int}, Bd 122 i → Bd 1500 i := fun h => h.mono (by decide)
  have E : ∀ {i : Int}, Bd 140 i → Bd 1500 i := fun h => h.mono (by decide)
  have bF : Bd 1500 F := ba.mono (by decide)
  have P0 : Bd 245 (v0 * t1 - v1 * t0) := Bd_sub (n := 245) (Bd_mulA h2 g3) (Bd_mulA h3 g2)
  have P : Bd 285 (F * (v0 * t1 - v1 * t0)) := Bd_mulA ba P0
  have Q : Bd 165 (u0 * w1 - u1 * w0) := Bd_sub (n := 165) (Bd_mulA h0 g1) (Bd_mulA h1 g0)
  have R : Bd 205 (u0 * t1 - u1 * t0) := Bd_sub (n := 205) (Bd_mulA h0 g3) (Bd_mulA h1 g2)
  have S : Bd 205 (v0 * w1 - v1 * w0) := Bd_sub (n := 205) (Bd_mulA h2 g1) (Bd_mulA h3 g0)
  have o1 := o _ _ (V h2) (V g3)
  have o2 := o _ _ (V h3) (V g2)
  have o3 := o _ _ (U h0) (U g1)
  have o4 := o _ _ (U h1) (U g0)
  have o5 := o _ _ (U h0) (V g3)
  have o6 := o _ _ (U h1) (V g2)
  have o7 := o _ _ (V h2) (U g1)
  have o8 := o _ _ (V h3) (U g0)
  have o9 := o _ _ bF (P0.mono (by decide))
  have oa := o _ _ (E h4) (E g4)
  have ob := o _ _ (E h4) bF
  have oc := o _ _ (E g4) bF
  have bde : Bd 280 (d * e) := Bd_mulA h4 g4
  have bdF : Bd 180 (d * F) := Bd_mulA h4 ba
  have beF : Bd 180 (e * F) := Bd_mulA g4 ba
  generalize F * (v0 * t1 - v1 * t0) = p at *
  obtain ⟨q, hq⟩ : ∃ z, z = u0 * w1 - u1 * w0 := ⟨_, rfl⟩
  rw [← hq] at Q ⊢
  obtain ⟨r, hr⟩ : ∃ z, z = u0 * t1 - u1 * t0 := ⟨_, rfl⟩
  rw [← hr] at R ⊢
  obtain ⟨s, hs⟩ : ∃ z, z = v0 * w1 - v1 * w0 := ⟨_, rfl⟩
  rw [← hs] at S ⊢
  have e1 := x_law_root k p q (d * e) st (P.mono (by decide)) (Q.mono (by decide)) (bde.mono (by decide))
  have e2 := x_law_two k r (d * F) s (e * F) st (R.mono (by decide)) (S.mono (by decide)) (bdF.mono (by decide)) (beF.mono (by decide))
  have c1 : Bd 570 (p * p) := Bd_mulA P P
  have c2 : Bd 330 (q * q) := Bd_mulA Q Q
  have c3 : Bd 470 (q * q * d) := Bd_mulA c2 h4
  have c4 : Bd 610 (q * q * d * e) := Bd_mulA c3 g4
  have c5 : Bd 410 (r * r) := Bd_mulA R R
  have c6 : Bd 410 (s * s) := Bd_mulA S S
  have c7 : Bd 550 (r * r * d) := Bd_mulA c5 h4
  have c8 : Bd 550 (s * s * e) := Bd_mulA c6 g4
  have c9 : Bd 551 (r * r * d + s * s * e) := Bd_add c7 c8
  have ca : Bd 591 (F * (r * r * d + s * s * e)) := Bd_mulA ba c9
  have cb : Bd 611 (p * p + q * q * d * e) := Bd_add (n := 611) (c1.mono (by decide)) c4
  have cc : Bd 612 (p * p + q * q * d * e - F * (r * r * d + s * s * e)) := Bd_sub (n := 612) cb (ca.mono (by decide))
  have d1 : Bd 287 (2 * p) := Bd_mulA (a := 2) (by decide) P
  have d2 : Bd 452 (2 * p * q) := Bd_mulA d1 Q
  have d3 : Bd 42 (2 * F) := Bd_mulA (a := 2) (by decide) ba
  have d4 : Bd 247 (2 * F * r) := Bd_mulA d3 R
  have d5 : Bd 452 (2 * F * r * s) := Bd_mulA d4 S
  have d6 : Bd 453 (2 * p * q - 2 * F * r * s) := Bd_sub (n := 453) d2 d5
  have e3 := x_law_root k (p * p + q * q * d * e - F * (r * r * d + s * s * e)) (2 * p * q - 2 * F * r * s) (d * e) st (cc.mono (by decide)) (d6.mono (by decide)) (bde.mono (by decide))
  have ep : 2 * p * q - 2 * F * r * s = 2 * (p * q - F * r * s) := by grind
  rw [← ep]
  have r1 := rt2_cases p 1 q (d * e)
  have r2 := rt2_cases r (d * F) s (e * F)
  have r3 := rt2_cases (p * p + q * q * d * e - F * (r * r * d + s * s * e)) 1 (2 * p * q - 2 * F * r * s) (d * e)
  have m1 := o p p (P.mono (by decide)) (P.mono (by decide))
  have m2 := o q q (Q.mono (by decide)) (Q.mono (by decide))
  have m3 := o _ _ (c2.mono (by decide)) (E h4)
  have m4 := o _ _ (c3.mono (by decide)) (E g4)
  have m5 := o r r (R.mono (by decide)) (R.mono (by decide))
  have m6 := o s s (S.mono (by decide)) (S.mono (by decide))
  have m7 := o _ _ (c5.mono (by decide)) (E h4)
  have m8 := o _ _ (c6.mono (by decide)) (E g4)
  have m9 := o _ _ bF (c9.mono (by decide))
  have n1 := o 2 p (by decide) (P.mono (by decide))
  have n2 := o _ _ (d1.mono (by decide)) (Q.mono (by decide))
  have n3 := o 2 F (by decide) bF
  have n4 := o _ _ (d3.mono (by decide)) (R.mono (by decide))
  have n5 := o _ _ (d4.mono (by decide)) (S.mono (by decide))
  generalize rt2 p 1 q (d * e) = A at *
  generalize rt2 r (d * F) s (e * F) = B at *
  generalize rt2 (p * p + q * q * d * e - F * (r * r * d + s * s * e)) 1 (2 * p * q - 2 * F * r * s) (d * e) = C at *
  have sm : ∀ i : Int, i = 1 ∨ i = 0 ∨ i = -1 → Bd 1500 i := fun i hi => by rcases hi with rfl | rfl | rfl <;> decide
  have n6 := o A B (sm _ r1) (sm _ r2)
  have n7 := o A C (sm _ r1) (sm _ r3)
  by_cases z1 : 0 ≤ A * B
  · by_cases z2 : A = 0
    · subst z2
      simp [u__law_bend, f__law_bend, ← hq, ← hr, ← hs, o1, o2, o3, o4, o5, o6, o7, o8, o9, oa, ob, oc, e1, e2, n6]
    · simp [u__law_bend, f__law_bend, ← hq, ← hr, ← hs, o1, o2, o3, o4, o5, o6, o7, o8, o9, oa, ob, oc, e1, e2, n6, z1, z2]
  · simp [u__law_bend, f__law_bend, ← hq, ← hr, ← hs, o1, o2, o3, o4, o5, o6, o7, o8, o9, oa, ob, oc, e1, e2, e3, n6, n7, z1, m1, m2, m3, m4, m5, m6, m7, m8, m9, n1, n2, n3, n4, n5]
--@ _law_order _law_course _law_first_half _law_bend _law_root _law_two _law_sgn
theorem x_law_order (k : Nat) (n m : Int) (x y : Mo) (st : Store) (h : x.ok n m) (h' : y.ok n m) (b : MoB x) (b' : MoB y) (hd : Bv 40 [n, m]) : run (k + 4) i__law_order [tpl [n, m], x.val, y.val] st = .ok (.int (ordM n m x y)) st := by
  have e1 := x_course (k + 1) n m x st h b hd
  have e2 := x_course (k + 1) n m y st h' b' hd
  have e3 := x_fh k n m x st h b hd
  have e4 := x_fh k n m y st h' b' hd
  have e5 := x_bend k n m x y st h h' b b' hd
  have hA : (if n < 0 then -n else n) = aN n := rfl
  have p1 : (crs n m x).pure = true := by simp [crs]
  have p2 : (crs n m y).pure = true := by simp [crs]
  unfold ordM
  generalize crs n m x = X at *
  generalize crs n m y = Y at *
  generalize bd n m x y = B at *
  by_cases k1 : fh n m x
  · by_cases k2 : fh n m y
    · simp [u__law_order, f__law_order, e1, e2, e3, e4, e5, hA, p1, p2, k1, k2]
    · simp [u__law_order, f__law_order, e1, e2, e3, e4, e5, hA, p1, p2, k1, k2]
  · by_cases k2 : fh n m y
    · simp [u__law_order, f__law_order, e1, e2, e3, e4, e5, hA, p1, p2, k1, k2]
    · simp [u__law_order, f__law_order, e1, e2, e3, e4, e5, hA, p1, p2, k1, k2]
--@ _law_has_edges
theorem x_has_edges (k : Nat) (a b c n m : Int) (st : Store) (bp : Bv 40 [a, b, c]) (bd : Bv 40 [n, m]) : run (k + 1) i__law_has_edges [tpl [a, b, c], tpl [n, m]] st = .ok (.bl (decide (0 < eN n m a b c))) st := by
  simp only [Bv_cons] at bp bd
  have ba : Bd 40 (aN n) := by unfold aN; exact Bd_ite (Bd_neg.mpr bd.1) bd.1
  have hA : (if n < 0 then -n else n) = aN n := rfl
  have o : ∀ i j : Int, Bd 200 i → Bd 200 j → ∀ st : Store, opD st .mul [.int i, .int j] = some (.int (i * j)) := fun i j hi hj st => o_mul (hi.mono (by decide)) (hj.mono (by decide))
  have u : ∀ {i : Int}, Bd 40 i → Bd 200 i := fun h => h.mono (by decide)
  have mm : ∀ i j : Int, Bd 40 i → Bd 40 j → Bd 80 (i * j) := fun i j hi hj => Bd_mulA hi hj
  have h1 : Bd 200 (a * a + b * b) := (Bd_add (n := 81) (mm _ _ bp.1 bp.1) (mm _ _ bp.2.1 bp.2.1)).mono (by decide)
  have h2 : Bd 200 (m - aN n) := (Bd_sub (n := 41) bd.2.1 ba).mono (by decide)
  simp [u__law_has_edges, f__law_has_edges, eN, hA, o _ _ (u bp.1) (u bp.1), o _ _ (u bp.2.1) (u bp.2.1), o _ _ (u bp.2.2.1) (u bp.2.2.1), o _ _ h1 h2, o _ _ ((mm _ _ bp.2.2.1 bp.2.2.1).mono (by decide)) (u ba)]
--@ _law_sign _law_course _law_two _law_sgn
theorem x_law_sign (k : Nat) (n m p q r a b c w : Int) (st : Store) (hd : Bv 40 [n, m]) (h : (Mo.ed a b c w).ok n m) (bb : Bv 40 [a, b, c]) (bp : Bv 40 [p, q, r]) : run (k + 3) i__law_sign [tpl [p, q, r], tpl [n, m], .tup [tpl [a, b, c], .int w]] st = .ok (.int (sgE n m p q r a b c w)) st := by
  have e1 := x_course k n m (.ed a b c w) st h bb hd
  obtain ⟨h0, h1, h2, h3, h4, h5⟩ := Mo_bd h bb hd
  have ba := aN_bd hd
  have e2 := x_sgn (k + 1) n st
  obtain ⟨_, hw, hp⟩ := h
  simp only [crs, Mo.u0, Mo.u1, Mo.v0, Mo.v1, Mo.d, Mo.val] at e1 h0 h1 h2 h3 h4
  have hA : (if n < 0 then -n else n) = aN n := rfl
  have bg : Bd 40 (sg n) := Bd.mono (n := 2) (by rcases sg_cases n with e | e | e <;> rw [e] <;> decide) (by decide)
  simp only [Bv_cons] at bb bp
  have o : ∀ i j : Int, Bd 300 i → Bd 300 j → ∀ st : Store, opD st .mul [.int i, .int j] = some (.int (i * j)) := fun i j hi hj st => o_mul (hi.mono (by decide)) (hj.mono (by decide))
  have mm : ∀ i j : Int, Bd 40 i → Bd 40 j → Bd 80 (i * j) := fun i j hi hj => Bd_mulA hi hj
  have u : ∀ {i : Int}, Bd 40 i → Bd 300 i := fun h => h.mono (by decide)
  have k1 : Bd 81 (a * a + b * b) := Bd_add (n := 81) (mm _ _ bb.1 bb.1) (mm _ _ bb.2.1 bb.2.1)
  have k2 : Bd 121 (r * (a * a + b * b)) := Bd_mulA bp.2.2.1 k1
  have k3 : Bd 161 (r * (a * a + b * b) * sg n) := Bd_mulA k2 bg
  have k4 : Bd 162 (p * -(a * (c * sg n))) := Bd_mulA bp.1 h2
  have k5 : Bd 162 (q * -(b * (c * sg n))) := Bd_mulA bp.2.1 h3
  have k6 : Bd 122 (p * (w * b)) := Bd_mulA bp.1 h0
  have k7 : Bd 122 (q * -(w * a)) := Bd_mulA bp.2.1 h1
  have L : Bd 300 (p * -(a * (c * sg n)) + q * -(b * (c * sg n)) + r * (a * a + b * b) * sg n) := (Bd_add (n := 164) (Bd_add (n := 163) k4 k5) (k3.mono (by decide))).mono (by decide)
  have L2' : Bd 300 (p * (w * b) + q * -(w * a)) := (Bd_add (n := 123) k6 k7).mono (by decide)
  have e3 := x_law_two (k) (p * (w * b) + q * -(w * a)) (eN n m a b c) (p * -(a * (c * sg n)) + q * -(b * (c * sg n)) + r * (a * a + b * b) * sg n) (aN n) st (L2'.mono (by decide)) (L.mono (by decide)) (h4.mono (by decide)) (ba.mono (by decide))
  have q1 : p * (w * b) + q * -(w * a) = p * (w * b) - q * (w * a) := by grind
  have q2 : p * -(a * (c * sg n)) + q * -(b * (c * sg n)) + r * (a * a + b * b) * sg n = (r * (a * a + b * b) - c * (p * a + q * b)) * sg n := by grind
  have er : rt2 (p * (w * b) + q * -(w * a)) (eN n m a b c) (p * -(a * (c * sg n)) + q * -(b * (c * sg n)) + r * (a * a + b * b) * sg n) (aN n) = sgE n m p q r a b c w := by
    rw [q1, q2]; rfl
  rw [er] at e3
  generalize sgE n m p q r a b c w = R at *
  have o1 := o _ _ (u bp.1) (h2.mono (by decide))
  have o2 := o _ _ (u bp.2.1) (h3.mono (by decide))
  have o3 := o _ _ (u bb.1) (u bb.1)
  have o4 := o _ _ (u bb.2.1) (u bb.2.1)
  have o5 := o _ _ (u bp.2.2.1) (k1.mono (by decide))
  have o6 := o _ _ (k2.mono (by decide)) (u bg)
  have o7 := o _ _ (u bp.1) (h0.mono (by decide))
  have o8 := o _ _ (u bp.2.1) (h1.mono (by decide))
  generalize eN n m a b c = E at *
  obtain ⟨v0, g0⟩ : ∃ v0, v0 = -(a * (c * sg n)) := ⟨_, rfl⟩
  obtain ⟨v1, g1⟩ : ∃ v1, v1 = -(b * (c * sg n)) := ⟨_, rfl⟩
  obtain ⟨u0, g2⟩ : ∃ u0, u0 = w * b := ⟨_, rfl⟩
  obtain ⟨u1, g3⟩ : ∃ u1, u1 = -(w * a) := ⟨_, rfl⟩
  rw [← g0] at o1
  rw [← g1] at o2
  rw [← g2] at o7
  rw [← g3] at o8
  rw [← g0, ← g1, ← g2, ← g3] at e1 e3
  simp [u__law_sign, f__law_sign, e1, e2, hA, o1, o2, o3, o4, o5, o6, o7, o8, e3]
--@ _law_ray _law_cut _law_dip
theorem ray_x (n : Nat) {b : Nat} {xs : List D} (m : Nat) (h : Spr b xs) (hb : b ≤ 900000) (m0 : 1 ≤ m) (m1 : m ≤ 1000) : ∃ x' ex r0 r1 r2, run (n + 2) i__law_ray [.loc 0, .int (m : Int)] [xs] = .ok (tpl [r0, r1, r2]) (x' :: ex) ∧ Spr (b + 5) x' ∧ gcdL [r0, r1, r2] = 1 ∧ ¬ (r0 = 0 ∧ r1 = 0) ∧ (∀ i ∈ [r0, r1, r2], i.natAbs ≤ m) := by
  have bm : Bd 4000 (m : Int) := bd_small (n := m) (by omega) (by omega) (by omega)
  have b2 : Bd 4000 2 := bd_small (n := 2) (by decide) (by decide) (by decide)
  obtain ⟨x1, ds, e1, h1, l1, p1⟩ := comp_drawn (cf := run (n + 1)) (gl := gl) (r := [some (.loc 0), some (.int (m : Int)), none, none]) (st := []) (ex := .con (.int 3)) (e := .op .sub [.call i__law_dip [.var 0, .op .add [.op .mul [.con (.int (2)), .var 1], .con (.int (1))]] [], .var 1]) (v := 3) (m := 3) (s0 := [xs]) (xs := xs) (b := b) (c := 1) (fun d => ∃ i, d = .int i ∧ i.natAbs ≤ m) (by simp) (by omega) h (by
    rintro i _ x hi hx
    obtain ⟨x', f, e, h', f0, f1⟩ := r_dip n (m := 2 * (m : Int) + 1) [] hx (by omega) (by omega) (by omega)
    exact ⟨x', .int (f - m), by simp [o_mul b2 bm, e], h'.mono (by omega), f - m, rfl, by omega⟩)
  obtain ⟨ns, rfl, hn⟩ := ints_of p1
  rw [List.length_map] at l1
  match ns, l1 with
  | [r0, r1, r2], _ =>
    have fin : ∀ (x' : List D) (v0 v1 v2 : Int), ¬ (v0 = 0 ∧ v1 = 0) → (∀ i ∈ [v0, v1, v2], i.natAbs ≤ m) → ∃ a c d, run (n + 1) i__law_cut [.loc 1] (x' :: [[.int v0, .int v1, .int v2]]) = .ok (tpl [a, c, d]) (x' :: [[.int v0, .int v1, .int v2]]) ∧ gcdL [a, c, d] = 1 ∧ ¬ (a = 0 ∧ c = 0) ∧ (∀ i ∈ [a, c, d], i.natAbs ≤ m) := by
      intro x' v0 v1 v2 hv hb
      have nz : ¬ Zer [v0, v1, v2] := by simp only [Zer_cons]; rintro ⟨a, b, _⟩; exact hv ⟨a, b⟩
      have e4 := r_cutG n (.loc 1) [v0, v1, v2] (x' :: [[.int v0, .int v1, .int v2]]) (by simp) nz (bv_of (m := m) (e := 1000) (Nat.lt_of_le_of_lt m1 (by decide)) hb _ (by decide)) (by simp)
      obtain ⟨a, c, d, e5⟩ := T3_red (T3_lit v0 v1 v2)
      obtain ⟨g, hg, e6⟩ := scale_red_pos nz
      have gg := gcdL_red nz
      have hl : ∀ i ∈ red [v0, v1, v2], i.natAbs ≤ m := fun i hi => red_le hi hb
      rw [e5] at e4 e6 gg hl
      simp only [scale, List.map_cons, List.map_nil, List.cons.injEq, and_true] at e6
      exact ⟨a, c, d, e4, gg, by rintro ⟨rfl, rfl⟩; apply hv; simp at e6; exact ⟨e6.1, e6.2.1⟩, hl⟩
    have f1 : denB (run (n + 1)) gl (f__law_ray.body.take 1) [some (.loc 0), some (.int (m : Int)), none, none] [xs] = .go .nx [some (.loc 0), some (.int (m : Int)), some (.loc 1), none] [x1, [.int r0, .int r1, .int r2]] := by
      simp at e1
      have er : refD [x1] (.lst [.int r0, .int r1, .int r2]) = .ok (.loc 1) [x1, [.int r0, .int r1, .int r2]] := refD_at (st := [x1]) (by simp)
      simp [f__law_ray, e1, er]
    by_cases hz : r0 = 0 ∧ r1 = 0
    · obtain ⟨rfl, rfl⟩ := hz
      obtain ⟨x2, t, e2, h2, t0, t1⟩ := r_dip n (m := 2) [[.int 0, .int 0, .int r2]] h1 (by omega) (by decide) (by decide)
      obtain ⟨x3, f, e3, h3, f0, f1'⟩ := r_dip n (m := 2) [[.int 0, .int 0, .int r2]] h2 (by omega) (by decide) (by decide)
      have bt : Bd 4000 t := bd_small (n := 2) t0 (by omega) (by decide)
      have e0 : opD [x1, [.int 0, .int 0, .int r2]] (.cut false true) [.loc 1, .int 2] = some (.lst [.int 0, .int 0]) := rfl
      have e4 : eqD [x1, [.int 0, .int 0, .int r2]] (.lst [.int 0, .int 0]) (.lst [.int 0, .int 0]) = some (decide ([0, 0] = [0, 0])) := eqD_intsL [0, 0] [0, 0]
      have hw : 1 - 2 * t = 1 ∨ 1 - 2 * t = -1 := by omega
      have bx : ∀ i ∈ [0, 0, r2], i.natAbs ≤ m := hn
      by_cases k1 : f = 0
      · subst k1
        obtain ⟨a, c, d, e5, g, z, bb⟩ := fin x3 (1 - 2 * t) 0 r2 (by omega) (by intro i hi; simp only [List.mem_cons, List.not_mem_nil, or_false] at hi; (rcases hi with rfl | rfl | rfl; omega; exact hn _ (by simp); exact hn _ (by simp)))
        refine ⟨x3, [[.int (1 - 2 * t), .int 0, .int r2]], a, c, d, ?_, h3.mono (by omega), g, z, bb⟩
        have sd : setD [x3, [.int 0, .int 0, .int r2]] (.loc 1) (.int 0) (.int (1 - 2 * t)) = some [x3, [.int (1 - 2 * t), .int 0, .int r2]] := rfl
        rw [u__law_ray, denB_at 1 f1]
        simp [f__law_ray, e0, e4, e2, e3, o_mul b2 bt, sd, e5]
      · have k2 : f = 1 := by omega
        subst k2
        obtain ⟨a, c, d, e5, g, z, bb⟩ := fin x3 0 (1 - 2 * t) r2 (by omega) (by intro i hi; simp only [List.mem_cons, List.not_mem_nil, or_false] at hi; (rcases hi with rfl | rfl | rfl; exact hn _ (by simp); omega; exact hn _ (by simp)))
        refine ⟨x3, [[.int 0, .int (1 - 2 * t), .int r2]], a, c, d, ?_, h3.mono (by omega), g, z, bb⟩
        have sd : setD [x3, [.int 0, .int 0, .int r2]] (.loc 1) (.int 1) (.int (1 - 2 * t)) = some [x3, [.int 0, .int (1 - 2 * t), .int r2]] := rfl
        rw [u__law_ray, denB_at 1 f1]
        simp [f__law_ray, e0, e4, e2, e3, o_mul b2 bt, sd, e5]
    · obtain ⟨a, c, d, e2, g, z, bb⟩ := fin x1 r0 r1 r2 hz hn
      refine ⟨x1, [[.int r0, .int r1, .int r2]], a, c, d, ?_, h1.mono (by omega), g, z, bb⟩
      rw [u__law_ray, denB_at 1 f1]
      have e0 : opD [x1, [.int r0, .int r1, .int r2]] (.cut false true) [.loc 1, .int 2] = some (.lst [.int r0, .int r1]) := rfl
      have e3 : eqD [x1, [.int r0, .int r1, .int r2]] (.lst [.int r0, .int r1]) (.lst [.int 0, .int 0]) = some (decide ([r0, r1] = [0, 0])) := eqD_intsL [r0, r1] [0, 0]
      simp [f__law_ray, e0, e3, hz, e2]
--@ _law_height _law_cut
theorem x_law_height (k : Nat) (x y z : Int) (st : Store) (nz : ¬ (x = 0 ∧ y = 0)) (b : Bv 10 [x, y, z]) : ∃ n m, run (k + 2) i__law_height [tpl [x, y, z]] st = .ok (tpl [n, m]) st ∧ gcdL [n, m] = 1 ∧ Dat [n, m] ∧ Bv 40 [n, m] := by
  simp only [Bv_cons] at b
  have ba : Bd 10 (if z < 0 then -z else z) := Bd_ite (Bd_neg.mpr b.2.2.1) b.2.2.1
  have o : ∀ i j : Int, Bd 10 i → Bd 10 j → ∀ st : Store, opD st .mul [.int i, .int j] = some (.int (i * j)) := fun i j hi hj st => o_mul (hi.mono (by decide)) (hj.mono (by decide))
  have mm : ∀ i j : Int, Bd 10 i → Bd 10 j → Bd 20 (i * j) := fun i j hi hj => Bd_mulA hi hj
  have xy : 0 < x * x + y * y := by
    have := mul_self0 x
    have := mul_self0 y
    rcases Int.lt_or_eq_of_le (Int.add_nonneg (mul_self0 x) (mul_self0 y)) with h | h
    · exact h
    · exfalso; apply nz
      exact ⟨mul_self_z.mp (by omega), mul_self_z.mp (by omega)⟩
  have hs : z * (if z < 0 then -z else z) ≤ z * z ∧ -(z * z) ≤ z * (if z < 0 then -z else z) := by
    have := mul_self0 z
    split
    · have : z * -z = -(z * z) := by grind
      omega
    · omega
  obtain ⟨H, hH⟩ : ∃ H, H = z * (if z < 0 then -z else z) := ⟨_, rfl⟩
  have bH : Bd 20 H := by rw [hH]; exact mm _ _ b.2.2.1 ba
  have bM : Bd 22 (x * x + y * y + z * z) := Bd_add (n := 22) (Bd_add (n := 21) (mm _ _ b.1 b.1) (mm _ _ b.2.1 b.2.1)) ((mm _ _ b.2.2.1 b.2.2.1).mono (by decide))
  rw [← hH] at hs
  have nz2 : ¬ Zer [H, x * x + y * y + z * z] := by simp only [Zer_cons]; have := mul_self0 z; omega
  have e := x_cut k [H, x * x + y * y + z * z] st nz2 (Bv.mono (n := 22) (by simp only [Bv_cons]; exact ⟨bH.mono (by decide), bM, Bv_nil⟩) (by decide)) (by simp)
  obtain ⟨n, m, e5⟩ := T2.red (v := [H, x * x + y * y + z * z]) ⟨_, _, rfl⟩
  obtain ⟨g, hg, e6⟩ := scale_red_pos nz2
  have gg := gcdL_red nz2
  have bR := Bv_red (n := 22) (v := [H, x * x + y * y + z * z]) (by simp only [Bv_cons]; exact ⟨bH.mono (by decide), bM, Bv_nil⟩)
  rw [e5] at e e6 gg bR
  simp only [scale, List.map_cons, List.map_nil, List.cons.injEq, and_true] at e6
  refine ⟨n, m, by simp [u__law_height, f__law_height, o _ _ b.1 b.1, o _ _ b.2.1 b.2.1, o _ _ b.2.2.1 b.2.2.1, o _ _ b.2.2.1 ba, ← hH, e], gg, ⟨n, m, rfl, ?_, ?_, ?_⟩, bR.mono (by decide)⟩
  · have := mul_self0 z
    exact (pos_iff hg m).mp (by rw [← e6.2]; omega)
  · have : 0 < g * (m + n) := by
      have : g * (m + n) = g * m + g * n := by grind
      rw [this, ← e6.1, ← e6.2]; omega
    have := (pos_iff hg _).mp this
    omega
  · have : 0 < g * (m - n) := by
      have : g * (m - n) = g * m - g * n := by grind
      rw [this, ← e6.1, ← e6.2]; omega
    have := (pos_iff hg _).mp this
    omega
--@ _law_day _law_of _law_dip _law_cut
theorem day_x (k : Nat) {b : Nat} {xs : List D} (h : Spr b xs) (hb : b ≤ 900000) : ∃ x' n m, run (k + 3) i__law_day [.loc 0] [xs] = .ok (tpl [n, m]) [x'] ∧ Spr (b + 3) x' ∧ gcdL [n, m] = 1 ∧ Dat [n, m] ∧ Bv 30 [n, m] := by
  obtain ⟨x1, mo, e1, h1, hm⟩ := r_of k (d := .tup [.int 1, .int 2, .int 4, .int 9, .int 25, .int 99, .int 9999]) (ys := [.int 1, .int 2, .int 4, .int 9, .int 25, .int 99, .int 9999]) [] h (by omega) (fun _ => rfl) (by decide) (by decide)
  obtain ⟨M, rfl, M0, M1⟩ : ∃ i : Int, mo = .int i ∧ 1 ≤ i ∧ i ≤ 9999 := by
    simp only [List.mem_cons, List.not_mem_nil, or_false] at hm
    rcases hm with rfl | rfl | rfl | rfl | rfl | rfl | rfl
    · exact ⟨1, rfl, by decide, by decide⟩
    · exact ⟨2, rfl, by decide, by decide⟩
    · exact ⟨4, rfl, by decide, by decide⟩
    · exact ⟨9, rfl, by decide, by decide⟩
    · exact ⟨25, rfl, by decide, by decide⟩
    · exact ⟨99, rfl, by decide, by decide⟩
    · exact ⟨9999, rfl, by decide, by decide⟩
  obtain ⟨x2, f, e2, h2, f0, f1⟩ := r_dip (k + 1) (m := M) [] h1 (by omega) (by omega) (by omega)
  obtain ⟨x3, g, e3, h3, g0, g1⟩ := r_dip (k + 1) (m := 2 * (1 + f) - 1) [] h2 (by omega) (by omega) (by omega)
  have nz : ¬ Zer [g - (1 + f) + 1, 1 + f] := by simp only [Zer_cons]; omega
  have bn : ∀ i ∈ [g - (1 + f) + 1, 1 + f], i.natAbs ≤ 9999 := by
    intro i hi
    simp only [List.mem_cons, List.not_mem_nil, or_false] at hi
    rcases hi with rfl | rfl <;> omega
  have e4 := x_cut (k + 1) [g - (1 + f) + 1, 1 + f] [x3] nz (bv_of (m := 9999) (e := 1000) (by decide) bn _ (by decide)) (by simp)
  obtain ⟨n, m, e5⟩ := T2.red (v := [g - (1 + f) + 1, 1 + f]) ⟨_, _, rfl⟩
  obtain ⟨c, hc, e6⟩ := scale_red_pos nz
  have gg := gcdL_red nz
  have bR : Bv 30 (red [g - (1 + f) + 1, 1 + f]) := bv_of (m := 9999) (e := 30) (by decide) (fun i hi => red_le hi bn) _ (Nat.le_refl _)
  rw [e5] at e4 e6 gg bR
  simp only [scale, List.map_cons, List.map_nil, List.cons.injEq, and_true] at e6
  have b2 : Bd 4000 2 := by decide
  have o2 : ∀ st : Store, opD st .mul [.int 2, .int (1 + f)] = some (.int (2 * (1 + f))) := fun st => o_mul b2 (bd_small (n := 9999) (by omega) (by omega) (by decide))
  refine ⟨x3, n, m, by simp [u__law_day, f__law_day, e1, e2, e3, e4, o2], h3.mono (by omega), gg, ⟨n, m, rfl, ?_, ?_, ?_⟩, bR⟩
  · exact (pos_iff hc m).mp (by rw [← e6.2]; omega)
  · have : 0 < c * (m + n) := by
      have : c * (m + n) = c * m + c * n := by grind
      rw [this, ← e6.1, ← e6.2]; omega
    have := (pos_iff hc _).mp this
    omega
  · have : 0 < c * (m - n) := by
      have : c * (m - n) = c * m - c * n := by grind
      rw [this, ← e6.1, ← e6.2]; omega
    have := (pos_iff hc _).mp this
    omega
--@ _law_orders_right
theorem x_orders (k : Nat) (n m : Int) (ms : List Mo) (st : Store) (g : gcdL [n, m] = 1) (dd : Dat [n, m]) (hd : Bv 40 [n, m]) (hm : ∀ x ∈ ms, x.ok n m ∧ MoB x) : run (k + 7) i__law_orders_right [tpl [n, m], .lst (ms.map Mo.val)] st = .ok (.bl true) st := by
  have sh : ∀ (x y : Mo) (j : Nat), Sh j (.int (ordM n m x y)) := by
    intro x y j
    have hb : bd n m x y = 1 ∨ bd n m x y = 0 ∨ bd n m x y = -1 := by
      unfold bd F4
      simp only []
      have r1 := rt2_cases (aN n * (x.v0 n * y.v1 n - x.v1 n * y.v0 n)) 1 (x.u0 * y.u1 - x.u1 * y.u0) (x.d n m * y.d n m)
      have r2 := rt2_cases (x.u0 * y.v1 n - x.u1 * y.v0 n) (x.d n m) (x.v0 n * y.u1 - x.v1 n * y.u0) (y.d n m)
      unfold sumS
      repeat' split
      all_goals first | exact r1 | exact r2 | exact .inr (.inl rfl)
    refine Sh_int (Bd.mono (n := 2) ?_ (by decide))
    unfold ordM
    split
    · rcases hb with e | e | e <;> rw [e] <;> decide
    · split <;> decide
  obtain ⟨r1, e1, y, z, rfl⟩ := seq_same (cf := run (k + 6)) (gl := gl) (r := [some (tpl [n, m]), some (.lst (ms.map Mo.val)), none, none]) (s0 := st) (ex := .var 1) (v := 2) (xs := ms.map Mo.val) (d := .lst (ms.map Mo.val)) (body := [.loop .seq [.var 1] (.nm 3) [.iff (.op .ne [.op .repr [.call i_compare_moments [.var 0, .var 2, .var 3] []], .op .repr [.call i__law_order [.var 0, .var 2, .var 3] []]]) [.ret (.con (.bl false))] []]])
    (fun r => ∃ y z, r = [some (tpl [n, m]), some (.lst (ms.map Mo.val)), y, z]) (by simp) rfl ⟨none, none, rfl⟩ (by
      rintro d hx r ⟨y, z, rfl⟩
      obtain ⟨x, hx', rfl⟩ := List.mem_map.mp hx
      obtain ⟨r1, e1, z', rfl⟩ := seq_same (cf := run (k + 6)) (gl := gl) (r := [some (tpl [n, m]), some (.lst (ms.map Mo.val)), some x.val, z]) (s0 := st) (ex := .var 1) (v := 3) (xs := ms.map Mo.val) (d := .lst (ms.map Mo.val)) (body := [.iff (.op .ne [.op .repr [.call i_compare_moments [.var 0, .var 2, .var 3] []], .op .repr [.call i__law_order [.var 0, .var 2, .var 3] []]]) [.ret (.con (.bl false))] []])
        (fun r => ∃ z, r = [some (tpl [n, m]), some (.lst (ms.map Mo.val)), some x.val, z]) (by simp) rfl ⟨z, rfl⟩ (by
          rintro d hy r ⟨z, rfl⟩
          obtain ⟨w, hw', rfl⟩ := List.mem_map.mp hy
          have e2 := x_compare k n m x w st g dd (hm x hx').1 (hm w hw').1 (hm x hx').2 (hm w hw').2 hd
          have e3 := x_law_order (k + 2) n m x w st (hm x hx').1 (hm w hw').1 (hm x hx').2 (hm w hw').2 hd
          have s := sh x w 3
          generalize ordM n m x w = O at *
          generalize x.val = X at *
          generalize w.val = Wv at *
          exact ⟨[some (tpl [n, m]), some (.lst (ms.map Mo.val)), some X, some Wv], by simp [e2, e3, s], _, rfl⟩)
      refine ⟨[some (tpl [n, m]), some (.lst (ms.map Mo.val)), some x.val, z'], ?_, _, _, rfl⟩
      simp only [List.set_cons_succ, List.set_cons_zero, denB_cons, denB_nil, e1])
  have f1 : denB (run (k + 6)) gl (f__law_orders_right.body.take 1) [some (tpl [n, m]), some (.lst (ms.map Mo.val)), none, none] st = .go .nx [some (tpl [n, m]), some (.lst (ms.map Mo.val)), y, z] st := by
    simp only [f__law_orders_right, List.take, denB_cons, denB_nil, e1]
  rw [u__law_orders_right, denB_at 1 f1]
  simp [f__law_orders_right]
--@ _law_plane _law_row _law_of _law_dip _law_cut _law_cross _law_has_edges
def Gd (v : List Int) : Prop := T3 v ∧ gcdL v = 1 ∧ ∀ i ∈ v, i.natAbs ≤ 2000
theorem Gd.bv {v : List Int} (h : Gd v) : Bv 30 v := bv_of (m := 2000) (e := 30) (by decide) h.2.2 _ (Nat.le_refl _)
theorem gd_cut (k : Nat) (a b c : Int) (st : Store) (nz : ¬ Zer [a, b, c]) (bn : ∀ i ∈ [a, b, c], i.natAbs ≤ 2000) : ∃ x y z g, run (k + 1) i__law_cut [tpl [a, b, c]] st = .ok (tpl [x, y, z]) st ∧ Gd [x, y, z] ∧ 0 < g ∧ a = g * x ∧ b = g * y ∧ c = g * z := by
  have e4 := x_cut k [a, b, c] st nz (bv_of (m := 2000) (e := 1000) (by decide) bn _ (by decide)) (by simp)
  obtain ⟨x, y, z, e5⟩ := T3_red (T3_lit a b c)
  obtain ⟨g, hg, e6⟩ := scale_red_pos nz
  have gg := gcdL_red nz
  have hl : ∀ i ∈ red [a, b, c], i.natAbs ≤ 2000 := fun i hi => red_le hi bn
  rw [e5] at e4 e6 gg hl
  simp only [scale, List.map_cons, List.map_nil, List.cons.injEq, and_true] at e6
  exact ⟨x, y, z, g, e4, ⟨T3_lit _ _ _, gg, hl⟩, hg, e6.1, e6.2.1, e6.2.2⟩
/-- the last step: a plane that has edges -/
theorem plane_fin (k : Nat) (n m : Int) (a b c : Int) (w1 w3 w5 w6 w7 w8 : Option D) (st : Store) (dd : Dat [n, m]) (hd : Bv 40 [n, m]) (h : Gd [a, b, c]) : ∃ x y z, outR (denB (run (k + 2)) gl (f__law_plane.body.drop 4) [some (.loc 0), w1, some (tpl [n, m]), w3, some (tpl [a, b, c]), w5, w6, w7, w8] st) = .ok (tpl [x, y, z]) st ∧ Gd [x, y, z] ∧ 0 < eN n m x y z := by
  have e1 := x_has_edges (k + 1) a b c n m st (h.bv.mono (by decide)) hd
  have hm : 0 < m - aN n := by
    obtain ⟨p, q, e, h1, h2, h3⟩ := dd
    simp only [List.cons.injEq, and_true] at e
    obtain ⟨rfl, rfl⟩ := e
    unfold aN; split <;> omega
  have c2 : ∀ st : Store, opD st (.cut false true) [tpl [a, b, c], .int 2] = some (tpl [a, b]) := fun _ => rfl
  by_cases k1 : 0 < eN n m a b c
  · exact ⟨a, b, c, by simp [f__law_plane, e1, k1], h, k1⟩
  · by_cases k2 : a = 0 ∧ b = 0
    · obtain ⟨rfl, rfl⟩ := k2
      refine ⟨1, 0, 0, by simp [f__law_plane, e1, k1, c2], ⟨T3_lit _ _ _, by decide, by decide⟩, ?_⟩
      unfold eN; omega
    · have b3 := h.2.2
      obtain ⟨x, y, z, g, e2, hG, hg, g0, g1, g2⟩ := gd_cut (k + 1) a b 0 st (by simp only [Zer_cons]; rintro ⟨p, q, _⟩; exact k2 ⟨p, q⟩) (by intro i hi; simp only [List.mem_cons, List.not_mem_nil, or_false] at hi; rcases hi with rfl | rfl | rfl; exact b3 _ (by simp); exact b3 _ (by simp); decide)
      refine ⟨x, y, z, by simp [f__law_plane, e1, k1, c2, k2, e2], hG, ?_⟩
      have hz : z = 0 := by rcases Int.mul_eq_zero.mp g2.symm with h | h; omega; exact h
      subst hz
      have xy : 0 < x * x + y * y := by
        rcases Int.lt_or_eq_of_le (Int.add_nonneg (mul_self0 x) (mul_self0 y)) with h | h
        · exact h
        · exfalso; apply k2
          have h1 := mul_self0 x
          have h2 := mul_self0 y
          rw [g0, g1, mul_self_z.mp (show x * x = 0 by omega), mul_self_z.mp (show y * y = 0 by omega)]
          simp
      unfold eN
      have := Int.mul_pos xy hm
      omega
theorem at_last {α : Type} (xs : List α) (x : α) : atI (xs ++ [x]) (-1) = some x := by
  unfold atI ixN
  simp
  rw [if_pos (by omega)]
  have : (-1 + ((xs.length : Int) + 1)).toNat = xs.length := by omega
  simp [this]
theorem plane_steep (k : Nat) (n m : Int) (a b c : Int) (w1 w3 w5 w6 : Option D) (st : Store) (hd : Bv 40 [n, m]) (h : Gd [a, b, c]) (hw : w6 = some (.int 2)) (hab : ¬ (a = 0 ∧ b = 0)) : ∃ x y z y7, denB (run (k + 2)) gl ((f__law_plane.body.drop 3).take 1) [some (.loc 0), w1, some (tpl [n, m]), w3, some (tpl [a, b, c]), w5, w6, none, none] st = .go .nx [some (.loc 0), w1, some (tpl [n, m]), w3, some (tpl [x, y, z]), w5, w6, y7, none] st ∧ Gd [x, y, z] := by
  subst hw
  have c2 : ∀ st : Store, opD st (.cut false true) [tpl [a, b, c], .int 2] = some (tpl [a, b]) := fun _ => rfl
  have hb := h.2.2
  obtain ⟨js, hjs⟩ : ∃ js : List Int, js = (List.range 11).map fun i : Nat => (1 : Int) + (i : Int) := ⟨_, rfl⟩
  have jb : ∀ j ∈ js, 1 ≤ j ∧ j ≤ 11 := by
    intro j hj
    rw [hjs] at hj
    obtain ⟨i, hi, rfl⟩ := List.mem_map.mp hj
    have := List.mem_range.mp hi
    omega
  obtain ⟨us, hus⟩ : ∃ us : List (List Int), us = (js.filter fun j => decide (0 < eN n m a b j)).map fun j => [a, b, j] := ⟨_, rfl⟩
  have e1 := comp_fil (cf := run (k + 2)) (gl := gl) (r := [some (.loc 0), w1, some (tpl [n, m]), w3, some (tpl [a, b, c]), w5, some (.int 2), none, none]) (s0 := st) (k := .rng) (its := [.con (.int 1), .con (.int 12)]) (c := .call i__law_has_edges [.op .tup [.op .idx [.var 4, .con (.int 0)], .op .idx [.var 4, .con (.int 1)], .var 8], .var 2] []) (e := .op .tup [.op .idx [.var 4, .con (.int 0)], .op .idx [.var 4, .con (.int 1)], .var 8]) (ts := [8]) (ds := [.int 1, .int 12]) (xs := js.map .int)
    (fun d => match d with | .int j => decide (0 < eN n m a b j) | _ => false) (fun d => match d with | .int j => tpl [a, b, j] | d => d) (by simp) (by
      rw [hjs, List.map_map]; simp [itemsOf]) (by
      intro d hd'
      obtain ⟨j, hj, rfl⟩ := List.mem_map.mp hd'
      obtain ⟨j0, j1⟩ := jb j hj
      have bv : Bv 40 [a, b, j] := bv_of (m := 2000) (e := 40) (by decide) (by intro i hi; simp only [List.mem_cons, List.not_mem_nil, or_false] at hi; rcases hi with rfl | rfl | rfl; exact hb _ (by simp); exact hb _ (by simp); omega) _ (Nat.le_refl _)
      have e2 := x_has_edges (k + 1) a b j n m st bv hd
      exact ⟨[some (.loc 0), w1, some (tpl [n, m]), w3, some (tpl [a, b, c]), w5, some (.int 2), none, some (.int j)], by simp, by simp [e2], fun _ => by simp⟩) (by rw [hjs]; simp)
  have e2 : ((js.map D.int).filter (fun d => match d with | .int j => decide (0 < eN n m a b j) | _ => false)).map (fun d => match d with | .int j => tpl [a, b, j] | d => d) = us.map tpl := by
    rw [hus, List.filter_map, List.map_map, List.map_map]
    rfl
  rw [e2] at e1
  have hu : ∀ u ∈ us, ∃ j, u = [a, b, j] ∧ 1 ≤ j ∧ j ≤ 11 := by
    intro u hu
    rw [hus] at hu
    obtain ⟨j, hj, rfl⟩ := List.mem_map.mp hu
    exact ⟨j, rfl, jb j ((List.mem_filter.mp hj).1)⟩
  have eq0 := eqD_tplsL (st := st) us []
  simp only [List.map_nil] at eq0
  by_cases k1 : us = []
  · subst k1
    simp only [List.map_nil] at e1
    refine ⟨a, b, c, some (.lst []), ?_, h⟩
    simp [f__law_plane, c2, hab, e1]
  · obtain ⟨us', l, rfl⟩ : ∃ us' l, us = us' ++ [l] := ⟨us.dropLast, us.getLast k1, (List.dropLast_concat_getLast k1).symm⟩
    obtain ⟨j, rfl, j0, j1⟩ := hu l (by simp)
    obtain ⟨x, y, z, g, e3, hG, _⟩ := gd_cut (k + 1) a b j st (by simp only [Zer_cons]; rintro ⟨p, q, _⟩; exact hab ⟨p, q⟩) (by intro i hi; simp only [List.mem_cons, List.not_mem_nil, or_false] at hi; rcases hi with rfl | rfl | rfl; exact hb _ (by simp); exact hb _ (by simp); omega)
    have e4 := at_last (us'.map tpl) (tpl [a, b, j])
    rw [show us'.map tpl ++ [tpl [a, b, j]] = (us' ++ [[a, b, j]]).map tpl by simp] at e4
    rw [decide_eq_false k1] at eq0
    have pl : (D.lst ((us' ++ [[a, b, j]]).map tpl)).pure = true := by
      have : ∀ vs : List (List Int), pureAll (vs.map tpl) = true := fun vs => by
        induction vs with
        | nil => rfl
        | cons p ps ih => simp [ih]
      show pureAll _ = true
      exact this _
    generalize (us' ++ [[a, b, j]]).map tpl = L at *
    refine ⟨x, y, z, some (.lst L), ?_, hG⟩
    simp [f__law_plane, c2, hab, e1, eq0, e4, e3, pl]
theorem plane_x (k : Nat) {b : Nat} {xs : List D} {r0 r1 r2 n m : Int} (h : Spr b xs) (hb : b ≤ 800000) (hr : ∀ i ∈ [r0, r1, r2], i.natAbs ≤ 9) (dd : Dat [n, m]) (hd : Bv 40 [n, m]) : ∃ x' ex x y z, run (k + 3) i__law_plane [.loc 0, tpl [r0, r1, r2], tpl [n, m]] [xs] = .ok (tpl [x, y, z]) (x' :: ex) ∧ Spr (b + 8) x' ∧ Gd [x, y, z] ∧ 0 < eN n m x y z := by
  have aft0 : ∀ (q : D) (y y' : List D) (ex : Store), q.pure = true → after [y] (.ok q (y' :: ex)) = .ok q [y'] := fun q y y' ex hq => after_ex (rest := []) (ex := ex) hq
  obtain ⟨x1, mo, e1, h1, hm⟩ := r_of k (d := tpl [1, 3, 9, 99]) (ys := [.int 1, .int 3, .int 9, .int 99]) [] h (by omega) (fun _ => rfl) (by decide) (by decide)
  obtain ⟨M, rfl, M0, M1⟩ : ∃ i : Nat, mo = .int (i : Int) ∧ 1 ≤ i ∧ i ≤ 99 := by
    simp only [List.mem_cons, List.not_mem_nil, or_false] at hm
    rcases hm with rfl | rfl | rfl | rfl
    · exact ⟨1, rfl, by decide, by decide⟩
    · exact ⟨3, rfl, by decide, by decide⟩
    · exact ⟨9, rfl, by decide, by decide⟩
    · exact ⟨99, rfl, by decide, by decide⟩
  obtain ⟨x2, ex2, v, e2, h2, l2, g2, z2, b2⟩ := row_x k [] 3 M h1 (by omega) (by decide) (by decide) M0 (by omega)
  simp only [List.nil_append] at e2
  rw [show ((3 : Nat) : Int) = 3 from rfl] at e2
  obtain ⟨x3, w, e3, h3, w0, w1⟩ := r_dip (k + 1) (m := 3) [] h2 (by omega) (by decide) (by decide)
  match v, l2 with
  | [a, c, d], _ =>
    have bv : ∀ i ∈ [a, c, d], i.natAbs ≤ 99 := fun i hi => Nat.le_trans (b2 i hi) M1
    have bw : ∀ (ns : List Int) (N : Nat), N ≤ 2000 → (∀ i ∈ ns, i.natAbs ≤ N) → Bv 1900 ns := fun ns N hN hn => bv_of (m := 2000) (e := 1900) (by decide) (fun i hi => Nat.le_trans (hn i hi) hN) _ (Nat.le_refl _)
    have e4 := x_law_cross (k + 1) [r0, r1, r2] [a, c, d] [x2] (T3_lit _ _ _) (T3_lit _ _ _) (bw _ 9 (by decide) hr) (bw _ 99 (by decide) bv)
    obtain ⟨C0, C1, C2, eC⟩ := T3_cross (T3_lit r0 r1 r2) (T3_lit a c d)
    have bC : ∀ i ∈ [C0, C1, C2], i.natAbs ≤ 2000 := by
      have mm : ∀ i j : Int, i.natAbs ≤ 9 → j.natAbs ≤ 99 → (i * j).natAbs ≤ 891 := fun i j hi hj => by
        rw [Int.natAbs_mul]; exact Nat.mul_le_mul hi hj
      have A0 := hr r0 (by simp)
      have A1 := hr r1 (by simp)
      have A2 := hr r2 (by simp)
      have B0 := bv a (by simp)
      have B1 := bv c (by simp)
      have B2 := bv d (by simp)
      have m1 := mm _ _ A1 B2
      have m2 := mm _ _ A2 B1
      have m3 := mm _ _ A2 B0
      have m4 := mm _ _ A0 B2
      have m5 := mm _ _ A0 B1
      have m6 := mm _ _ A1 B0
      simp only [Vec.cross, List.cons.injEq, and_true] at eC
      obtain ⟨q0, q1, q2⟩ := eC
      intro i hi
      simp only [List.mem_cons, List.not_mem_nil, or_false] at hi
      rcases hi with rfl | rfl | rfl <;> omega
    rw [eC] at e4
    have f1 : denB (run (k + 2)) gl (f__law_plane.body.take 2) [some (.loc 0), some (tpl [r0, r1, r2]), some (tpl [n, m]), none, none, none, none, none, none] [xs] = .go .nx [some (.loc 0), some (tpl [r0, r1, r2]), some (tpl [n, m]), some (tpl [a, c, d]), none, some (tpl [C0, C1, C2]), some (.int w), none, none] [x3] := by
      simp [f__law_plane, e1, e2, e3, e4, aft0]
    have gA : Gd [a, c, d] := ⟨T3_lit _ _ _, g2, fun i hi => Nat.le_trans (bv i hi) (by decide)⟩
    obtain ⟨p0, p1, p2, f2, gP⟩ : ∃ p0 p1 p2, denB (run (k + 2)) gl ((f__law_plane.body.drop 2).take 1) [some (.loc 0), some (tpl [r0, r1, r2]), some (tpl [n, m]), some (tpl [a, c, d]), none, some (tpl [C0, C1, C2]), some (.int w), none, none] [x3] = .go .nx [some (.loc 0), some (tpl [r0, r1, r2]), some (tpl [n, m]), some (tpl [a, c, d]), some (tpl [p0, p1, p2]), some (tpl [C0, C1, C2]), some (.int w), none, none] [x3] ∧ Gd [p0, p1, p2] := by
      by_cases k1 : w = 0
      · exact ⟨a, c, d, by simp [f__law_plane, k1], gA⟩
      · by_cases k2 : C0 = 0 ∧ C1 = 0 ∧ C2 = 0
        · exact ⟨a, c, d, by simp [f__law_plane, k1, k2], gA⟩
        · obtain ⟨x, y, z, g, e5, hG, _⟩ := gd_cut (k + 1) C0 C1 C2 [x3] (by simp only [Zer_cons]; rintro ⟨p, q, r, _⟩; exact k2 ⟨p, q, r⟩) bC
          exact ⟨x, y, z, by simp [f__law_plane, k1, k2, e5], hG⟩
    obtain ⟨s0, s1, s2, y7, f3, gS⟩ : ∃ s0 s1 s2 y7, denB (run (k + 2)) gl ((f__law_plane.body.drop 3).take 1) [some (.loc 0), some (tpl [r0, r1, r2]), some (tpl [n, m]), some (tpl [a, c, d]), some (tpl [p0, p1, p2]), some (tpl [C0, C1, C2]), some (.int w), none, none] [x3] = .go .nx [some (.loc 0), some (tpl [r0, r1, r2]), some (tpl [n, m]), some (tpl [a, c, d]), some (tpl [s0, s1, s2]), some (tpl [C0, C1, C2]), some (.int w), y7, none] [x3] ∧ Gd [s0, s1, s2] := by
      by_cases k1 : w = 2
      · by_cases k2 : p0 = 0 ∧ p1 = 0
        · have c2 : ∀ st : Store, opD st (.cut false true) [tpl [p0, p1, p2], .int 2] = some (tpl [p0, p1]) := fun _ => rfl
          exact ⟨p0, p1, p2, none, by simp only [f__law_plane, List.drop, List.take, denB_cons, denB_nil]; simp [k1, c2]; simp [k2], gP⟩
        · exact plane_steep k n m p0 p1 p2 _ _ _ _ [x3] hd gP (by rw [k1]) k2
      · exact ⟨p0, p1, p2, none, by simp [f__law_plane, k1], gP⟩
    obtain ⟨x, y, z, e6, hG, hE⟩ := plane_fin k n m s0 s1 s2 (some (tpl [r0, r1, r2])) (some (tpl [a, c, d])) (some (tpl [C0, C1, C2])) (some (.int w)) y7 none [x3] dd hd gS
    refine ⟨x3, [], x, y, z, ?_, h3.mono (by omega), hG, hE⟩
    rw [u__law_plane, denB_at 2 f1, denB_at 1 f2, List.drop_drop, denB_at 1 f3, List.drop_drop]
    exact e6
theorem sh_ord (n m : Int) (x y : Mo) (j : Nat) : Sh j (.int (ordM n m x y)) := by
  have hb : bd n m x y = 1 ∨ bd n m x y = 0 ∨ bd n m x y = -1 := by
    unfold bd F4
    simp only []
    have r1 := rt2_cases (aN n * (x.v0 n * y.v1 n - x.v1 n * y.v0 n)) 1 (x.u0 * y.u1 - x.u1 * y.u0) (x.d n m * y.d n m)
    have r2 := rt2_cases (x.u0 * y.v1 n - x.u1 * y.v0 n) (x.d n m) (x.v0 n * y.u1 - x.v1 n * y.u0) (y.d n m)
    unfold sumS
    repeat' split
    all_goals first | exact r1 | exact r2 | exact .inr (.inl rfl)
  refine Sh_int (Bd.mono (n := 2) ?_ (by decide))
  unfold ordM
  split
  · rcases hb with e | e | e <;> rw [e] <;> decide
  · split <;> decide
--@ _law_right
theorem seq_same2 {cf : Nat → List D → Store → Res D} {gl : Nat → Option D} {r : DEnv} {ex : Ex} {v : Nat} {xs : List D} {d : D} {body : List Sm} {s0 s1 : Store} (P : DEnv → Prop) (he : den cf gl ex r s0 = .ok d s1) (hd : isSeq s1 d = some xs) (h0 : P r)
    (hs : ∀ x ∈ xs, ∀ r, P r → ∃ r1, denB cf gl body (r.set v (some x)) s1 = .go .nx r1 s1 ∧ P r1) : ∃ r1, denS cf gl (.loop .seq [ex] (.nm v) body) r s0 = .go .nx r1 s1 ∧ P r1 := by
  rw [loop_seq he hd]
  obtain ⟨r1, s2, e, h1, h2⟩ := forL_inv (ns := walked .seq [d]) (step := fun x r s => denB cf gl body (r.set v (some x)) s) (r0 := r) (s0 := s1) (xs := xs) (fun _ r s => P r ∧ s = s1) ⟨h0, rfl⟩ (fun i x r s hx hp => by
    obtain ⟨hp, rfl⟩ := hp
    obtain ⟨r1, e, p⟩ := hs x (List.mem_of_getElem? hx) r hp
    exact ⟨r1, _, e, stillB_same _ _, p, rfl⟩)
  exact ⟨r1, by rw [e, h2], h1⟩
def toMo (w : Int) : List Int → Mo
  | [a, b, c] => .ed a b c w
  | _ => .ed 0 0 0 w
def Pn (n m : Int) (v : List Int) : Prop := ∃ x y z, v = [x, y, z] ∧ Gd v ∧ 0 < eN n m x y z
theorem toMo_val {n m : Int} {v : List Int} (h : Pn n m v) (w : Int) : (toMo w v).val = .tup [tpl v, .int w] := by
  obtain ⟨x, y, z, rfl, _⟩ := h; rfl
theorem toMo_ok {n m : Int} {v : List Int} (h : Pn n m v) {w : Int} (hw : w = 1 ∨ w = -1) : (toMo w v).ok n m ∧ MoB (toMo w v) := by
  obtain ⟨x, y, z, rfl, g, e⟩ := h
  exact ⟨⟨g.2.1, hw, e⟩, g.bv.mono (by decide)⟩
theorem edges_c {cf : Nat → List D → Store → Res D} {gl : Nat → Option D} {n m : Int} (ps : List (List Int)) (w : Int) (e : Ex) (r : DEnv) (st : Store) (hp : ∀ v ∈ ps, Pn n m v) (hl : ps.length ≤ 3) (h3 : r[3]? = some (some (.lst (ps.map tpl)))) (he : ∀ d : D, den cf gl e ((r.set 5 none).set 5 (some d)) st = .ok (.int w) st) (hr : 5 < r.length) : den cf gl (.comp .seq [.var 3] [5] (.con (.bl true)) (.op .tup [.var 5, e])) r st = .ok (.lst ((ps.map (toMo w)).map Mo.val)) st := by
  have e1 := comp_map (cf := cf) (gl := gl) (r := r) (s0 := st) (ex := .var 3) (v := 5) (c := .con (.bl true)) (e := .op .tup [.var 5, e]) (xs := ps.map tpl) (d := .lst (ps.map tpl)) (fun d => .tup [d, .int w]) (by simp [h3]) rfl (by intros; simp) (by
    intro d hd
    have := he d
    rw [List.set_set] at this
    simp [hr, this]) (by rw [List.length_map]; omega)
  rw [e1, List.map_map, List.map_map]
  congr 2
  exact List.map_congr_left fun v hv => (toMo_val (hp v hv) w).symm
theorem tpls_of {Q : List Int → Prop} : ∀ {ds : List D}, (∀ d ∈ ds, ∃ p, d = tpl p ∧ Q p) → ∃ ps : List (List Int), ds = ps.map tpl ∧ ∀ p ∈ ps, Q p
  | [], _ => ⟨[], rfl, by simp⟩
  | d :: ds, h => by
    obtain ⟨p, rfl, hp⟩ := h d (by simp)
    obtain ⟨ps, rfl, hps⟩ := tpls_of (ds := ds) fun x hx => h x (by simp [hx])
    exact ⟨p :: ps, rfl, by simpa using ⟨hp, hps⟩⟩
theorem r_right (n : Nat) {xs : List D} (h : Spr 0 xs) : ∃ s, run (n + 8) i__law_right [.loc 0] [xs] = .ok (.bl true) s := by
  have aft0 : ∀ (q : D) (y y' : List D) (ex : Store), q.pure = true → after [y] (.ok q (y' :: ex)) = .ok q [y'] := fun q y y' ex hq => after_ex (rest := []) (ex := ex) hq
  obtain ⟨x1, mo, e1, h1, hm⟩ := r_of (n + 5) (d := tpl [1, 3, 9]) (ys := [.int 1, .int 3, .int 9]) [] h (by omega) (fun _ => rfl) (by decide) (by decide)
  obtain ⟨M, rfl, M0, M1⟩ : ∃ i : Nat, mo = .int (i : Int) ∧ 1 ≤ i ∧ i ≤ 9 := by
    simp only [List.mem_cons, List.not_mem_nil, or_false] at hm
    rcases hm with rfl | rfl | rfl
    · exact ⟨1, rfl, by decide, by decide⟩
    · exact ⟨3, rfl, by decide, by decide⟩
    · exact ⟨9, rfl, by decide, by decide⟩
  obtain ⟨x2, ex2, r0, r1, r2, e2, h2, gr, zr, br⟩ := ray_x (n + 5) M h1 (by omega) M0 (by omega)
  have br9 : ∀ i ∈ [r0, r1, r2], i.natAbs ≤ 9 := fun i hi => Nat.le_trans (br i hi) M1
  obtain ⟨x3, f, e3, h3, f0, f1⟩ := r_dip (n + 6) (m := 2) [] h2 (by omega) (by decide) (by decide)
  obtain ⟨x4, dn, dm, f1, h4, gd, dd, hd⟩ : ∃ x4 dn dm, denB (run (n + 7)) gl (f__law_right.body.take 2) [some (.loc 0), none, none, none, none, none, none, none, none, none, none] [xs] = .go .nx [some (.loc 0), some (tpl [r0, r1, r2]), some (tpl [dn, dm]), none, none, none, none, none, none, none, none] [x4] ∧ Spr 50 x4 ∧ gcdL [dn, dm] = 1 ∧ Dat [dn, dm] ∧ Bv 40 [dn, dm] := by
    by_cases k1 : f = 0
    · obtain ⟨a, b, e4, g4, d4, b4⟩ := x_law_height (n + 5) r0 r1 r2 [x3] zr (bv_of (m := 9) (e := 10) (by decide) br9 _ (Nat.le_refl _))
      exact ⟨x3, a, b, by simp [f__law_right, e1, e2, e3, k1, e4, aft0], h3.mono (by omega), g4, d4, b4⟩
    · obtain ⟨x4, a, b, e4, h4, g4, d4, b4⟩ := day_x (n + 4) h3 (by omega)
      exact ⟨x4, a, b, by simp [f__law_right, e1, e2, e3, k1, e4, aft0], h4.mono (by omega), g4, d4, b4.mono (by decide)⟩
  obtain ⟨x5, f', e5, h5, f0', f1'⟩ := r_dip (n + 6) (m := 2) [] h4 (by omega) (by decide) (by decide)
  obtain ⟨F, rfl⟩ : ∃ F : Nat, f' = (F : Int) := ⟨f'.toNat, by omega⟩
  obtain ⟨x6, ds, e6, h6, l6, p6⟩ := comp_drawn (cf := run (n + 7)) (gl := gl) (st := []) (r := [some (.loc 0), some (tpl [r0, r1, r2]), some (tpl [dn, dm]), none, none, none, none, none, none, none, none]) (ex := .op .add [.con (.int 2), .call i__law_dip [.var 0, .con (.int 2)] []]) (e := .call i__law_plane [.var 0, .var 1, .var 2] []) (v := 9) (m := 2 + F) (s0 := [x4]) (xs := x5) (b := 60) (c := 8) (fun d => ∃ p, d = tpl p ∧ Pn dn dm p) (by simp [e5]) (by omega) (h5.mono (by omega)) (by
    intro i j x hi hx
    obtain ⟨x', ex, a, b, c, e7, h7, g7, p7⟩ := plane_x (n + 4) hx (by omega) br9 dd hd
    exact ⟨x', tpl [a, b, c], by simp [e7, aft0], h7.mono (by omega), _, rfl, a, b, c, rfl, g7, p7⟩)
  obtain ⟨ps, rfl, hps⟩ := tpls_of p6
  rw [List.length_map] at l6
  have hl3 : ps.length ≤ 3 := by omega
  obtain ⟨ms, hms⟩ : ∃ ms, ms = ps.map (toMo 1) ++ ps.map (toMo (-1)) := ⟨_, rfl⟩
  have okm : ∀ x ∈ ms, x.ok dn dm ∧ MoB x := by
    intro x hx
    rw [hms] at hx
    rcases List.mem_append.mp hx with hx | hx <;> (obtain ⟨v, hv, rfl⟩ := List.mem_map.mp hx)
    · exact toMo_ok (hps v hv) (.inl rfl)
    · exact toMo_ok (hps v hv) (.inr rfl)
  have c1 := edges_c (cf := run (n + 7)) (gl := gl) ps 1 (.con (.int 1)) [some (.loc 0), some (tpl [r0, r1, r2]), some (tpl [dn, dm]), some (.lst (ps.map tpl)), none, none, none, none, none, none, none] [x6] hps hl3 rfl (by intro d; simp) (by simp)
  have c2 := edges_c (cf := run (n + 7)) (gl := gl) ps (-1) (.op .neg [.con (.int 1)]) [some (.loc 0), some (tpl [r0, r1, r2]), some (tpl [dn, dm]), some (.lst (ps.map tpl)), none, none, none, none, none, none, none] [x6] hps hl3 rfl (by intro d; simp) (by simp)
  have hlm : ms.length ≤ 6 := by rw [hms, List.length_append, List.length_map, List.length_map]; omega
  have okE : ∀ x ∈ ms, ∃ a b c w, x = .ed a b c w ∧ (Mo.ed a b c w).ok dn dm ∧ Bv 40 [a, b, c] := by
    intro x hx
    have h1 := okm x hx
    rw [hms] at hx
    rcases List.mem_append.mp hx with hx | hx <;> (obtain ⟨v, hv, rfl⟩ := List.mem_map.mp hx; obtain ⟨x, y, z, rfl, _⟩ := hps v hv; exact ⟨_, _, _, _, rfl, h1.1, h1.2⟩)
  have hmap : (ps.map (toMo 1)).map Mo.val ++ (ps.map (toMo (-1))).map Mo.val = ms.map Mo.val := by rw [hms, List.map_append]
  have f2 : denB (run (n + 7)) gl ((f__law_right.body.drop 2).take 2) [some (.loc 0), some (tpl [r0, r1, r2]), some (tpl [dn, dm]), none, none, none, none, none, none, none, none] [x4] = .go .nx [some (.loc 0), some (tpl [r0, r1, r2]), some (tpl [dn, dm]), some (.lst (ps.map tpl)), some (.lst (ms.map Mo.val)), none, none, none, none, none, none] [x6] := by
    have o1 : opD [x6] .add [.lst ((ps.map (toMo 1)).map Mo.val), .lst ((ps.map (toMo (-1))).map Mo.val)] = some (.lst (ms.map Mo.val)) := by
      rw [o_add_lst _ _ (by simp only [List.length_map]; omega), hmap]
    simp only [f__law_right, List.drop, List.take, denB_cons, denB_nil, denS_asg, e6]
    simp [c1, c2, o1, -List.map_map]
  have nz2 : ¬ Zer [r0, r1] := by simp only [Zer_cons]; rintro ⟨p, q, _⟩; exact zr ⟨p, q⟩
  have br2 : ∀ i ∈ [r0, r1], i.natAbs ≤ 9 := fun i hi => br9 i (by
    simp only [List.mem_cons, List.not_mem_nil, or_false] at hi ⊢
    rcases hi with hi | hi
    · exact .inl hi
    · exact .inr (.inl hi))
  have e7 := x_cut (n + 6) [r0, r1] [x6] nz2 (bv_of (m := 9) (e := 1000) (by decide) br2 _ (Nat.le_refl _)) (by simp)
  obtain ⟨h0, h1', hr2⟩ : ∃ a b, red [r0, r1] = [a, b] := T2.red ⟨r0, r1, rfl⟩
  have gH : gcdL [h0, h1'] = 1 := by rw [← hr2]; exact gcdL_red nz2
  have okH : (Mo.hr h0 h1').ok dn dm ∧ MoB (.hr h0 h1') := by
    refine ⟨gH, ?_⟩
    show Bv 40 [h0, h1']
    exact bv_of (m := 9) (e := 40) (by decide) (fun i hi => red_le (by rw [hr2]; exact hi) br2) _ (Nat.le_refl _)
  have e8 := x_orders n dn dm (ms ++ [.hr h0 h1']) [x6] gd dd hd (by
    intro x hx
    rcases List.mem_append.mp hx with hx | hx
    · exact okm x hx
    · rw [List.mem_singleton.mp hx]; exact okH)
  have f3 : denB (run (n + 7)) gl ((f__law_right.body.drop 4).take 1) [some (.loc 0), some (tpl [r0, r1, r2]), some (tpl [dn, dm]), some (.lst (ps.map tpl)), some (.lst (ms.map Mo.val)), none, none, none, none, none, none] [x6] = .go .nx [some (.loc 0), some (tpl [r0, r1, r2]), some (tpl [dn, dm]), some (.lst (ps.map tpl)), some (.lst (ms.map Mo.val)), none, none, none, none, none, none] [x6] := by
    have o1 : opD [x6] .add [.lst (ms.map Mo.val), .lst [tpl [h0, h1']]] = some (.lst ((ms ++ [Mo.hr h0 h1']).map Mo.val)) := by
      rw [o_add_lst _ _ (by simp only [List.length_map, List.length_cons, List.length_nil]; omega), List.map_append]; rfl
    have c2 : ∀ st : Store, opD st (.cut false true) [tpl [r0, r1, r2], .int 2] = some (tpl [r0, r1]) := fun _ => rfl
    rw [hr2] at e7
    generalize (ms ++ [Mo.hr h0 h1']).map Mo.val = ME at *
    simp [f__law_right, c2, e7, o1, e8]
  obtain ⟨x7, so, e9, h7, hso⟩ := r_of (n + 5) (d := tpl [2, 9, 99]) (ys := [.int 2, .int 9, .int 99]) [] h6 (by omega) (fun _ => rfl) (by decide) (by decide)
  obtain ⟨Q, rfl, Q0, Q1⟩ : ∃ i : Nat, so = .int (i : Int) ∧ 1 ≤ i ∧ i ≤ 99 := by
    simp only [List.mem_cons, List.not_mem_nil, or_false] at hso
    rcases hso with rfl | rfl | rfl
    · exact ⟨2, rfl, by decide, by decide⟩
    · exact ⟨9, rfl, by decide, by decide⟩
    · exact ⟨99, rfl, by decide, by decide⟩
  obtain ⟨x8, ex8, rw', e10, h8, lw, gw, zw, bw⟩ := row_x (n + 5) [] 3 Q h7 (by omega) (by decide) (by decide) Q0 (by omega)
  have e10 : run (n + 7) i__law_row [.loc 0, .int 3, .int (Q : Int)] [x7] = .ok (tpl rw') (x8 :: ex8) := e10
  have bw40 : Bv 40 rw' := bv_of (m := 99) (e := 40) (by decide) (fun i hi => Nat.le_trans (bw i hi) Q1) _ (Nat.le_refl _)
  obtain ⟨vs, hvs⟩ : ∃ vs : List (List Int), vs = ps ++ [rw', [0, 0, 1]] := ⟨_, rfl⟩
  have okv : ∀ v ∈ vs, ∃ p q r, v = [p, q, r] ∧ gcdL [p, q, r] = 1 ∧ Bv 40 [p, q, r] := by
    intro v hv
    rw [hvs] at hv
    rcases List.mem_append.mp hv with hv | hv
    · obtain ⟨x, y, z, rfl, hg, _⟩ := hps v hv
      exact ⟨x, y, z, rfl, hg.2.1, hg.bv.mono (by decide)⟩
    · simp only [List.mem_cons, List.not_mem_nil, or_false] at hv
      rcases hv with rfl | rfl
      · match v, lw with
        | [p, q, r], _ => exact ⟨p, q, r, rfl, gw, bw40⟩
      · exact ⟨0, 0, 1, rfl, by decide, bv_of (m := 99) (e := 40) (by decide) (by decide) _ (Nat.le_refl _)⟩
  have hmV : ps.map tpl ++ [tpl rw', tpl [0, 0, 1]] = vs.map tpl := by rw [hvs, List.map_append]; rfl
  obtain ⟨r1', e11, y5, y6, y10, rfl⟩ := seq_same2 (cf := run (n + 7)) (gl := gl) (r := [some (.loc 0), some (tpl [r0, r1, r2]), some (tpl [dn, dm]), some (.lst (ps.map tpl)), some (.lst (ms.map Mo.val)), none, none, none, none, none, none]) (s0 := [x6]) (s1 := [x8]) (ex := .op .add [.var 3, .op .lst [.call i__law_row [.var 0, .con (.int (3)), .call i__law_of [.var 0, .op .tup [.con (.int (2)), .con (.int (9)), .con (.int (99))]] []] [], .op .tup [.con (.int (0)), .con (.int (0)), .con (.int (1))]]]) (v := 5) (xs := vs.map tpl) (d := .lst (vs.map tpl)) (body := [.loop .seq [.var 4] (.nm 6) [.asg (.nm 10) (.call i__law_sign [.var 5, .var 2, .var 6] []), .iff (.op .ne [.op .repr [.op .lst [.call i_sign_at [.var 5, .var 2, .var 6] [], .call i_sign_at [] [.var 5, .var 2, .var 6]]], .op .repr [.op .lst [.var 10, .var 10]]]) [.ret (.con (.bl false))] []]])
    (fun r => ∃ y5 y6 y10, r = [some (.loc 0), some (tpl [r0, r1, r2]), some (tpl [dn, dm]), some (.lst (ps.map tpl)), some (.lst (ms.map Mo.val)), y5, y6, none, none, none, y10]) (by
      have o1 : opD [x8] .add [.lst (ps.map tpl), .lst [tpl rw', tpl [0, 0, 1]]] = some (.lst (vs.map tpl)) := by
        rw [o_add_lst _ _ (by simp only [List.length_map, List.length_cons, List.length_nil]; omega), hmV]
      simp [e9, e10, aft0, o1]) rfl ⟨none, none, none, rfl⟩ (by
      rintro d hx r ⟨y5, y6, y10, rfl⟩
      obtain ⟨v, hv, rfl⟩ := List.mem_map.mp hx
      obtain ⟨p, q, s, rfl, gp, bp⟩ := okv v hv
      obtain ⟨r2', e12, y6', y10', rfl⟩ := seq_same (cf := run (n + 7)) (gl := gl) (r := [some (.loc 0), some (tpl [r0, r1, r2]), some (tpl [dn, dm]), some (.lst (ps.map tpl)), some (.lst (ms.map Mo.val)), some (tpl [p, q, s]), y6, none, none, none, y10]) (s0 := [x8]) (ex := .var 4) (v := 6) (xs := ms.map Mo.val) (d := .lst (ms.map Mo.val)) (body := [.asg (.nm 10) (.call i__law_sign [.var 5, .var 2, .var 6] []), .iff (.op .ne [.op .repr [.op .lst [.call i_sign_at [.var 5, .var 2, .var 6] [], .call i_sign_at [] [.var 5, .var 2, .var 6]]], .op .repr [.op .lst [.var 10, .var 10]]]) [.ret (.con (.bl false))] []])
        (fun r => ∃ y6 y10, r = [some (.loc 0), some (tpl [r0, r1, r2]), some (tpl [dn, dm]), some (.lst (ps.map tpl)), some (.lst (ms.map Mo.val)), some (tpl [p, q, s]), y6, none, none, none, y10]) (by simp) rfl ⟨y6, y10, rfl⟩ (by
          rintro d hy r ⟨y6, y10, rfl⟩
          obtain ⟨m, hm', rfl⟩ := List.mem_map.mp hy
          obtain ⟨a, b, c, w, rfl, okM, bM⟩ := okE m hm'
          have e13 := x_law_sign (n + 4) dn dm p q s a b c w [x8] hd okM bM bp
          have e14 := x_sign_atE (n + 1) dn dm p q s a b c w [x8] gd dd hd okM bM gp bp
          have sh : ∀ k, Sh k (.int (sgE dn dm p q s a b c w)) := fun k => Sh_int (Bd.mono (n := 2) (by
            unfold sgE
            rcases rt2_cases (p * (w * b) - q * (w * a)) (eN dn dm a b c) ((s * (a * a + b * b) - c * (p * a + q * b)) * sg dn) (aN dn) with e | e | e <;> rw [e] <;> decide) (by decide))
          have hV : (Mo.ed a b c w).val = .tup [tpl [a, b, c], .int w] := rfl
          rw [hV]
          generalize sgE dn dm p q s a b c w = O at *
          exact ⟨[some (.loc 0), some (tpl [r0, r1, r2]), some (tpl [dn, dm]), some (.lst (ps.map tpl)), some (.lst (ms.map Mo.val)), some (tpl [p, q, s]), some (.tup [tpl [a, b, c], .int w]), none, none, none, some (.int O)], by simp [e13, e14, sh], _, _, rfl⟩)
      exact ⟨[some (.loc 0), some (tpl [r0, r1, r2]), some (tpl [dn, dm]), some (.lst (ps.map tpl)), some (.lst (ms.map Mo.val)), some (tpl [p, q, s]), y6', none, none, none, y10'], by simp only [List.set_cons_succ, List.set_cons_zero, denB_cons, denB_nil, e12], _, _, _, rfl⟩)
  have f4 : denB (run (n + 7)) gl ((f__law_right.body.drop 5).take 1) [some (.loc 0), some (tpl [r0, r1, r2]), some (tpl [dn, dm]), some (.lst (ps.map tpl)), some (.lst (ms.map Mo.val)), none, none, none, none, none, none] [x6] = .go .nx [some (.loc 0), some (tpl [r0, r1, r2]), some (tpl [dn, dm]), some (.lst (ps.map tpl)), some (.lst (ms.map Mo.val)), y5, y6, none, none, none, y10] [x8] := by
    simp only [f__law_right, List.drop, List.take, denB_cons, denB_nil, e11]
  obtain ⟨A, mt, hA⟩ : ∃ A mt, ms = A :: mt := by
    cases hh : ms with
    | nil => rw [hh] at hms; have := congrArg List.length hms; simp only [List.length_nil, List.length_append, List.length_map] at this; omega
    | cons a b => exact ⟨a, b, rfl⟩
  obtain ⟨mi, Z, hZ⟩ : ∃ mi Z, ms = mi ++ [Z] := by
    rcases List.eq_nil_or_concat ms with q | ⟨L, b, q⟩
    · rw [q] at hA; cases hA
    · exact ⟨L, b, by rw [q, List.concat_eq_append]⟩
  have okA := okm A (by rw [hA]; simp)
  have okZ := okm Z (by rw [hZ]; simp)
  have i1 : atI (ms.map Mo.val) 0 = some A.val := by rw [hA]; exact at_nat (n := 0) rfl
  have i2 : atI (ms.map Mo.val) (-1) = some Z.val := by
    rw [hZ, List.map_append]
    exact at_last _ _
  have e15 := x_compare (n + 1) dn dm A Z [x8] gd dd okA.1 okZ.1 okA.2 okZ.2 hd
  have e16 := x_law_order (n + 3) dn dm A Z [x8] okA.1 okZ.1 okA.2 okZ.2 hd
  have sO : ∀ k, Sh k (.int (ordM dn dm A Z)) := fun k => sh_ord dn dm A Z k
  refine ⟨[x8], ?_⟩
  rw [u__law_right, denB_at 2 f1, denB_at 2 f2, List.drop_drop, denB_at 1 f3, List.drop_drop, denB_at 1 f4, List.drop_drop]
  generalize ordM dn dm A Z = O at *
  generalize A.val = Av at *
  generalize Z.val = Zv at *
  simp [f__law_right, i1, i2, e15, e16, sO]
--@ law
theorem r_law (n : Nat) (ns : List Int) : run (n + 9) i_law [.scr ns] [] = .ok (.bl true) [] := by
  have hl : opD [] .len [.scr ns] = some (.int (ns.length : Int)) := by
    rw [o_len (xs := ns.map .int) rfl, List.length_map]
  have er : ∃ m : Nat, m ≤ 3 ∧ run (n + 8) i__law_rounds [.scr ns] [] = .ok (.int (m : Int)) [] := by
    refine ⟨(if (if (3 : Int) < ns.length then (3 : Int) else ns.length) > 2 then (if (3 : Int) < ns.length then (3 : Int) else ns.length) else 2).toNat, ?_, ?_⟩
    · split <;> split <;> omega
    · simp [u__law_rounds, f__law_rounds, hl]
      split <;> split <;> omega
  obtain ⟨m, hm, er⟩ := er
  obtain ⟨r1, s1, e1, ⟨y, rfl⟩, rfl⟩ := rng_inv (cf := run (n + 8)) (gl := gl) (r := [some (.scr ns), none]) (s0 := []) (ex := .call i__law_rounds [.var 0] []) (v := 1) (n := m) (body := [.iff (.nott (.call i__law_right [.callr i__law_well [.var 0, .var 1] []] [])) [.ret (.con (.bl false))] []])
    (fun i r s => (∃ y, r = [some (.scr ns), y]) ∧ s = []) (by simp [er]) (by omega) ⟨⟨none, rfl⟩, rfl⟩ (by
      rintro i r s hi ⟨⟨y, rfl⟩, rfl⟩
      obtain ⟨xs, e2, h2⟩ := r_well (n + 7) ns i (by omega)
      obtain ⟨s, e3⟩ := r_right n h2
      exact ⟨_, _, by simp [e2, afterR, e3, after, fz_pure], ⟨some (.int (i : Int)), rfl⟩, rfl⟩)
  rw [u_law]
  simp [f_law, e1]
end LawX


open PySem PySem.W PySem.Calls PyProof.Rows
theorem PySem.Challenge.cw_skyplates_k54_whole_edges_of_two_planes_holds : PySem.Challenge.rw_skyplates_k54_whole_edges_of_two_planes.Holds := by
  exact law_from 8 ⟨rfl, by decide, by decide⟩ fun ns _ => ⟨[], LawX.r_law 0 ns⟩
