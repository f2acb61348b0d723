import PyProof.Rows.All
import Wide.All
import OpenK.AllK
import Wide.FinOn
import HandS.ForMost
import HandS.Walk
import HandS.DictComp
import HandS.SetKeys
import HandS.TupAny
import HandS.IsInst
import HandS.Small
import HandS.ListItems
import KE.DataEq
import HandS.RaiseMore
import HandS.SortInts
import PyProof.Rows.SortStr
import HandS.Flow
import HandS.SetTxt0
import HandS.Strs
import PyProof.Rows.SetFrom
import HandS.More
import PySem.Challenge.RW_stairwright_k04_whole_ways_between_block
set_option Elab.async false
set_option linter.all false
set_option maxRecDepth 100000
set_option maxHeartbeats 4000000
/-! PyM: defs of the text as plain functions of data (tuples by value, lists, dicts, instances by number in a small heap), shown once a construct over the hand layer's rules. -/
namespace PM
open PySem L2

/-- a value: tuples by their items (rol: a list that never changes), objects that change by a number -/
inductive D where
  | non | bl (b : Bool) | int (i : Int) | str (x : Str) | tup (xs : List D) | rol (xs : List D) | ref (n : Nat)
  deriving Inhabited
/-- an object that changes (lk: a dict while it is walked) -/
inductive Ob where
  | lst (xs : List D) | dic (lk : Bool) (kvs : List (Key × D)) | dit (lk : Bool) (kvs : List (List Key × D)) | ins (C : Str) (fs : List (Str × D))
  deriving Inhabited
abbrev AH := List Ob
abbrev Env := List (Option D)
structure Exn where
  cls : Str
  fs : List (Str × D)
/-- what a piece of the text comes to: nothing that is told, a value, an exception -/
inductive R (α : Type) where
  | no | ok (a : α) (h : AH) | ex (e : Exn) (h : AH)
def R.bind {α β : Type} (r : R α) (k : α → AH → R β) : R β := match r with
  | .no => .no
  | .ok a h => k a h
  | .ex e h => .ex e h
@[simp] theorem R.bind_ok {α β : Type} (a : α) (h : AH) (k : α → AH → R β) : (R.ok a h).bind k = k a h := rfl
@[simp] theorem R.bind_no {α β : Type} (k : α → AH → R β) : (R.no : R α).bind k = .no := rfl
@[simp] theorem R.bind_ex {α β : Type} (e : Exn) (h : AH) (k : α → AH → R β) : (R.ex e h : R α).bind k = .ex e h := rfl
/-- how a statement ends -/
inductive Fl where
  | nx (env : Env) | rt (d : D) | bk (env : Env) | ct (env : Env)

/-! ### equality of data -/
mutual
def D.beq : D → D → Bool
  | .non, .non => true
  | .bl a, .bl b => a == b
  | .int a, .int b => a == b
  | .str a, .str b => decide (a = b)
  | .tup a, .tup b => D.beqs a b
  | .rol a, .rol b => D.beqs a b
  | .ref a, .ref b => a == b
  | _, _ => false
def D.beqs : List D → List D → Bool
  | [], [] => true
  | a :: as, b :: bs => D.beq a b && D.beqs as bs
  | _, _ => false
end
mutual
theorem D.beq_refl : ∀ a : D, D.beq a a = true
  | .non => rfl
  | .bl a => by simp [D.beq]
  | .int a => by simp [D.beq]
  | .str a => by simp [D.beq]
  | .tup a => by rw [D.beq]; exact D.beqs_refl a
  | .rol a => by rw [D.beq]; exact D.beqs_refl a
  | .ref a => by simp [D.beq]
theorem D.beqs_refl : ∀ a : List D, D.beqs a a = true
  | [] => rfl
  | a :: as => by rw [D.beqs, D.beq_refl a, D.beqs_refl as]; rfl
end
mutual
theorem D.eq_of_beq : ∀ a b : D, D.beq a b = true → a = b
  | .non, b, h => by cases b <;> simp_all [D.beq]
  | .bl _, b, h => by cases b <;> simp_all [D.beq]
  | .int _, b, h => by cases b <;> simp_all [D.beq]
  | .str _, b, h => by cases b <;> simp_all [D.beq]
  | .ref _, b, h => by cases b <;> simp_all [D.beq]
  | .tup a, b, h => by
    cases b with
    | tup b => rw [D.beq] at h; rw [D.eq_of_beqs a b h]
    | _ => simp [D.beq] at h
  | .rol a, b, h => by
    cases b with
    | rol b => rw [D.beq] at h; rw [D.eq_of_beqs a b h]
    | _ => simp [D.beq] at h
theorem D.eq_of_beqs : ∀ a b : List D, D.beqs a b = true → a = b
  | [], [], _ => rfl
  | [], _ :: _, h => by simp [D.beqs] at h
  | _ :: _, [], h => by simp [D.beqs] at h
  | a :: as, b :: bs, h => by
    rw [D.beqs, Bool.and_eq_true] at h
    rw [D.eq_of_beq a b h.1, D.eq_of_beqs as bs h.2]
end
instance : DecidableEq D := fun a b => match h : D.beq a b with
  | true => .isTrue (D.eq_of_beq a b h)
  | false => .isFalse fun e => by rw [e, D.beq_refl] at h; cases h

/-- all that does not change is as it was -/
def Stb (H H' : Hp) : Prop := ∀ a o, H a = some o → ¬ Mut (some o) → H' a = some o
theorem Stb.refl (H : Hp) : Stb H H := fun _ _ h _ => h
theorem Stb.trans {H H1 H2 : Hp} (a : Stb H H1) (b : Stb H1 H2) : Stb H H2 := fun x o h m => b x o (a x o h m) m
/-! ### values of the text -/
section
variable (K : PySem.W.Frag) (ms : List Addr) (H : Hp)
mutual
def RV : D → V → Prop
  | .non, v => v = .non
  | .bl b, v => v = .bl b
  | .int i, v => v = .int i
  | .str x, v => v = .str x
  | .tup ds, v => ∃ a vs, v = .ref a ∧ SqT K H a vs ∧ RVs ds vs
  | .rol ds, v => ∃ a vs, v = .ref a ∧ (∀ H', Stb H H' → SqL K H' a vs) ∧ RVs ds vs
  | .ref i, v => ∃ a, v = .ref a ∧ ms[i]? = some a
def RVs : List D → List V → Prop
  | [], vs => vs = []
  | d :: ds, vs => ∃ v r, vs = v :: r ∧ RV d v ∧ RVs ds r
end
/-- keys and values, item by item -/
def RKs {κ : Type} : List (κ × D) → List (κ × V) → Prop
  | [], vs => vs = []
  | (k, d) :: ds, vs => ∃ v r, vs = (k, v) :: r ∧ RV K ms H d v ∧ RKs ds r
end
theorem Stb.rd {H H' : Hp} {a : Addr} {xs : List V} (s : Stb H H') (h : Rd H a (.tup xs)) : Rd H' a (.tup xs) := by
  rcases h with h | ⟨o, h⟩
  · exact .inl (s a _ h fun z => z)
  · exact .inr ⟨o, s a _ h fun z => z⟩
theorem Stb.tup {K : PySem.W.Frag} {H H' : Hp} {a : Addr} {xs : List V} (s : Stb H H') (h : SqT K H a xs) : SqT K H' a xs := by
  rcases h with h | h
  · exact .inl (s.rd h)
  · exact .inr h
theorem Stb.new {H : Hp} {p : Addr} {o : HO} (h : H p = none) : Stb H (upd H p o) := fun a u e _ => by
  rw [upd_ne (ne_of_none e h)]
  exact e
theorem Stb.wr {H : Hp} {p : Addr} {o : HO} (h : Mut (H p)) : Stb H (upd H p o) := fun a u e m => by
  by_cases q : a = p
  · subst q; rw [e] at h; exact absurd h m
  · rw [upd_ne q]; exact e
section
variable {K : PySem.W.Frag} {ms t : List Addr} {H H' : Hp}
theorem get_app {α : Type} {l t : List α} {i : Nat} {a : α} (h : l[i]? = some a) : (l ++ t)[i]? = some a := by
  have := (List.getElem?_eq_some_iff.mp h).1
  rw [List.getElem?_append_left this]; exact h
mutual
theorem RV.mono (s : Stb H H') : ∀ (d : D) (v : V), RV K ms H d v → RV K (ms ++ t) H' d v
  | .non, _, h => by rw [RV] at h ⊢; exact h
  | .bl _, _, h => by rw [RV] at h ⊢; exact h
  | .int _, _, h => by rw [RV] at h ⊢; exact h
  | .str _, _, h => by rw [RV] at h ⊢; exact h
  | .tup ds, v, h => by
    rw [RV] at h ⊢
    obtain ⟨a, vs, e, q, r⟩ := h
    exact ⟨a, vs, e, s.tup q, RVs.mono s ds vs r⟩
  | .rol ds, v, h => by
    rw [RV] at h ⊢
    obtain ⟨a, vs, e, q, r⟩ := h
    exact ⟨a, vs, e, fun H2 s2 => q H2 (s.trans s2), RVs.mono s ds vs r⟩
  | .ref i, v, h => by
    rw [RV] at h ⊢
    obtain ⟨a, e, q⟩ := h
    exact ⟨a, e, get_app q⟩
theorem RVs.mono (s : Stb H H') : ∀ (ds : List D) (vs : List V), RVs K ms H ds vs → RVs K (ms ++ t) H' ds vs
  | [], _, h => by rw [RVs] at h ⊢; exact h
  | d :: ds, vs, h => by
    rw [RVs] at h ⊢
    obtain ⟨v, r, e, a, b⟩ := h
    exact ⟨v, r, e, RV.mono s d v a, RVs.mono s ds r b⟩
end
theorem RKs.mono {κ : Type} (s : Stb H H') : ∀ (ds : List (κ × D)) (vs : List (κ × V)), RKs K ms H ds vs → RKs K (ms ++ t) H' ds vs
  | [], _, h => h
  | (k, d) :: ds, vs, h => by
    obtain ⟨v, r, e, a, b⟩ := h
    exact ⟨v, r, e, RV.mono s d v a, RKs.mono s ds r b⟩
theorem RVs.length : ∀ {ds : List D} {vs : List V}, RVs K ms H ds vs → vs.length = ds.length
  | [], _, h => by rw [RVs] at h; subst h; rfl
  | d :: ds, vs, h => by
    rw [RVs] at h
    obtain ⟨v, r, e, _, b⟩ := h
    subst e
    rw [List.length_cons, List.length_cons, RVs.length b]
theorem RVs.get : ∀ {ds : List D} {vs : List V} {i : Nat} {d : D}, RVs K ms H ds vs → ds[i]? = some d → ∃ v, vs[i]? = some v ∧ RV K ms H d v
  | [], _, _, _, _, e => by simp at e
  | d :: ds, vs, 0, d', h, e => by
    rw [RVs] at h
    obtain ⟨v, r, rfl, a, b⟩ := h
    simp at e; subst e
    exact ⟨v, rfl, a⟩
  | d :: ds, vs, i + 1, d', h, e => by
    rw [RVs] at h
    obtain ⟨v, r, rfl, a, b⟩ := h
    obtain ⟨w, e1, e2⟩ := RVs.get (i := i) b (by simpa using e)
    exact ⟨w, by simpa using e1, e2⟩
theorem RVs.get' : ∀ {ds : List D} {vs : List V} {i : Nat} {v : V}, RVs K ms H ds vs → vs[i]? = some v → ∃ d, ds[i]? = some d ∧ RV K ms H d v
  | ds, vs, i, v, h, e => by
    have hl := h.length
    have hi := (List.getElem?_eq_some_iff.mp e).1
    obtain ⟨w, e1, e2⟩ := h.get (i := i) (d := ds[i]'(by omega)) (by simp [show i < ds.length by omega])
    rw [e] at e1; cases e1
    exact ⟨_, by simp [show i < ds.length by omega], e2⟩
theorem RVs.append : ∀ {ds es : List D} {vs ws : List V}, RVs K ms H ds vs → RVs K ms H es ws → RVs K ms H (ds ++ es) (vs ++ ws)
  | [], _, _, _, h, g => by rw [RVs] at h; subst h; exact g
  | d :: ds, es, vs, ws, h, g => by
    rw [RVs] at h
    obtain ⟨v, r, rfl, a, b⟩ := h
    show RVs K ms H (d :: (ds ++ es)) (v :: (r ++ ws))
    rw [RVs]
    exact ⟨v, _, rfl, a, b.append g⟩
theorem RVs.nil : RVs K ms H [] [] := by rw [RVs]
theorem RVs.cons {d : D} {v : V} {ds : List D} {vs : List V} (a : RV K ms H d v) (b : RVs K ms H ds vs) : RVs K ms H (d :: ds) (v :: vs) := by
  rw [RVs]; exact ⟨v, vs, rfl, a, b⟩
theorem RVs.take : ∀ {ds : List D} {vs : List V} (n : Nat), RVs K ms H ds vs → RVs K ms H (ds.take n) (vs.take n)
  | [], _, n, h => by rw [RVs] at h; subst h; simp [RVs]
  | d :: ds, vs, 0, h => by simp [RVs]
  | d :: ds, vs, n + 1, h => by
    rw [RVs] at h
    obtain ⟨v, r, rfl, a, b⟩ := h
    exact .cons a (b.take n)
theorem RVs.drop : ∀ {ds : List D} {vs : List V} (n : Nat), RVs K ms H ds vs → RVs K ms H (ds.drop n) (vs.drop n)
  | ds, vs, 0, h => h
  | [], _, n + 1, h => by rw [RVs] at h; subst h; simp [RVs]
  | d :: ds, vs, n + 1, h => by
    rw [RVs] at h
    obtain ⟨v, r, rfl, a, b⟩ := h
    exact b.drop n
theorem RVs.set {d : D} {v : V} (a : RV K ms H d v) : ∀ {ds : List D} {vs : List V} (n : Nat), RVs K ms H ds vs → RVs K ms H (ds.set n d) (vs.set n v)
  | [], _, n, h => by rw [RVs] at h; subst h; simp [RVs]
  | _ :: ds, vs, 0, h => by
    rw [RVs] at h
    obtain ⟨w, r, rfl, _, b⟩ := h
    exact .cons a b
  | _ :: ds, vs, n + 1, h => by
    rw [RVs] at h
    obtain ⟨w, r, rfl, x, b⟩ := h
    exact .cons x (b.set a n)
end

/-! ### objects, heaps -/
section
variable (K : PySem.W.Frag) (mg : Str → Option Value) (ms : List Addr) (H : Hp)
def LkD {κ : Type} (f : List (κ × V) → HO) (lk : Bool) (a : Addr) (ws : List (κ × V)) : Prop := if lk = true then ∃ o, H a = some (.frz o (f ws)) else H a = some (f ws)
def RO (a : Addr) : Ob → Prop
  | .lst xs => ∃ vs, H a = some (.lst vs) ∧ RVs K ms H xs vs
  | .dic lk kvs => ∃ ws, LkD H HO.dK lk a ws ∧ RKs K ms H kvs ws
  | .dit lk kvs => ∃ ws, LkD H HO.dT lk a ws ∧ RKs K ms H kvs ws
  | .ins C fs => ∃ Ca dx ws, mg C = some (.ref Ca) ∧ H a = some (.ins Ca dx ws) ∧ RKs K ms H fs ws
structure RH (h : AH) : Prop where
  len : ms.length = h.length
  nd : ms.Nodup
  ok : ∀ (i : Nat) (o : Ob) (a : Addr), h[i]? = some o → ms[i]? = some a → RO K mg ms H a o
end
/-- from one heap to a later one: new objects are told behind, what is not told stands -/
structure Stp (ms : List Addr) (H : Hp) (ms' : List Addr) (H' : Hp) : Prop where
  ext : ∃ t, ms' = ms ++ t ∧ ∀ b ∈ t, H b = none ∧ b ∉ ms
  frm : ∀ b o, H b = some o → b ∉ ms → H' b = some o
  stb : Stb H H'
theorem Stp.refl (ms : List Addr) (H : Hp) : Stp ms H ms H := ⟨⟨[], by simp, fun _ h => nomatch h⟩, fun _ _ h _ => h, Stb.refl H⟩
theorem Stp.back {ms ms' : List Addr} {H H' : Hp} (a : Stp ms H ms' H') {b : Addr} (h : H' b = none) (hb : b ∉ ms) : H b = none := by
  cases q : H b with
  | none => rfl
  | some o => rw [a.frm b o q hb] at h; cases h
theorem Stp.trans {ms ms1 ms2 : List Addr} {H H1 H2 : Hp} (a : Stp ms H ms1 H1) (b : Stp ms1 H1 ms2 H2) : Stp ms H ms2 H2 := by
  obtain ⟨t, rfl, ht⟩ := a.ext
  obtain ⟨u, rfl, hu⟩ := b.ext
  refine ⟨⟨t ++ u, by rw [List.append_assoc], fun c hc => ?_⟩, fun c o h hc => ?_, a.stb.trans b.stb⟩
  · rcases List.mem_append.mp hc with hc | hc
    · exact ht c hc
    · have q : c ∉ ms := fun z => (hu c hc).2 (List.mem_append_left _ z)
      exact ⟨a.back (hu c hc).1 q, q⟩
  · refine b.frm c o (a.frm c o h hc) fun z => ?_
    rcases List.mem_append.mp z with z | z
    · exact hc z
    · rw [(ht c z).1] at h; cases h
/-- a new object that is not told (a tuple) -/
theorem Stp.new (ms : List Addr) {H : Hp} {p : Addr} {o : HO} (h : H p = none) : Stp ms H ms (upd H p o) :=
  ⟨⟨[], by simp, fun _ h => nomatch h⟩, fun b u e _ => by rw [upd_ne (ne_of_none e h)]; exact e, Stb.new h⟩
section
variable {K : PySem.W.Frag} {mg : Str → Option Value} {ms ms' : List Addr} {H H' : Hp} {h h' : AH} {env : Env} {σ : L2.St}
theorem RV.step (s : Stp ms H ms' H') {d : D} {v : V} (r : RV K ms H d v) : RV K ms' H' d v := by
  obtain ⟨t, rfl, _⟩ := s.ext
  exact RV.mono s.stb d v r
theorem RVs.step (s : Stp ms H ms' H') {d : List D} {v : List V} (r : RVs K ms H d v) : RVs K ms' H' d v := by
  obtain ⟨t, rfl, _⟩ := s.ext
  exact RVs.mono s.stb d v r
theorem RKs.step {κ : Type} (s : Stp ms H ms' H') {d : List (κ × D)} {v : List (κ × V)} (r : RKs K ms H d v) : RKs K ms' H' d v := by
  obtain ⟨t, rfl, _⟩ := s.ext
  exact RKs.mono s.stb d v r
/-- an object's description leans on its own place and on what stands -/
theorem RO.step (s : Stp ms H ms' H') {a : Addr} {o : Ob} (he : ∀ u, H a = some u → H' a = some u) (r : RO K mg ms H a o) : RO K mg ms' H' a o := by
  cases o with
  | lst xs => obtain ⟨vs, e, q⟩ := r; exact ⟨vs, he _ e, q.step s⟩
  | dic lk kvs =>
    obtain ⟨ws, e, q⟩ := r
    refine ⟨ws, ?_, q.step s⟩
    unfold LkD at e ⊢
    split at e
    · obtain ⟨o, e⟩ := e; rw [if_pos ‹_›]; exact ⟨o, he _ e⟩
    · rw [if_neg ‹_›]; exact he _ e
  | dit lk kvs =>
    obtain ⟨ws, e, q⟩ := r
    refine ⟨ws, ?_, q.step s⟩
    unfold LkD at e ⊢
    split at e
    · obtain ⟨o, e⟩ := e; rw [if_pos ‹_›]; exact ⟨o, he _ e⟩
    · rw [if_neg ‹_›]; exact he _ e
  | ins C fs => obtain ⟨Ca, dx, ws, g, e, q⟩ := r; exact ⟨Ca, dx, ws, g, he _ e, q.step s⟩
/-- the objects told: some address each, a thing that may change or a list that is read -/
theorem RH.at (r : RH K mg ms H h) {i : Nat} {o : Ob} (e : h[i]? = some o) : ∃ a, ms[i]? = some a ∧ RO K mg ms H a o := by
  have hi := (List.getElem?_eq_some_iff.mp e).1
  have hl := r.len
  refine ⟨ms[i]'(by omega), by simp [show i < ms.length by omega], r.ok i o _ e (by simp [show i < ms.length by omega])⟩
/-- where only places that are not told have changed -/
theorem RH.keep (r : RH K mg ms H h) (s : Stp ms H ms H') (he : ∀ a ∈ ms, ∀ u, H a = some u → H' a = some u) : RH K mg ms H' h :=
  ⟨r.len, r.nd, fun i o a e1 e2 => (r.ok i o a e1 e2).step s (he a (List.mem_of_getElem? e2))⟩
theorem RH.new (r : RH K mg ms H h) {p : Addr} {u : HO} (hp : H p = none) : RH K mg ms (upd H p u) h :=
  r.keep (Stp.new ms hp) fun a _ w e => by rw [upd_ne (ne_of_none e hp)]; exact e
/-- an address where nothing stands is not told -/
theorem RO.some {a : Addr} {o : Ob} (r : RO K mg ms H a o) : ∃ u, H a = some u := by
  cases o with
  | lst xs => obtain ⟨vs, e, _⟩ := r; exact ⟨_, e⟩
  | dic lk kvs =>
    obtain ⟨ws, e, _⟩ := r
    unfold LkD at e
    split at e
    · obtain ⟨o, e⟩ := e; exact ⟨_, e⟩
    · exact ⟨_, e⟩
  | dit lk kvs =>
    obtain ⟨ws, e, _⟩ := r
    unfold LkD at e
    split at e
    · obtain ⟨o, e⟩ := e; exact ⟨_, e⟩
    · exact ⟨_, e⟩
  | ins C fs => obtain ⟨Ca, dx, ws, g, e, q⟩ := r; exact ⟨_, e⟩
theorem RH.notin (r : RH K mg ms H h) {p : Addr} (hp : H p = none) : p ∉ ms := fun z => by
  obtain ⟨i, hi, e⟩ := List.mem_iff_getElem.mp z
  have hl := r.len
  obtain ⟨u, q⟩ := (r.ok i (h[i]'(by omega)) p (by simp [show i < h.length by omega]) (by rw [← e]; simp [hi])).some
  rw [hp] at q; cases q
/-- a new object is told -/
theorem RH.push (r : RH K mg ms H h) {p : Addr} {u : HO} {o : Ob} (hp : H p = none) (ho : RO K mg (ms ++ [p]) (upd H p u) p o) : Stp ms H (ms ++ [p]) (upd H p u) ∧ RH K mg (ms ++ [p]) (upd H p u) (h ++ [o]) := by
  have hn := r.notin hp
  have s : Stp ms H (ms ++ [p]) (upd H p u) := ⟨⟨[p], rfl, fun b hb => by rw [List.mem_singleton.mp hb]; exact ⟨hp, hn⟩⟩, (Stp.new ms hp).frm, Stb.new hp⟩
  refine ⟨s, by simp [r.len], List.nodup_append.mpr ⟨r.nd, by simp, fun a ha b hb e => hn (by rw [← List.mem_singleton.mp hb, ← e]; exact ha)⟩, fun i o' a e1 e2 => ?_⟩
  by_cases hi : i < h.length
  · rw [List.getElem?_append_left hi] at e1
    rw [List.getElem?_append_left (by rw [r.len]; exact hi)] at e2
    exact (r.ok i o' a e1 e2).step s fun w e => by rw [upd_ne (ne_of_none e hp)]; exact e
  · have h1 := (List.getElem?_eq_some_iff.mp e1).1
    have hi2 : i = h.length := by rw [List.length_append, List.length_singleton] at h1; omega
    subst hi2
    have e3 : o = o' := by simpa using e1
    have e4 : p = a := by rw [← r.len] at e2; simpa using e2
    subst e3 e4
    exact ho
/-- an object is changed -/
theorem RH.put (r : RH K mg ms H h) {i : Nat} {a : Addr} {u : HO} {o : Ob} (ha : ms[i]? = some a) (mu : Mut (H a)) (ho : RO K mg ms (upd H a u) a o) : Stp ms H ms (upd H a u) ∧ RH K mg ms (upd H a u) (h.set i o) := by
  have s : Stp ms H ms (upd H a u) := ⟨⟨[], by simp, fun _ h => nomatch h⟩, fun b w e hb => by
    have : b ≠ a := fun z => hb (by rw [z]; exact List.mem_of_getElem? ha)
    rw [upd_ne this]; exact e, Stb.wr mu⟩
  refine ⟨s, by rw [List.length_set]; exact r.len, r.nd, fun j o' b e1 e2 => ?_⟩
  by_cases hj : j = i
  · subst hj
    rw [ha] at e2; cases e2
    have hl := (List.getElem?_eq_some_iff.mp e1).1
    rw [List.getElem?_set_self (by simpa using hl)] at e1
    cases e1
    exact ho
  · rw [List.getElem?_set_ne (Ne.symm hj)] at e1
    refine (r.ok j o' b e1 e2).step s fun w e => ?_
    have : b ≠ a := fun z => hj (by
      subst z
      obtain ⟨x1, y1⟩ := List.getElem?_eq_some_iff.mp e2
      obtain ⟨x2, y2⟩ := List.getElem?_eq_some_iff.mp ha
      exact (List.getElem_inj r.nd).mp (y1.trans y2.symm))
    rw [upd_ne this]; exact e
end
end PM

namespace PM
open PySem L2

/-- the written part, the module's names, what is wanted of an exception -/
structure Cm where
  K : PySem.W.Frag
  mg : Str → Option Value
  E : XK
/-- P holds of what a piece comes to, at every heap that it may leave -/
def Pg {α : Type} (c : Cm) (ms : List Addr) (H : Hp) (P : α → List Addr → Hp → Prop) : R α → Prop
  | .no => False
  | .ok a h => ∀ ms' H', Stp ms H ms' H' → RH c.K c.mg ms' H' h → P a ms' H'
  | .ex e h => ∀ ms' H' C d fs, Stp ms H ms' H' → RH c.K c.mg ms' H' h → c.mg e.cls = some (.ref C) → H' d = some (.xd fs) → RKs c.K ms' H' e.fs fs → c.E (.ref C) (some d) H'
section
variable {α β : Type} {c : Cm} {ms ms' : List Addr} {H H' : Hp} {h : AH}
theorem Pg.step {P : α → List Addr → Hp → Prop} (s : Stp ms H ms' H') : ∀ {r : R α}, Pg c ms H P r → Pg c ms' H' P r
  | .no, p => p
  | .ok _ _, p => fun ms2 H2 s2 => p ms2 H2 (s.trans s2)
  | .ex _ _, p => fun ms2 H2 C d fs s2 => p ms2 H2 C d fs (s.trans s2)
theorem Pg.bind {P : α → List Addr → Hp → Prop} {P2 : β → List Addr → Hp → Prop} {k : α → AH → R β} : ∀ {r : R α},
    (∀ a h1 ms1 H1, Stp ms H ms1 H1 → RH c.K c.mg ms1 H1 h1 → Pg c ms1 H1 P2 (k a h1) → P a ms1 H1) → Pg c ms H P2 (r.bind k) → Pg c ms H P r
  | .no, _, p => p
  | .ok a h1, f, p => fun ms1 H1 s r => f a h1 ms1 H1 s r (Pg.step s p)
  | .ex _ _, _, p => p
theorem Pg.here {P : α → List Addr → Hp → Prop} {a : α} (r : RH c.K c.mg ms H h) (p : Pg c ms H P (.ok a h)) : P a ms H := p ms H (Stp.refl ms H) r
theorem Pg.mono {P P2 : α → List Addr → Hp → Prop} (f : ∀ a ms' H', Stp ms H ms' H' → P a ms' H' → P2 a ms' H') : ∀ {r : R α}, Pg c ms H P r → Pg c ms H P2 r
  | .no, p => p
  | .ok a h1, p => fun ms1 H1 s r => f a ms1 H1 s (p ms1 H1 s r)
  | .ex _ _, p => p
end
/-- the slots -/
def RE (K : PySem.W.Frag) (ms : List Addr) (H : Hp) (env : Env) (σ : L2.St) : Prop :=
  env.length = σ.length ∧ ∀ (i : Nat) (d : D), env[i]? = some (some d) → ∃ v, σ[i]? = some (some v) ∧ RV K ms H d v
theorem RE.step {K : PySem.W.Frag} {ms ms' : List Addr} {H H' : Hp} {env : Env} {σ : L2.St} (s : Stp ms H ms' H') (r : RE K ms H env σ) : RE K ms' H' env σ :=
  ⟨r.1, fun i d e => let ⟨v, q, x⟩ := r.2 i d e; ⟨v, q, x.step s⟩⟩
theorem RE.set {K : PySem.W.Frag} {ms : List Addr} {H : Hp} {env : Env} {σ : L2.St} {d : D} {v : V} (r : RE K ms H env σ) (x : RV K ms H d v) (i : Nat) : RE K ms H (env.set i (some d)) (σ.set i (some v)) := by
  refine ⟨by rw [List.length_set, List.length_set]; exact r.1, fun j e q => ?_⟩
  by_cases hj : i = j
  · subst hj
    have hl := (List.getElem?_eq_some_iff.mp q).1
    rw [List.length_set] at hl
    rw [List.getElem?_set_self hl] at q
    cases q
    exact ⟨v, List.getElem?_set_self (by rw [← r.1]; exact hl), x⟩
  · rw [List.getElem?_set_ne hj] at q
    obtain ⟨w, q1, q2⟩ := r.2 j e q
    exact ⟨w, by rw [List.getElem?_set_ne hj]; exact q1, q2⟩
abbrev EM := Env → AH → R D
abbrev TM := Env → AH → R Bool
abbrev AM := Env → AH → R (List D)
abbrev SM := Env → AH → R Fl
/-- a value, a test, arguments, an end, told -/
abbrev PV (c : Cm) (Q : VK) : D → List Addr → Hp → Prop := fun d ms' H' => ∀ v, RV c.K ms' H' d v → Q v H'
abbrev PB (Q : Bool → Hp → Prop) : Bool → List Addr → Hp → Prop := fun b _ H' => Q b H'
abbrev PL (c : Cm) (Q : List V → Hp → Prop) : List D → List Addr → Hp → Prop := fun ds ms' H' => ∀ vs, RVs c.K ms' H' ds vs → Q vs H'
def PF (c : Cm) (Dn : Ends) : Fl → List Addr → Hp → Prop
  | .nx env, ms', H' => ∀ σ', RE c.K ms' H' env σ' → Dn.nx σ' H'
  | .rt d, ms', H' => ∀ v, RV c.K ms' H' d v → Dn.rt v H'
  | .bk env, ms', H' => ∀ σ', RE c.K ms' H' env σ' → Dn.bk σ' H'
  | .ct env, ms', H' => ∀ σ', RE c.K ms' H' env σ' → Dn.ct σ' H'
def EvM (c : Cm) (t : TE) (f : EM) : Prop := ∀ env h ms σ H Q, RE c.K ms H env σ → RH c.K c.mg ms H h → Pg c ms H (PV c Q) (f env h) → t σ H Q
def EvT (c : Cm) (t : TT) (f : TM) : Prop := ∀ env h ms σ H Q, RE c.K ms H env σ → RH c.K c.mg ms H h → Pg c ms H (PB Q) (f env h) → t σ H Q
def EvA (c : Cm) (n : Nat) (t : TA) (f : AM) : Prop := (∀ env h ds h', f env h = .ok ds h' → ds.length = n) ∧ ∀ env h ms σ H Q, RE c.K ms H env σ → RH c.K c.mg ms H h → Pg c ms H (PL c Q) (f env h) → t σ H Q
def EvS (c : Cm) (t : TS) (f : SM) : Prop := ∀ env h ms σ H Dn, RE c.K ms H env σ → RH c.K c.mg ms H h → Pg c ms H (PF c Dn) (f env h) → t Dn σ H
abbrev cm (X : Cx) (E : XK) : Cm := ⟨X.K, X.mg, E⟩
def ED (X : Cx) (E : XK) (e : Expr) (f : EM) : Prop := ∃ t, PE X e t ∧ EvM (cm X E) t f
def TD (X : Cx) (E : XK) (e : Expr) (f : TM) : Prop := ∃ t, PT X e t ∧ EvT (cm X E) t f
def WD (X : Cx) (E : XK) (e : Expr) (f : TM) : Prop := ∃ t, PW X e t ∧ EvT (cm X E) t f
def AD (X : Cx) (E : XK) (n : Nat) (es : List Expr) (f : AM) : Prop := ∃ t, PA X es t ∧ EvA (cm X E) n t f
def SD (X : Cx) (E : XK) (s : Stmt) (f : SM) : Prop := ∃ t, PS X s t ∧ EvS (cm X E) t f
def SDs (X : Cx) (E : XK) (s : List Stmt) (f : SM) : Prop := ∃ t, PSs X s t ∧ EvS (cm X E) t f

/-! ### names, constants -/
def eVar (i : Nat) : EM := fun env h => match env[i]? with
  | some (some d) => .ok d h
  | _ => .no
def eC (d : D) : EM := fun _ h => .ok d h
section
variable {X : Cx} {E : XK}
theorem ed_var (i : Nat) {x : Str} {pos : Pos} (hN : X.N[i]? = some x := by rfl) (hv : Vis X.env.scope x := by first | exact Or.inl rfl | exact Or.inr (Or.inl rfl) | exact Or.inr (Or.inr rfl)) (hd : (x == ("__debug__" : Str)) = false := by decide)
    (hcd : (x == ("__classdict__" : Str)) = false := by decide) : ED X E (.Name x pos) (eVar i) := by
  refine ⟨tVar i, pe_var hN hv hd hcd, fun env h ms σ H Q re rh p => ?_⟩
  unfold eVar at p
  split at p
  · rename_i d e
    obtain ⟨v, q1, q2⟩ := re.2 i d e
    exact ⟨v, q1, Pg.here rh p v q2⟩
  · exact p.elim
theorem evm_c {c : Cm} {d : D} {v : V} (h : ∀ K ms H, RV K ms H d v) : EvM c (tC v) (eC d) := fun env hh ms σ H Q re rh p => Pg.here rh p v (h _ _ _)
theorem ed_int {i j pos} : ED X E (.Constant (.int i) j pos) (eC (.int i)) := ⟨_, pe_int, evm_c fun _ _ _ => by rw [RV]⟩
theorem ed_bl {b j pos} : ED X E (.Constant (.bool b) j pos) (eC (.bl b)) := ⟨_, pe_bl, evm_c fun _ _ _ => by rw [RV]⟩
theorem ed_non {j pos} : ED X E (.Constant .none j pos) (eC .non) := ⟨_, pe_non, evm_c fun _ _ _ => by rw [RV]⟩
theorem ed_str {x j pos} : ED X E (.Constant (.str x) j pos) (eC (.str x)) := ⟨_, pe_str, evm_c fun _ _ _ => by rw [RV]⟩
end

/-! ### operators by values -/
def eOp (op : D → D → AH → R D) (a b : EM) : EM := fun env h => (a env h).bind fun x h1 => (b env h1).bind fun y h2 => op x y h2
def eUn (op : D → AH → R D) (a : EM) : EM := fun env h => (a env h).bind op
/-- an operator's reading, by data -/
def OpM (c : Cm) (r : R2) (op : D → D → AH → R D) : Prop := ∀ x y h ms vx vy H Q, RH c.K c.mg ms H h → RV c.K ms H x vx → RV c.K ms H y vy → Pg c ms H (PV c Q) (op x y h) → r vx vy H Q
def UnM (c : Cm) (r : V → Hp → VK → Prop) (op : D → AH → R D) : Prop := ∀ x h ms vx H Q, RH c.K c.mg ms H h → RV c.K ms H x vx → Pg c ms H (PV c Q) (op x h) → r vx H Q
section
variable {X : Cx} {E : XK} {a b : Expr} {fa fb : EM} {pos : Pos} {c : Cm} {ta tb : TE}
theorem evm_op {r : R2} {op : D → D → AH → R D} (hr : OpM c r op) (ha : EvM c ta fa) (hb : EvM c tb fb) : EvM c (tOp r ta tb) (eOp op fa fb) := fun env h ms σ H Q re rh p =>
  ha env h ms σ H _ re rh (Pg.bind (fun x h1 ms1 H1 s1 rh1 p1 vx rx => hb env h1 ms1 σ H1 _ (re.step s1) rh1 (Pg.bind (fun y h2 ms2 H2 s2 rh2 p2 vy ry => hr x y h2 ms2 vx vy H2 Q rh2 (rx.step s2) ry p2) p1)) p)
theorem evm_un {r : V → Hp → VK → Prop} {op : D → AH → R D} (hr : UnM c r op) (ha : EvM c ta fa) : EvM c (tUn r ta) (eUn op fa) := fun env h ms σ H Q re rh p =>
  ha env h ms σ H _ re rh (Pg.bind (fun x h1 ms1 H1 s1 rh1 p1 vx rx => hr x h1 ms1 vx H1 Q rh1 rx p1) p)
theorem ed_op {o : Operator} {r : R2} {op : D → D → AH → R D} (ho : OpR X (binaryOp o) r ∧ OpM (cm X E) r op) (ha : ED X E a fa) (hb : ED X E b fb) : ED X E (.BinOp a o b pos) (eOp op fa fb) := by
  obtain ⟨ta, pa, ea⟩ := ha
  obtain ⟨tb, pb, eb⟩ := hb
  exact ⟨_, pe_op ho.1 pa pb, evm_op ho.2 ea eb⟩
theorem ed_un {o : UnaryOp} {r : V → Hp → VK → Prop} {op : D → AH → R D} (ho : UnR X (unaryOp o) r ∧ UnM (cm X E) r op) (ha : ED X E a fa) : ED X E (.UnaryOp o a pos) (eUn op fa) := by
  obtain ⟨ta, pa, ea⟩ := ha
  exact ⟨_, pe_un ho.1 pa, evm_un ho.2 ea⟩
theorem ed_cmp {o : CmpOp} {r : R2} {op : D → D → AH → R D} (ho : OpR X (compareOp o) r ∧ OpM (cm X E) r op) (ha : ED X E a fa) (hb : ED X E b fb) (hm : behindInMarks o b = false) : ED X E (.Compare a [o] [b] pos) (eOp op fa fb) := by
  obtain ⟨ta, pa, ea⟩ := ha
  obtain ⟨tb, pb, eb⟩ := hb
  exact ⟨_, pe_cmpR ho.1 pa pb hm, evm_op ho.2 ea eb⟩
/-- what is True or False, as a test -/
def oB : D → AH → R Bool := fun d h => match d with
  | .bl b => .ok b h
  | _ => .no
def eB (a : EM) : TM := fun env h => (a env h).bind oB
theorem evt_test {t : TE} (ha : EvM c t fa) : EvT c (tTest t) (eB fa) := fun env h ms σ H Q re rh p =>
  ha env h ms σ H _ re rh (Pg.bind (fun x h1 ms1 H1 s1 rh1 p1 vx rx => by
    unfold oB at p1
    split at p1
    · rw [RV] at rx
      exact ⟨_, rx, Pg.here rh1 p1⟩
    · exact p1.elim) p)
theorem td_cmp {o : CmpOp} {r : R2} {op : D → D → AH → R D} (ho : OpR X (compareOp o) r ∧ OpM (cm X E) r op) (ha : ED X E a fa) (hb : ED X E b fb) (hm : behindInMarks o b = false) : TD X E (.Compare a [o] [b] pos) (eB (eOp op fa fb)) := by
  obtain ⟨ta, pa, ea⟩ := ha
  obtain ⟨tb, pb, eb⟩ := hb
  exact ⟨_, pt_cmpR ho.1 pa pb hm, evt_test (evm_op ho.2 ea eb)⟩
/-- a < b < c -/
def eChain (op op' : D → D → AH → R D) (a b d : EM) : EM := fun env h => (a env h).bind fun x h1 => (b env h1).bind fun y h2 => (op x y h2).bind fun z h3 => (oB z h3).bind fun k h4 => if k = true then (d env h4).bind fun w h5 => op' y w h5 else .ok (.bl false) h4
theorem evm_chain {d : Expr} {fd : EM} {td : TE} {r r' : R2} {op op' : D → D → AH → R D} (hr : OpM c r op) (hr' : OpM c r' op') (ha : EvM c ta fa) (hb : EvM c tb fb) (hd : EvM c td fd) : EvM c (tChain r r' ta tb td) (eChain op op' fa fb fd) := fun env h ms σ H Q re rh p =>
  ha env h ms σ H _ re rh (Pg.bind (fun x h1 ms1 H1 s1 rh1 p1 vx rx => hb env h1 ms1 σ H1 _ (re.step s1) rh1 (Pg.bind (fun y h2 ms2 H2 s2 rh2 p2 vy ry =>
    hr x y h2 ms2 vx vy H2 _ rh2 (rx.step s2) ry (Pg.bind (fun z h3 ms3 H3 s3 rh3 p3 vz rz => by
      unfold oB at p3
      split at p3
      · rename_i k
        rw [RV] at rz
        refine ⟨k, rz, ?_⟩
        rw [R.bind_ok] at p3
        cases k with
        | true =>
          rw [if_pos rfl] at p3 ⊢
          exact hd env h3 ms3 σ H3 _ (re.step (s1.trans (s2.trans s3))) rh3 (Pg.bind (fun w h5 ms5 H5 s5 rh5 p5 vw rw' => hr' y w h5 ms5 vy vw H5 Q rh5 (ry.step (s3.trans s5)) rw' p5) p3)
        | false =>
          rw [if_neg Bool.false_ne_true] at p3 ⊢
          exact Pg.here rh3 p3 _ (by rw [RV])
      · exact p3.elim) p2)) p1)) p)
end

/-! ### tests -/
def eIf {α : Type} (t : TM) (a b : Env → AH → R α) : Env → AH → R α := fun env h => (t env h).bind fun k h1 => if k = true then a env h1 else b env h1
def mAnd (t u : TM) : TM := fun env h => (t env h).bind fun k h1 => if k = true then u env h1 else .ok false h1
def mOr (t u : TM) : TM := fun env h => (t env h).bind fun k h1 => if k = true then .ok true h1 else u env h1
def mNot (t : TM) : TM := fun env h => (t env h).bind fun k h1 => .ok (!k) h1
/-- truth -/
def oTru : D → AH → R Bool := fun d h => match d with
  | .non => .ok false h
  | .bl b => .ok b h
  | .int i => .ok (i != 0) h
  | .str x => if x.length ≤ sizeLine then .ok ((x.length : Int) != 0) h else .no
  | .tup xs => .ok (!xs.isEmpty) h
  | .rol xs => .ok (!xs.isEmpty) h
  | .ref i => match h[i]? with
    | some (.lst xs) => .ok (!xs.isEmpty) h
    | some (.dic false kvs) => .ok (!kvs.isEmpty) h
    | _ => .no
def eTru (a : EM) : TM := fun env h => (a env h).bind oTru
section
variable {K : PySem.W.Frag} {mg : Str → Option Value} {ms : List Addr} {H : Hp} {h : AH}
theorem RVs.isEmpty {ds : List D} {vs : List V} (r : RVs K ms H ds vs) : vs.isEmpty = ds.isEmpty := by
  have := r.length
  cases ds <;> cases vs <;> simp_all
theorem RKs.length {κ : Type} : ∀ {ds : List (κ × D)} {vs : List (κ × V)}, RKs K ms H ds vs → vs.length = ds.length
  | [], _, h => by have e : _ = [] := h; subst e; rfl
  | (k, d) :: ds, vs, h => by
    obtain ⟨v, r, e, _, b⟩ := h
    subst e
    rw [List.length_cons, List.length_cons, RKs.length b]
theorem RKs.isEmpty {κ : Type} {ds : List (κ × D)} {vs : List (κ × V)} (r : RKs K ms H ds vs) : vs.isEmpty = ds.isEmpty := by
  have := r.length
  cases ds <;> cases vs <;> simp_all
/-- where the i-th object stands -/
theorem RH.lst (r : RH K mg ms H h) {i : Nat} {xs : List D} {a : Addr} (e : h[i]? = some (.lst xs)) (ea : ms[i]? = some a) : ∃ vs, H a = some (.lst vs) ∧ RVs K ms H xs vs := r.ok i _ a e ea
theorem RH.dic (r : RH K mg ms H h) {i : Nat} {lk : Bool} {xs : List (Key × D)} {a : Addr} (e : h[i]? = some (.dic lk xs)) (ea : ms[i]? = some a) : ∃ ws, LkD H HO.dK lk a ws ∧ RKs K ms H xs ws := r.ok i _ a e ea
theorem RH.dit (r : RH K mg ms H h) {i : Nat} {lk : Bool} {xs : List (List Key × D)} {a : Addr} (e : h[i]? = some (.dit lk xs)) (ea : ms[i]? = some a) : ∃ ws, LkD H HO.dT lk a ws ∧ RKs K ms H xs ws := r.ok i _ a e ea
theorem RH.ins (r : RH K mg ms H h) {i : Nat} {C : Str} {fs : List (Str × D)} {a : Addr} (e : h[i]? = some (.ins C fs)) (ea : ms[i]? = some a) : ∃ Ca dx ws, mg C = some (.ref Ca) ∧ H a = some (.ins Ca dx ws) ∧ RKs K ms H fs ws := r.ok i _ a e ea
theorem LkD.rd {κ : Type} {f : List (κ × V) → HO} {lk : Bool} {a : Addr} {ws : List (κ × V)} (e : LkD H f lk a ws) : Rd H a (f ws) := by
  unfold LkD at e
  split at e
  · obtain ⟨o, e⟩ := e; exact .inr ⟨o, e⟩
  · exact .inl e
end
section
variable {X : Cx} {E : XK} {a b : Expr} {fa fb : EM} {ga gb : TM} {pos : Pos} {c : Cm} {ta tb : TE} {tt tu : TT} {rest : List Expr}
theorem tru_m {x : D} {vx : V} {h : AH} {ms : List Addr} {H : Hp} {Q : Bool → Hp → Prop} (rh : RH c.K c.mg ms H h) (rx : RV c.K ms H x vx) (p : Pg c ms H (PB Q) (oTru x h)) : ∃ k, TruV c.K vx H k ∧ Q k H := by
  unfold oTru at p
  cases x with
  | non => rw [RV] at rx; subst rx; exact ⟨false, rfl, Pg.here rh p⟩
  | bl b => rw [RV] at rx; subst rx; exact ⟨b, rfl, Pg.here rh p⟩
  | int i => rw [RV] at rx; subst rx; exact ⟨_, rfl, Pg.here rh p⟩
  | str y =>
    rw [RV] at rx; subst rx
    simp only at p
    split at p
    · exact ⟨_, ⟨by assumption, rfl⟩, Pg.here rh p⟩
    · exact p.elim
  | tup xs =>
    rw [RV] at rx
    obtain ⟨a, vs, rfl, q, r⟩ := rx
    exact ⟨_, .inr (.inl ⟨vs, q, by rw [r.isEmpty]⟩), Pg.here rh p⟩
  | rol xs =>
    rw [RV] at rx
    obtain ⟨a, vs, rfl, q, r⟩ := rx
    exact ⟨_, .inl ⟨vs, q H (Stb.refl H), by rw [r.isEmpty]⟩, Pg.here rh p⟩
  | ref i =>
    rw [RV] at rx
    obtain ⟨a, rfl, ea⟩ := rx
    simp only at p
    split at p
    · rename_i xs e
      obtain ⟨vs, q, r⟩ := rh.lst e ea
      exact ⟨_, .inl ⟨vs, .of q, by rw [r.isEmpty]⟩, Pg.here rh p⟩
    · rename_i kvs e
      obtain ⟨ws, q, r⟩ := rh.dic e ea
      exact ⟨_, .inr (.inr ⟨ws, q, by rw [r.isEmpty]⟩), Pg.here rh p⟩
    · exact p.elim
theorem td_tru (ha : ED X E a fa) (he : ∀ whole, isTrue a X.env whole = (do let v ← whole; standAt a.pos; holding [v] (truthy v)) := by intro _; rfl) : TD X E a (eTru fa) := by
  obtain ⟨ta, pa, ea⟩ := ha
  refine ⟨_, pt_truth pa he, fun env h ms σ H Q re rh p => ?_⟩
  exact ea env h ms σ H _ re rh (Pg.bind (fun x h1 ms1 H1 s1 rh1 p1 vx rx => tru_m rh1 rx p1) p)
theorem evt_and (ha : EvT c tt ga) (hb : EvT c tu gb) : EvT c (tAnd tt tu) (mAnd ga gb) := fun env h ms σ H Q re rh p =>
  ha env h ms σ H _ re rh (Pg.bind (fun k h1 ms1 H1 s1 rh1 p1 => by
    cases k with
    | true => exact hb env h1 ms1 σ H1 Q (re.step s1) rh1 p1
    | false => exact Pg.here rh1 p1) p)
theorem evt_or (ha : EvT c tt ga) (hb : EvT c tu gb) : EvT c (tOr tt tu) (mOr ga gb) := fun env h ms σ H Q re rh p =>
  ha env h ms σ H _ re rh (Pg.bind (fun k h1 ms1 H1 s1 rh1 p1 => by
    cases k with
    | true => exact Pg.here rh1 p1
    | false => exact hb env h1 ms1 σ H1 Q (re.step s1) rh1 p1) p)
theorem wd_and1 (ha : TD X E a ga) : WD X E (.BoolOp .And [a] pos) ga := by
  obtain ⟨ta, pa, ea⟩ := ha
  exact ⟨_, pw_and1 pa, ea⟩
theorem wd_or1 (ha : TD X E a ga) : WD X E (.BoolOp .Or [a] pos) ga := by
  obtain ⟨ta, pa, ea⟩ := ha
  exact ⟨_, pw_or1 pa, ea⟩
theorem wd_and (ha : TD X E a ga) (hb : WD X E (.BoolOp .And (b :: rest) pos) gb) : WD X E (.BoolOp .And (a :: b :: rest) pos) (mAnd ga gb) := by
  obtain ⟨ta, pa, ea⟩ := ha
  obtain ⟨tb, pb, eb⟩ := hb
  exact ⟨_, pw_and pa pb, evt_and ea eb⟩
theorem wd_or (ha : TD X E a ga) (hb : WD X E (.BoolOp .Or (b :: rest) pos) gb) : WD X E (.BoolOp .Or (a :: b :: rest) pos) (mOr ga gb) := by
  obtain ⟨ta, pa, ea⟩ := ha
  obtain ⟨tb, pb, eb⟩ := hb
  exact ⟨_, pw_or pa pb, evt_or ea eb⟩
theorem WD.td (ha : WD X E a ga) : TD X E a ga := by
  obtain ⟨ta, pa, ea⟩ := ha
  exact ⟨_, pa.pt, ea⟩
theorem td_not (ha : TD X E a ga) : TD X E (.UnaryOp .Not a pos) (mNot ga) := by
  obtain ⟨ta, pa, ea⟩ := ha
  exact ⟨_, pt_not pa, fun env h ms σ H Q re rh p => ea env h ms σ H _ re rh (Pg.bind (k := fun k h1 => .ok (!k) h1) (fun k h1 ms1 H1 s1 rh1 p1 => Pg.here (P := PB Q) rh1 p1) p)⟩
theorem ed_if {t : Expr} (ht : TD X E t ga) (ha : ED X E a fa) (hb : ED X E b fb) : ED X E (.IfExp t a b pos) (eIf ga fa fb) := by
  obtain ⟨tt, pt, et⟩ := ht
  obtain ⟨ta, pa, ea⟩ := ha
  obtain ⟨tb, pb, eb⟩ := hb
  refine ⟨_, pe_ifExp pt pa pb, fun env h ms σ H Q re rh p => et env h ms σ H _ re rh (Pg.bind (fun k h1 ms1 H1 s1 rh1 p1 => ?_) p)⟩
  cases k with
  | true => exact ea env h1 ms1 σ H1 Q (re.step s1) rh1 p1
  | false => exact eb env h1 ms1 σ H1 Q (re.step s1) rh1 p1
end

/-! ### arguments, displays -/
def aNil : AM := fun _ h => .ok [] h
def aCons (a : EM) (r : AM) : AM := fun env h => (a env h).bind fun x h1 => (r env h1).bind fun xs h2 => .ok (x :: xs) h2
def eTup (a : AM) : EM := fun env h => (a env h).bind fun xs h1 => if xs.length ≤ sizeLine then .ok (.tup xs) h1 else .no
def eLst (a : AM) : EM := fun env h => (a env h).bind fun xs h1 => if xs.length ≤ sizeLine then .ok (.ref h1.length) (h1 ++ [.lst xs]) else .no
section
variable {X : Cx} {E : XK} {a : Expr} {es : List Expr} {fa : EM} {g : AM} {n : Nat} {pos : Pos} {c : Cm}
theorem ad_nil : AD X E 0 [] aNil := ⟨_, pa_nil, fun env h ds h' e => by cases e; rfl, fun env h ms σ H Q re rh p => Pg.here rh p [] RVs.nil⟩
theorem ad_cons (ha : ED X E a fa) (hr : AD X E n es g) (hs : starEach (a :: es) X.env = (false, eval a X.env) :: starEach es X.env := by rfl) : AD X E (n + 1) (a :: es) (aCons fa g) := by
  obtain ⟨ta, pa, ea⟩ := ha
  obtain ⟨tr, pr, lr, er⟩ := hr
  refine ⟨_, pa_cons pa pr hs, fun env h ds h' e => ?_, fun env h ms σ H Q re rh p => ?_⟩
  · unfold aCons at e
    cases q : fa env h with
    | ok x h1 =>
      rw [q, R.bind_ok] at e
      cases q2 : g env h1 with
      | ok xs h2 =>
        rw [q2, R.bind_ok] at e
        cases e
        rw [List.length_cons, lr _ _ _ _ q2]
      | no => rw [q2] at e; cases e
      | ex _ _ => rw [q2] at e; cases e
    | no => rw [q] at e; cases e
    | ex _ _ => rw [q] at e; cases e
  · exact ea env h ms σ H _ re rh (Pg.bind (fun x h1 ms1 H1 s1 rh1 p1 vx rx => er env h1 ms1 σ H1 _ (re.step s1) rh1 (Pg.bind (fun xs h2 ms2 H2 s2 rh2 p2 vs rs => Pg.here (P := PL (cm X E) Q) rh2 p2 (vx :: vs) (.cons (rx.step s2) rs)) p1)) p)
/-- a new list, told -/
theorem new_lst {ms : List Addr} {H : Hp} {h : AH} {xs : List D} {vs : List V} {Q : VK} (rh : RH c.K c.mg ms H h) (r : RVs c.K ms H xs vs) (p : Pg c ms H (PV c Q) (.ok (.ref h.length) (h ++ [.lst xs]))) : ∀ q, H q = none → Q (.ref q) (upd H q (.lst vs)) := fun q hq => by
  obtain ⟨s2, rh2⟩ := rh.push (o := .lst xs) (u := .lst vs) hq ⟨vs, upd_same, RVs.mono (Stb.new hq) _ _ r⟩
  exact p _ _ s2 rh2 (.ref q) (by rw [RV]; exact ⟨q, rfl, by rw [← rh.len]; simp⟩)
/-- a new tuple -/
theorem new_tup {ms : List Addr} {H : Hp} {h : AH} {xs : List D} {vs : List V} {Q : VK} (rh : RH c.K c.mg ms H h) (r : RVs c.K ms H xs vs) (p : Pg c ms H (PV c Q) (.ok (.tup xs) h)) : ∀ q, H q = none → Q (.ref q) (upd H q (.tup vs)) := fun q hq =>
  p _ _ (Stp.new ms hq) (rh.new hq) (.ref q) (by rw [RV]; exact ⟨q, vs, rfl, .of upd_same, RVs.step (Stp.new ms hq) r⟩)
theorem ed_tup {k : Nat} (ha : AD X E n es g) : ED X E (.Tuple es k pos) (eTup g) := by
  obtain ⟨tr, pr, lr, er⟩ := ha
  refine ⟨_, pe_tup pr, fun env h ms σ H Q re rh p => er env h ms σ H _ re rh (Pg.bind (fun xs h1 ms1 H1 s1 rh1 p1 vs rs => ?_) p)⟩
  split at p1
  · exact ⟨by rw [rs.length]; assumption, new_tup rh1 rs p1⟩
  · exact p1.elim
theorem ed_lst (ha : AD X E n es g) : ED X E (.List es pos) (eLst g) := by
  obtain ⟨tr, pr, lr, er⟩ := ha
  refine ⟨_, pe_lst pr, fun env h ms σ H Q re rh p => er env h ms σ H _ re rh (Pg.bind (fun xs h1 ms1 H1 s1 rh1 p1 vs rs => ?_) p)⟩
  split at p1
  · exact ⟨by rw [rs.length]; assumption, new_lst rh1 rs p1⟩
  · exact p1.elim
end
end PM

namespace PM
open PySem L2

/-! ### small statements -/
def sNil : SM := fun env h => .ok (.nx env) h
def thenS (t : SM) : Fl → AH → R Fl := fun fl h => match fl with
  | .nx e => t e h
  | .rt d => .ok (.rt d) h
  | .bk e => .ok (.bk e) h
  | .ct e => .ok (.ct e) h
def sSeq (s t : SM) : SM := fun env h => (s env h).bind (thenS t)
def sDrop (a : EM) : SM := fun env h => (a env h).bind fun _ h1 => .ok (.nx env) h1
def sRet (a : EM) : SM := fun env h => (a env h).bind fun d h1 => .ok (.rt d) h1
def sRetN : SM := fun _ h => .ok (.rt .non) h
def sBrk : SM := fun env h => .ok (.bk env) h
def sCnt : SM := fun env h => .ok (.ct env) h
def sNo : SM := fun _ _ => .no
abbrev GM := D → Env → AH → R Env
def gmName (i : Nat) : GM := fun d env h => .ok (env.set i (some d)) h
def gmNil : List D → Env → AH → R Env := fun ds env h => match ds with
  | [] => .ok env h
  | _ => .no
def gmCons (g : GM) (r : List D → Env → AH → R Env) : List D → Env → AH → R Env := fun ds env h => match ds with
  | d :: ds => (g d env h).bind fun e1 h1 => r ds e1 h1
  | [] => .no
def gmTup (n : Nat) (r : List D → Env → AH → R Env) : GM := fun d env h => match d with
  | .tup ds => if ds.length = n then r ds env h else .no
  | _ => .no
def sAsg (a : EM) (g : GM) : SM := fun env h => (a env h).bind fun d h1 => (g d env h1).bind fun e h2 => .ok (.nx e) h2
def sPar (i j : Nat) (a : AM) : SM := fun env h => (a env h).bind fun ds h1 => match ds with
  | [x, y] => .ok (.nx ((env.set i (some x)).set j (some y))) h1
  | _ => .no
def sAug (i : Nat) (op : D → D → AH → R D) (a : EM) : SM := fun env h => match env[i]? with
  | some (some x) => (a env h).bind fun y h1 => (op x y h1).bind fun z h2 => .ok (.nx (env.set i (some z))) h2
  | _ => .no
section
variable {X : Cx} {E : XK} {a : Expr} {fa : EM} {f g : SM} {st : Stmt} {sts : List Stmt} {pos : Pos} {c : Cm}
theorem evs_nil : EvS c tNext sNil := fun env h ms σ H Dn re rh p => Pg.here rh p σ re
theorem sds_nil : SDs X E [] sNil := ⟨_, pss_nil, evs_nil⟩
theorem evs_seq {t u : TS} (ht : EvS c t f) (hu : EvS c u g) : EvS c (tSeq t u) (sSeq f g) := fun env h ms σ H Dn re rh p =>
  ht env h ms σ H _ re rh (Pg.bind (fun fl h1 ms1 H1 s1 rh1 p1 => by
    cases fl with
    | nx e => exact fun σ' re' => hu e h1 ms1 σ' H1 Dn re' rh1 p1
    | rt d => exact fun v r => Pg.here rh1 p1 v r
    | bk e => exact fun σ' re' => Pg.here rh1 p1 σ' re'
    | ct e => exact fun σ' re' => Pg.here rh1 p1 σ' re') p)
theorem sds_cons (ht : SD X E st f) (hu : SDs X E sts g) : SDs X E (st :: sts) (sSeq f g) := by
  obtain ⟨t, pt, et⟩ := ht
  obtain ⟨u, pu, eu⟩ := hu
  exact ⟨_, pss_cons pt pu, evs_seq et eu⟩
theorem sds_one (ht : SD X E st f) : SDs X E [st] f := by
  obtain ⟨t, pt, et⟩ := ht
  exact ⟨_, pss_one pt, et⟩
theorem sd_pass : SD X E (.Pass pos) sNil := ⟨_, ps_pass, evs_nil⟩
theorem sd_break : SD X E (.Break pos) sBrk := ⟨_, ps_break, fun env h ms σ H Dn re rh p => Pg.here rh p σ re⟩
theorem sd_continue : SD X E (.Continue pos) sCnt := ⟨_, ps_continue, fun env h ms σ H Dn re rh p => Pg.here rh p σ re⟩
theorem sd_never : SD X E st sNo := ⟨_, ps_never, fun env h ms σ H Dn re rh p => p⟩
theorem sd_doc {x j pos pos'} : SD X E (.Expr (.Constant (.str x) j pos) pos') sNil := ⟨_, ps_doc, evs_nil⟩
theorem sd_expr (ha : ED X E a fa) (hs : swapsWith a none pos.line X.env = pure false := by rfl) : SD X E (.Expr a pos) (sDrop fa) := by
  obtain ⟨t, pt, et⟩ := ha
  exact ⟨_, ps_expr pt hs, fun env h ms σ H Dn re rh p => et env h ms σ H _ re rh (Pg.bind (k := fun _ h1 => R.ok (Fl.nx env) h1) (fun d h1 ms1 H1 s1 rh1 p1 v r => Pg.here (P := PF (cm X E) Dn) rh1 p1 σ (re.step s1)) p)⟩
theorem sd_ret (ha : ED X E a fa) : SD X E (.Return (some a) pos) (sRet fa) := by
  obtain ⟨t, pt, et⟩ := ha
  exact ⟨_, ps_ret pt, fun env h ms σ H Dn re rh p => et env h ms σ H _ re rh (Pg.bind (k := fun d h1 => R.ok (Fl.rt d) h1) (fun d h1 ms1 H1 s1 rh1 p1 v r => Pg.here (P := PF (cm X E) Dn) rh1 p1 v r) p)⟩
theorem sd_retN : SD X E (.Return none pos) sRetN := ⟨_, ps_retN, fun env h ms σ H Dn re rh p => Pg.here (P := PF (cm X E) Dn) rh p .non (by rw [RV])⟩
theorem sd_if {t : Expr} {tm : TM} {sa sb : List Stmt} (ht : TD X E t tm) (ha : SDs X E sa f) (hb : SDs X E sb g) : SD X E (.If t sa sb pos) (eIf tm f g) := by
  obtain ⟨tt, pt, et⟩ := ht
  obtain ⟨ta, pa, ea⟩ := ha
  obtain ⟨tb, pb, eb⟩ := hb
  refine ⟨_, ps_if pt pa pb, fun env h ms σ H Dn re rh p => et env h ms σ H _ re rh (Pg.bind (fun k h1 ms1 H1 s1 rh1 p1 => ?_) p)⟩
  cases k with
  | true => exact ea env h1 ms1 σ H1 Dn (re.step s1) rh1 p1
  | false => exact eb env h1 ms1 σ H1 Dn (re.step s1) rh1 p1
/-! targets -/
abbrev PEn (c : Cm) (Q : L2.St → Hp → Prop) : Env → List Addr → Hp → Prop := fun env' ms' H' => ∀ σ', RE c.K ms' H' env' σ' → Q σ' H'
def EvG (c : Cm) (t : TG) (g : GM) : Prop := ∀ d env h ms σ H v Q, RE c.K ms H env σ → RH c.K c.mg ms H h → RV c.K ms H d v → Pg c ms H (PEn c Q) (g d env h) → t v σ H Q
def EvGs (c : Cm) (t : TGs) (g : List D → Env → AH → R Env) : Prop := ∀ ds env h ms σ H vs Q, RE c.K ms H env σ → RH c.K c.mg ms H h → RVs c.K ms H ds vs → Pg c ms H (PEn c Q) (g ds env h) → t vs σ H Q
def GD (X : Cx) (E : XK) (e : Expr) (g : GM) : Prop := ∃ t, PG X e t ∧ EvG (cm X E) t g
def GDs (X : Cx) (E : XK) (e : List Expr) (g : List D → Env → AH → R Env) : Prop := ∃ t, PGs X e t ∧ EvGs (cm X E) t g
theorem gd_name {i : Nat} {x : Str} (hN : X.N.Nodup) (hi : X.N[i]? = some x := by rfl) (hx : Loc X.env.scope x := by first | exact .inl rfl | exact .inr rfl)
    (hf : X.fn x = true ∨ X.env.scope.names.lookup x = some .local := by first | exact .inl rfl | exact .inr rfl) : GD X E (.Name x pos) (gmName i) :=
  ⟨_, pg_name hN hi hx hf, fun d env h ms σ H v Q re rh r p => Pg.here (P := PEn (cm X E) Q) rh p _ (re.set r i)⟩
theorem gds_nil : GDs X E [] gmNil := ⟨_, pgs_nil, fun ds env h ms σ H vs Q re rh r p => by
  cases ds with
  | nil => rw [RVs] at r; exact ⟨r, Pg.here (P := PEn (cm X E) Q) rh p σ re⟩
  | cons _ _ => exact p.elim⟩
theorem gds_cons {e : Expr} {es : List Expr} {g : GM} {r : List D → Env → AH → R Env} (h1 : GD X E e g) (h2 : GDs X E es r)
    (hs : (assignEach (e :: es) X.env).map (·.2) = assign e X.env :: (assignEach es X.env).map (·.2) := by rfl) : GDs X E (e :: es) (gmCons g r) := by
  obtain ⟨t, pt, et⟩ := h1
  obtain ⟨u, pu, eu⟩ := h2
  refine ⟨_, pgs_cons pt pu hs, fun ds env h ms σ H vs Q re rh rs p => ?_⟩
  cases ds with
  | nil => exact p.elim
  | cons d ds =>
    rw [RVs] at rs
    obtain ⟨v, vr, rfl, rv, rr⟩ := rs
    exact ⟨v, vr, rfl, et d env h ms σ H v _ re rh rv (Pg.bind (fun e1 h1 ms1 H1 s1 rh1 p1 σ' re' => eu ds e1 h1 ms1 σ' H1 vr Q re' rh1 (rr.step s1) p1) p)⟩
theorem gd_tup {es : List Expr} {k n : Nat} {r : List D → Env → AH → R Env} (hc : X.calm = true) (h : GDs X E es r)
    (hn : (assignEach es X.env).length = n := by rfl) (hst : (assignEach es X.env).findIdx? (·.1) = none := by rfl) : GD X E (.Tuple es k pos) (gmTup n r) := by
  obtain ⟨t, pt, et⟩ := h
  refine ⟨_, pg_tup hc pt hn hst, fun d env h ms σ H v Q re rh rv p => ?_⟩
  unfold gmTup at p
  split at p
  · split at p
    · rw [RV] at rv
      obtain ⟨a, vs, rfl, q, rs⟩ := rv
      exact ⟨a, vs, rfl, q, by rw [rs.length]; assumption, et _ env h ms σ H vs Q re rh rs p⟩
    · exact p.elim
  · exact p.elim
theorem sd_asg {tg : Expr} {g : GM} (ha : ED X E a fa) (hg : GD X E tg g) (hs : swapsWithSole [tg] a pos.line X.env = pure false := by rfl) (hw : swappedStores [tg] a X.env = pure none := by rfl)
    (h1 : (assignEach [tg] X.env).map (·.2) = [assign tg X.env] := by rfl) : SD X E (.Assign [tg] a pos) (sAsg fa g) := by
  obtain ⟨t, pt, et⟩ := ha
  obtain ⟨u, pu, eu⟩ := hg
  exact ⟨_, ps_asg pt pu hs hw h1, fun env h ms σ H Dn re rh p => et env h ms σ H _ re rh (Pg.bind (fun d h1 ms1 H1 s1 rh1 p1 v r => eu d env h1 ms1 σ H1 v Dn.nx (re.step s1) rh1 r (Pg.bind (k := fun e h2 => R.ok (Fl.nx e) h2) (fun e h2 ms2 H2 s2 rh2 p2 σ' re' => Pg.here (P := PF (cm X E) Dn) rh2 p2 σ' re') p1)) p)⟩
theorem sd_set (i : Nat) {x : Str} {pos' : Pos} (hN : X.N.Nodup) (ha : ED X E a fa) (hi : X.N[i]? = some x := by rfl) (hx : Loc X.env.scope x := by first | exact .inl rfl | exact .inr rfl) (hs : swapsWith a (some (.Name x pos')) pos.line X.env = pure false := by rfl)
    (hf : X.fn x = true ∨ X.env.scope.names.lookup x = some .local := by first | exact .inl rfl | exact .inr rfl) : SD X E (.Assign [.Name x pos'] a pos) (sAsg fa (gmName i)) := by
  obtain ⟨t, pt, et⟩ := ha
  exact ⟨_, ps_set hN hi hx pt hs hf, fun env h ms σ H Dn re rh p => et env h ms σ H _ re rh (Pg.bind (k := fun d h1 => R.ok (Fl.nx (env.set i (some d))) h1) (fun d h1 ms1 H1 s1 rh1 p1 v r => Pg.here (P := PF (cm X E) Dn) rh1 p1 _ ((re.step s1).set r i)) p)⟩
theorem sd_par (i j : Nat) {x y : Str} {a b : Expr} {g : AM} {n : Nat} {px py pt : Pos} {kt k2 pt2} (hc : X.calm = true) (hN : X.N.Nodup) (hab : AD X E n [a, b] g) (hi : X.N[i]? = some x := by rfl) (hj : X.N[j]? = some y := by rfl) (hij : i ≠ j := by decide)
    (hx : X.env.scope.names.lookup x = some .local := by rfl) (hy : X.env.scope.names.lookup y = some .local := by rfl)
    (hw : swappedStores [.Tuple [.Name x px, .Name y py] kt pt] (.Tuple [a, b] k2 pt2) X.env = pure (some [x, y]) := by rfl)
    (hs : swapsWithSole [.Tuple [.Name x px, .Name y py] kt pt] (.Tuple [a, b] k2 pt2) pos.line X.env = pure false := by rfl) :
    SD X E (.Assign [.Tuple [.Name x px, .Name y py] kt pt] (.Tuple [a, b] k2 pt2) pos) (sPar i j g) := by
  obtain ⟨t, pt, _, et⟩ := hab
  refine ⟨_, ps_par hc hN hi hj hij hx hy pt hw hs, fun env h ms σ H Dn re rh p => et env h ms σ H _ re rh (Pg.bind (fun ds h1 ms1 H1 s1 rh1 p1 vs rs => ?_) p)⟩
  split at p1
  · rw [RVs] at rs
    obtain ⟨v, r, rfl, rv, rs⟩ := rs
    rw [RVs] at rs
    obtain ⟨w, r2, rfl, rw', rs⟩ := rs
    rw [RVs] at rs
    subst rs
    exact ⟨v, w, rfl, Pg.here (P := PF (cm X E) Dn) rh1 p1 _ (((re.step s1).set rv i).set rw' j)⟩
  · exact p1.elim
theorem sd_aug (i : Nat) {x : Str} {op : Operator} {ti : TIp} {o : D → D → AH → R D} {pos' : Pos} (hN : X.N.Nodup) (ho : PIp X op ti ∧ OpM (cm X E) ti o) (ha : ED X E a fa) (hi : X.N[i]? = some x := by rfl) (hx : Loc X.env.scope x := by first | exact .inl rfl | exact .inr rfl)
    (hf : X.fn x = true ∨ X.env.scope.names.lookup x = some .local := by first | exact .inl rfl | exact .inr rfl) : SD X E (.AugAssign (.Name x pos') op a pos) (sAug i o fa) := by
  obtain ⟨t, pt, et⟩ := ha
  refine ⟨_, ps_aug hN hi hx pt ho.1 hf, fun env h ms σ H Dn re rh p => ?_⟩
  unfold sAug at p
  split at p
  · rename_i d e
    obtain ⟨v, q1, q2⟩ := re.2 i d e
    exact ⟨v, q1, et env h ms σ H _ re rh (Pg.bind (fun y h1 ms1 H1 s1 rh1 p1 w rw' => ho.2 d y h1 ms1 v w H1 _ rh1 (q2.step s1) rw' (Pg.bind (k := fun z h2 => R.ok (Fl.nx (env.set i (some z))) h2) (fun z h2 ms2 H2 s2 rh2 p2 u ru => Pg.here (P := PF (cm X E) Dn) rh2 p2 _ ((re.step (s1.trans s2)).set ru i)) p1)) p)⟩
  · exact p.elim
end

/-! ### loops -/
def loopS (next : SM) : Fl → AH → R Fl := fun fl h => match fl with
  | .nx e => next e h
  | .ct e => next e h
  | .bk e => .ok (.nx e) h
  | .rt d => .ok (.rt d) h
def whileM (t : TM) (b : SM) : Nat → SM
  | 0 => fun _ _ => .no
  | n + 1 => fun env h => (t env h).bind fun k h1 => if k = true then (b env h1).bind (loopS (whileM t b n)) else .ok (.nx env) h1
/-- what a loop walks: its items, and what must stand so through the loop -/
structure Its where
  xs : List D
  chk : AH → Bool
abbrev IM := Env → AH → R Its
def forM (g : GM) (b : SM) (chk : AH → Bool) : List D → SM
  | [] => fun env h => if chk h = true then .ok (.nx env) h else .no
  | x :: xs => fun env h => if chk h = true then (g x env h).bind fun e1 h1 => (b e1 h1).bind (loopS (forM g b chk xs)) else .no
def sFor (it : IM) (g : GM) (b : SM) : SM := fun env h => (it env h).bind fun i h1 => forM g b i.chk i.xs env h1
def ItOk (c : Cm) (J : It) (i : Its) (ms0 : List Addr) (H0 : Hp) : Prop := ∃ G Y, Walk J i.xs.length G Y ∧ (∀ ms h H, Stp ms0 H0 ms H → RH c.K c.mg ms H h → i.chk h = true → G H) ∧
  ∀ j ms h H x H', j < i.xs.length → Stp ms0 H0 ms H → RH c.K c.mg ms H h → i.chk h = true → Y j H x H' → Stp ms H ms H' ∧ RH c.K c.mg ms H' h ∧ ∃ d, i.xs[j]? = some d ∧ RV c.K ms H' d x
def EvI (c : Cm) (wi : TI) (f : IM) : Prop := ∀ env h ms σ H Rr, RE c.K ms H env σ → RH c.K c.mg ms H h → Pg c ms H (fun i ms' H' => ∀ J, ItOk c J i ms' H' → Rr J H') (f env h) → wi σ H Rr
def ID (X : Cx) (E : XK) (tg e : Expr) (f : IM) : Prop := ∃ t, PI X tg e t ∧ EvI (cm X E) t f
section
variable {X : Cx} {E : XK} {a : Expr} {fa : EM} {f : SM} {st : Stmt} {sts : List Stmt} {pos : Pos} {c : Cm}
theorem evs_while {tc : TT} {tb : TS} {t : TM} (n : Nat) (ht : EvT c tc t) (hb : EvS c tb f) : EvS c (tWhile tc tb) (whileM t f n) := fun env h ms σ H Dn re rh p => by
  refine ⟨fun m σ1 H1 => ∃ env1 h1 ms1, RE c.K ms1 H1 env1 σ1 ∧ RH c.K c.mg ms1 H1 h1 ∧ Pg c ms1 H1 (PF c Dn) (whileM t f m env1 h1), ⟨n, env, h, ms, re, rh, p⟩, ?_⟩
  rintro m σ1 H1 ⟨env1, h1, ms1, re1, rh1, p1⟩
  cases m with
  | zero => exact p1.elim
  | succ m =>
    refine ht env1 h1 ms1 σ1 H1 _ re1 rh1 (Pg.bind (fun k h2 ms2 H2 s2 rh2 p2 => ?_) p1)
    cases k with
    | false => exact Pg.here rh2 p2 σ1 (re1.step s2)
    | true =>
      refine ⟨fun σ3 H3 => ∃ env3 h3 ms3, RE c.K ms3 H3 env3 σ3 ∧ RH c.K c.mg ms3 H3 h3 ∧ Pg c ms3 H3 (PF c Dn) (whileM t f m env3 h3), fun σ' H' q => ⟨m, Nat.lt_succ_self m, q⟩, ?_⟩
      refine hb env1 h2 ms2 σ1 H2 _ (re1.step s2) rh2 (Pg.bind (fun fl h3 ms3 H3 s3 rh3 p3 => ?_) p2)
      cases fl with
      | nx e => exact fun σ' re' => ⟨e, h3, ms3, re', rh3, p3⟩
      | ct e => exact fun σ' re' => ⟨e, h3, ms3, re', rh3, p3⟩
      | bk e => exact fun σ' re' => Pg.here rh3 p3 σ' re'
      | rt d => exact fun v r => Pg.here rh3 p3 v r
theorem sd_while {t : Expr} {tm : TM} {body : List Stmt} (n : Nat) (hp : PassesOwn (model X.prog X.w) X.A X.env X.xe) (ht : TD X E t tm) (hb : SDs X E body f) : SD X E (.While t body [] pos) (whileM tm f n) := by
  obtain ⟨tt, pt, et⟩ := ht
  obtain ⟨tb, pb, eb⟩ := hb
  exact ⟨_, ps_while hp pt pb, evs_while n et eb⟩
theorem evs_for {wi : TI} {tg : TG} {tb : TS} {it : IM} {g : GM} (hi : EvI c wi it) (hg : EvG c tg g) (hb : EvS c tb f) : EvS c (tFor wi tg tb) (sFor it g f) := fun env h ms σ H Dn re rh p => by
  refine hi env h ms σ H _ re rh (Pg.bind (fun i h1 ms1 H1 s1 rh1 p1 J ok => ?_) p)
  obtain ⟨G, Y, w, hG, hY⟩ := ok
  have re1 := re.step s1
  have chkOf : ∀ {xs : List D} {env' : Env} {h' : AH} {ms' : List Addr} {H' : Hp}, Pg c ms' H' (PF c Dn) (forM g f i.chk xs env' h') → i.chk h' = true := fun {xs env' h' ms' H'} q => by
    cases e : i.chk h' with
    | true => rfl
    | false => cases xs <;> (unfold forM at q; rw [if_neg (by rw [e]; exact Bool.false_ne_true)] at q; exact q.elim)
  refine for_it w (fun j σ2 H2 => ∃ env2 h2 ms2, RE c.K ms2 H2 env2 σ2 ∧ RH c.K c.mg ms2 H2 h2 ∧ Stp ms1 H1 ms2 H2 ∧ Pg c ms2 H2 (PF c Dn) (forM g f i.chk (i.xs.drop j) env2 h2)) ⟨env, h1, ms1, re1, rh1, Stp.refl _ _, p1⟩ ?_ ?_ ?_
  · rintro j σ2 H2 hj ⟨env2, h2, ms2, re2, rh2, s2, p2⟩
    exact hG ms2 h2 H2 s2 rh2 (chkOf p2)
  · rintro j x σ2 H2 H3 hj ⟨env2, h2, ms2, re2, rh2, s2, p2⟩ y
    obtain ⟨s3, rh3, d, hd, rd⟩ := hY j ms2 h2 H2 x H3 hj s2 rh2 (chkOf p2) y
    have e : i.xs.drop j = d :: i.xs.drop (j + 1) := by
      rw [List.drop_eq_getElem_cons hj]
      congr 1
      rw [List.getElem?_eq_getElem hj] at hd
      exact Option.some.inj hd
    have hk := chkOf p2
    rw [e] at p2
    unfold forM at p2
    rw [if_pos hk] at p2
    refine hg d env2 h2 ms2 σ2 H3 x _ (re2.step s3) rh3 rd (Pg.bind (fun e1 h4 ms4 H4 s4 rh4 p4 σ4 re4 => ?_) (p2.step s3))
    refine hb e1 h4 ms4 σ4 H4 _ re4 rh4 (Pg.bind (fun fl h5 ms5 H5 s5 rh5 p5 => ?_) p4)
    have s15 : Stp ms1 H1 ms5 H5 := s2.trans (s3.trans (s4.trans s5))
    cases fl with
    | nx e => exact fun σ' re' => ⟨e, h5, ms5, re', rh5, s15, p5⟩
    | ct e => exact fun σ' re' => ⟨e, h5, ms5, re', rh5, s15, p5⟩
    | bk e => exact fun σ' re' => Pg.here rh5 p5 σ' re'
    | rt d => exact fun v r => Pg.here rh5 p5 v r
  · rintro σ2 H2 ⟨env2, h2, ms2, re2, rh2, s2, p2⟩
    have hk := chkOf p2
    rw [List.drop_length] at p2
    unfold forM at p2
    rw [if_pos hk] at p2
    exact Pg.here rh2 p2 σ2 re2
theorem sd_for {tg iter : Expr} {body : List Stmt} {it : IM} {g : GM} (hp : PassesOwn (model X.prog X.w) X.A X.env X.xe) (hc : X.calm = true) (hi : ID X E tg iter it) (hg : GD X E tg g) (hb : SDs X E body f)
    (hs : ∀ x, foldedSetIterable iter X.env x = pure x := by intro _; rfl) : SD X E (.For tg iter body [] pos) (sFor it g f) := by
  obtain ⟨ti, pi, ei⟩ := hi
  obtain ⟨tt, pt, et⟩ := hg
  obtain ⟨tb, pb, eb⟩ := hb
  exact ⟨_, ps_for hp hc pi pt pb hs, evs_for ei et eb⟩
end
end PM

namespace PM
open PySem L2

/-! ### values without objects -/
mutual
def D.pure : D → Bool
  | .tup xs => D.pures xs
  | .rol xs => D.pures xs
  | .ref _ => false
  | _ => true
def D.pures : List D → Bool
  | [] => true
  | x :: xs => D.pure x && D.pures xs
end
section
variable {K : PySem.W.Frag} {mg : Str → Option Value} {ms ms' : List Addr} {H H' : Hp} {h : AH}
mutual
theorem RV.pure (s : Stb H H') : ∀ (d : D) (v : V), d.pure = true → RV K ms H d v → RV K ms' H' d v
  | .non, _, _, h => by rw [RV] at h ⊢; exact h
  | .bl _, _, _, h => by rw [RV] at h ⊢; exact h
  | .int _, _, _, h => by rw [RV] at h ⊢; exact h
  | .str _, _, _, h => by rw [RV] at h ⊢; exact h
  | .tup ds, v, p, h => by
    rw [RV] at h ⊢
    obtain ⟨a, vs, e, q, r⟩ := h
    exact ⟨a, vs, e, s.tup q, RVs.pure s ds vs (by rw [D.pure] at p; exact p) r⟩
  | .rol ds, v, p, h => by
    rw [RV] at h ⊢
    obtain ⟨a, vs, e, q, r⟩ := h
    exact ⟨a, vs, e, fun H2 s2 => q H2 (s.trans s2), RVs.pure s ds vs (by rw [D.pure] at p; exact p) r⟩
  | .ref i, v, p, h => by rw [D.pure] at p; cases p
theorem RVs.pure (s : Stb H H') : ∀ (ds : List D) (vs : List V), D.pures ds = true → RVs K ms H ds vs → RVs K ms' H' ds vs
  | [], _, _, h => by rw [RVs] at h ⊢; exact h
  | d :: ds, vs, p, h => by
    rw [D.pures, Bool.and_eq_true] at p
    rw [RVs] at h ⊢
    obtain ⟨v, r, e, a, b⟩ := h
    exact ⟨v, r, e, RV.pure s d v p.1 a, RVs.pure s ds r p.2 b⟩
end
/-- a heap without one place -/
def del (H : Hp) (p : Addr) : Hp := fun b => if b = p then none else H b
theorem del_same {p : Addr} : del H p p = none := by unfold del; rw [if_pos rfl]
theorem del_ne {p b : Addr} (e : b ≠ p) : del H p b = H b := by unfold del; rw [if_neg e]
theorem upd_del {p : Addr} {o : HO} (e : H p = some o) : upd (del H p) p o = H := by
  funext b
  by_cases q : b = p
  · rw [q, upd_same, e]
  · rw [upd_ne q, del_ne q]
theorem del_upd {p : Addr} {o : HO} : del (upd H p o) p = del H p := by
  funext b
  by_cases q : b = p
  · rw [q, del_same, del_same]
  · rw [del_ne q, del_ne q, upd_ne q]
theorem del_of {p : Addr} (e : H p = none) : del H p = H := by
  funext b
  by_cases q : b = p
  · rw [q, del_same, e]
  · rw [del_ne q]
theorem Stb.del {p : Addr} (m : Mut (H p)) : Stb H (del H p) := fun a o e n => by
  by_cases q : a = p
  · subst q; rw [e] at m; exact absurd m n
  · rw [del_ne q]; exact e
theorem RVs.stb (s : Stb H H') {ds : List D} {vs : List V} (r : RVs K ms H ds vs) : RVs K ms H' ds vs := by
  have := RVs.mono (t := []) s ds vs r
  rwa [List.append_nil] at this
theorem RV.stb (s : Stb H H') {d : D} {v : V} (r : RV K ms H d v) : RV K ms H' d v := by
  have := RV.mono (t := []) s d v r
  rwa [List.append_nil] at this
theorem RKs.stb {κ : Type} (s : Stb H H') {ds : List (κ × D)} {vs : List (κ × V)} (r : RKs K ms H ds vs) : RKs K ms H' ds vs := by
  have := RKs.mono (t := []) s ds vs r
  rwa [List.append_nil] at this
theorem RO.stb (s : Stb H H') {a : Addr} {o : Ob} (he : ∀ u, H a = Option.some u → H' a = Option.some u) (r : RO K mg ms H a o) : RO K mg ms H' a o := by
  cases o with
  | lst xs => obtain ⟨vs, e, q⟩ := r; exact ⟨vs, he _ e, q.stb s⟩
  | dic lk kvs =>
    obtain ⟨ws, e, q⟩ := r
    refine ⟨ws, ?_, q.stb s⟩
    unfold LkD at e ⊢
    split at e
    · obtain ⟨o, e⟩ := e; rw [if_pos ‹_›]; exact ⟨o, he _ e⟩
    · rw [if_neg ‹_›]; exact he _ e
  | dit lk kvs =>
    obtain ⟨ws, e, q⟩ := r
    refine ⟨ws, ?_, q.stb s⟩
    unfold LkD at e ⊢
    split at e
    · obtain ⟨o, e⟩ := e; rw [if_pos ‹_›]; exact ⟨o, he _ e⟩
    · rw [if_neg ‹_›]; exact he _ e
  | ins C fs => obtain ⟨Ca, dx, ws, g, e, q⟩ := r; exact ⟨Ca, dx, ws, g, he _ e, q.stb s⟩
theorem RH.del (r : RH K mg ms H h) {p : Addr} (m : Mut (H p)) (hp : p ∉ ms) : RH K mg ms (del H p) h :=
  ⟨r.len, r.nd, fun i o a e1 e2 => (r.ok i o a e1 e2).stb (Stb.del m) fun u e => by
    rw [del_ne (fun z => hp (by rw [← z]; exact List.mem_of_getElem? e2))]; exact e⟩
/-- a place of ours beside what is told: from a step with it to a step without it -/
theorem Stp.del {p : Addr} {o : HO} (s : Stp ms (upd H p o) ms' H') (hp : H p = none) (hn : p ∉ ms) (m : Mut (some o)) : p ∉ ms' ∧ H' p = some o ∧ Stp ms H ms' (PM.del H' p) := by
  obtain ⟨t, rfl, ht⟩ := s.ext
  have hp' : p ∉ ms ++ t := fun z => by
    rcases List.mem_append.mp z with z | z
    · exact hn z
    · have := (ht p z).1; rw [upd_same] at this; cases this
  refine ⟨hp', s.frm p o upd_same hn, ⟨t, rfl, fun b hb => ⟨?_, (ht b hb).2⟩⟩, fun b u e hb => ?_, fun b u e hm => ?_⟩
  · have q : b ≠ p := fun z => hp' (List.mem_append_right _ (by rw [← z]; exact hb))
    have := (ht b hb).1
    rwa [upd_ne q] at this
  · have q : b ≠ p := ne_of_none e hp
    rw [del_ne q]
    exact s.frm b u (by rw [upd_ne q]; exact e) hb
  · have q : b ≠ p := ne_of_none e hp
    rw [del_ne q]
    exact s.stb b u (by rw [upd_ne q]; exact e) hm
end

/-! ### new lists that nobody holds yet -/
abbrev LM := Env → AH → R (List D)
abbrev PN (c : Cm) (Q : VK) : List D → List Addr → Hp → Prop := fun xs ms' H' => ∀ p vs, H' p = none → RVs c.K ms' H' xs vs → Q (.ref p) (upd H' p (.lst vs))
def EvL (c : Cm) (t : TE) (f : LM) : Prop := ∀ env h ms σ H Q, RE c.K ms H env σ → RH c.K c.mg ms H h → Pg c ms H (PN c Q) (f env h) → t σ H Q
def LD (X : Cx) (E : XK) (e : Expr) (f : LM) : Prop := ∃ t, PE X e t ∧ EvL (cm X E) t f
def eL (l : LM) : EM := fun env h => (l env h).bind fun xs h1 => .ok (.ref h1.length) (h1 ++ [.lst xs])
def lLst (a : AM) : LM := fun env h => (a env h).bind fun xs h1 => if xs.length ≤ sizeLine then .ok xs h1 else .no
section
variable {X : Cx} {E : XK} {a : Expr} {es : List Expr} {fa : EM} {l : LM} {g : AM} {n : Nat} {pos : Pos} {c : Cm}
theorem LD.ed (ha : LD X E a l) : ED X E a (eL l) := by
  obtain ⟨t, pt, et⟩ := ha
  refine ⟨t, pt, fun env h ms σ H Q re rh p => et env h ms σ H Q re rh (Pg.bind (fun xs h1 ms1 H1 s1 rh1 p1 q vs hq r => new_lst rh1 r p1 q hq) p)⟩
theorem ld_lst (ha : AD X E n es g) : LD X E (.List es pos) (lLst g) := by
  obtain ⟨tr, pr, lr, er⟩ := ha
  refine ⟨_, pe_lst pr, fun env h ms σ H Q re rh p => er env h ms σ H _ re rh (Pg.bind (fun xs h1 ms1 H1 s1 rh1 p1 vs rs => ?_) p)⟩
  split at p1
  · exact ⟨by rw [rs.length]; assumption, fun q hq => Pg.here (P := PN (cm X E) Q) rh1 p1 q vs hq rs⟩
  · exact p1.elim
end

/-! ### no exception leaves -/
def noX {α : Type} (r : R α) : R α := match r with
  | .ex _ _ => .no
  | r => r
@[simp] theorem noX_ok {α : Type} (a : α) (h : AH) : noX (.ok a h) = .ok a h := rfl
@[simp] theorem noX_no {α : Type} : noX (.no : R α) = .no := rfl
theorem Pg.nox {α : Type} {c : Cm} {E : XK} {ms : List Addr} {H : Hp} {P : α → List Addr → Hp → Prop} : ∀ {r : R α}, Pg c ms H P (noX r) → Pg ⟨c.K, c.mg, E⟩ ms H P r
  | .no, p => p
  | .ok _ _, p => p
  | .ex _ _, p => p.elim

/-! ### list comprehensions -/
def wipeE (env : Env) : List Nat → Env
  | [] => env
  | v :: vs => (wipeE env vs).set v none
def lcM (env0 : Env) (g : GM) (t : TM) (e : EM) (chk : AH → Bool) : List D → List D → AH → R (List D)
  | [], acc, h => if chk h = true then .ok acc h else .no
  | x :: xs, acc, h => if chk h = true then (noX (g x env0 h)).bind fun env2 h1 => (noX (t env2 h1)).bind fun k h2 =>
      if k = true then (noX (e env2 h2)).bind fun y h3 => if acc.length < sizeLine then lcM env0 g t e chk xs (acc ++ [y]) h3 else .no
      else lcM env0 g t e chk xs acc h2 else .no
def lComp (it : IM) (vs : List Nat) (g : GM) (t : TM) (e : EM) : LM := fun env h => (it env h).bind fun i h1 => lcM (wipeE env vs) g t e i.chk i.xs [] h1
/-- a target stores names of the comprehension alone -/
def GOwn (vs : List Nat) (t : TG) : Prop := ∀ v σ H Q Q', (∀ σ' H', wipe σ' vs = wipe σ vs → Q σ' H' → Q' σ' H') → t v σ H Q → t v σ H Q'
def GsOwn (vs : List Nat) (t : TGs) : Prop := ∀ v σ H Q Q', (∀ σ' H', wipe σ' vs = wipe σ vs → Q σ' H' → Q' σ' H') → t v σ H Q → t v σ H Q'
section
theorem wipe_get (σ : L2.St) (j : Nat) : ∀ vs : List Nat, (wipe σ vs)[j]? = if j ∈ vs then (σ[j]?.map fun _ => none) else σ[j]?
  | [] => by rw [wipe, if_neg (by simp)]
  | v :: vs => by
    rw [wipe]
    by_cases e : v = j
    · subst e
      rw [if_pos List.mem_cons_self]
      by_cases hl : v < (wipe σ vs).length
      · rw [List.getElem?_set_self hl]
        rw [wipe_length] at hl
        rw [List.getElem?_eq_getElem hl]; rfl
      · rw [List.getElem?_eq_none (by rw [List.length_set]; omega)]
        rw [wipe_length] at hl
        rw [List.getElem?_eq_none (by omega)]; rfl
    · rw [List.getElem?_set_ne e, wipe_get σ j vs]
      by_cases q : j ∈ vs
      · rw [if_pos q, if_pos (List.mem_cons_of_mem _ q)]
      · rw [if_neg q, if_neg (fun z => by rcases List.mem_cons.mp z with z | z; exact e z.symm; exact q z)]
theorem wipe_set {σ : L2.St} {vs : List Nat} {i : Nat} (hi : i ∈ vs) (v : Option V) : wipe (σ.set i v) vs = wipe σ vs := by
  apply List.ext_getElem?
  intro j
  rw [wipe_get, wipe_get]
  by_cases q : j ∈ vs
  · rw [if_pos q, if_pos q]
    by_cases e : i = j
    · subst e
      by_cases hl : i < σ.length
      · rw [List.getElem?_set_self hl, List.getElem?_eq_getElem hl]; rfl
      · rw [List.getElem?_eq_none (by rw [List.length_set]; omega), List.getElem?_eq_none (by omega)]
    · rw [List.getElem?_set_ne e]
  · rw [if_neg q, if_neg q, List.getElem?_set_ne (fun e => q (by rw [← e]; exact hi))]
theorem wipe_wipe (σ : L2.St) (vs : List Nat) : wipe (wipe σ vs) vs = wipe σ vs := by
  apply List.ext_getElem?
  intro j
  rw [wipe_get, wipe_get]
  by_cases q : j ∈ vs
  · rw [if_pos q, if_pos q]
    cases σ[j]? <;> rfl
  · rw [if_neg q, if_neg q]
theorem gown_name {vs : List Nat} {i : Nat} (hi : i ∈ vs) : GOwn vs (gName i) := fun v σ H Q Q' f h => f _ _ (wipe_set hi _) h
theorem gsown_nil {vs : List Nat} : GsOwn vs gNil := fun v σ H Q Q' f h => ⟨h.1, f _ _ rfl h.2⟩
theorem gsown_cons {vs : List Nat} {t : TG} {u : TGs} (h1 : GOwn vs t) (h2 : GsOwn vs u) : GsOwn vs (gCons t u) := fun w σ H Q Q' f h => by
  obtain ⟨v, r, e, h⟩ := h
  exact ⟨v, r, e, h1 v σ H _ _ (fun σ1 H1 e1 q => h2 r σ1 H1 Q Q' (fun σ2 H2 e2 q2 => f σ2 H2 (e2.trans e1) q2) q) h⟩
theorem gown_tup {vs : List Nat} {K : PySem.W.Frag} {n : Nat} {u : TGs} (h2 : GsOwn vs u) : GOwn vs (gTup K n u) := fun w σ H Q Q' f h => by
  obtain ⟨a, xs, e, q, l, h⟩ := h
  exact ⟨a, xs, e, q, l, h2 xs σ H Q Q' f h⟩
theorem wipeE_length (env : Env) : ∀ vs : List Nat, (wipeE env vs).length = env.length
  | [] => rfl
  | v :: vs => by rw [wipeE, List.length_set, wipeE_length env vs]
theorem RE.wipe {K : PySem.W.Frag} {ms : List Addr} {H : Hp} {env : Env} {σ : L2.St} (r : RE K ms H env σ) : ∀ vs : List Nat, RE K ms H (wipeE env vs) (L2.wipe σ vs)
  | [] => r
  | v :: vs => by
    have ih := RE.wipe r vs
    refine ⟨by rw [wipeE, L2.wipe, List.length_set, List.length_set]; exact ih.1, fun i d e => ?_⟩
    rw [wipeE] at e
    by_cases q : v = i
    · subst q
      have hl := (List.getElem?_eq_some_iff.mp e).1
      rw [List.length_set] at hl
      rw [List.getElem?_set_self hl] at e
      cases e
    · rw [List.getElem?_set_ne q] at e
      obtain ⟨w, e1, e2⟩ := ih.2 i d e
      exact ⟨w, by rw [L2.wipe, List.getElem?_set_ne q]; exact e1, e2⟩
end
/-- .. what follows kept as of an earlier place -/
theorem Pg.bindAt {α β : Type} {c : Cm} {msA ms : List Addr} {HA H : Hp} {P : α → List Addr → Hp → Prop} {P2 : β → List Addr → Hp → Prop} {k : α → AH → R β} (s0 : Stp msA HA ms H) : ∀ {r : R α},
    (∀ a h1 ms1 H1, Stp ms H ms1 H1 → RH c.K c.mg ms1 H1 h1 → Pg c msA HA P2 (k a h1) → P a ms1 H1) → Pg c msA HA P2 (r.bind k) → Pg c ms H P r
  | .no, _, p => p
  | .ok a h1, f, p => fun ms1 H1 s r => f a h1 ms1 H1 s r p
  | .ex _ _, _, p => fun ms1 H1 C d fs s => p ms1 H1 C d fs (s0.trans s)
section
variable {c : Cm} {wi : TI} {tg : TG} {tt : TT} {te : TE} {it : IM} {g : GM} {t : TM} {e : EM} {vs : List Nat}
theorem evl_lc (hi : EvI c wi it) (hg : EvG ⟨c.K, c.mg, E0⟩ tg g) (ho : GOwn vs tg) (ht : EvT ⟨c.K, c.mg, E0⟩ tt t) (he : EvM ⟨c.K, c.mg, E0⟩ te e) : EvL c (tLc wi tg tt te vs) (lComp it vs g t e) := fun env h ms σ H Q re rh p => by
  refine hi env h ms σ H _ re rh (Pg.bind (fun i h1 ms1 H1 s1 rh1 p1 J ok Dl hD => ?_) p)
  obtain ⟨G, Y, w, hG, hY⟩ := ok
  have re1 := (re.step s1).wipe vs
  have chkOf : ∀ {xs acc : List D} {env' : Env} {h' : AH} {ms' : List Addr} {H' : Hp}, Pg c ms' H' (PN c Q) (lcM env' g t e i.chk xs acc h') → i.chk h' = true := fun {xs acc env' h' ms' H'} q => by
    cases z : i.chk h' with
    | true => rfl
    | false => cases xs <;> (unfold lcM at q; rw [if_neg (by rw [z]; exact Bool.false_ne_true)] at q; exact q.elim)
  refine lc_it w (fun j H2 => ∃ h2 ms2 acc vacc, H2 Dl = some (.lst vacc) ∧ Dl ∉ ms2 ∧ Stp ms1 H1 ms2 (del H2 Dl) ∧ RH c.K c.mg ms2 (del H2 Dl) h2 ∧ RVs c.K ms2 (del H2 Dl) acc vacc ∧ Pg c ms2 (del H2 Dl) (PN c Q) (lcM (wipeE env vs) g t e i.chk (i.xs.drop j) acc h2)) ?_ ?_ ?_ ?_
  · refine ⟨h1, ms1, [], [], upd_same, rh1.notin hD, ?_⟩
    rw [del_upd, del_of hD]
    exact ⟨Stp.refl _ _, rh1, RVs.nil, p1⟩
  · rintro j H2 hj ⟨h2, ms2, acc, vacc, e2, n2, s2, rh2, r2, p2⟩
    have rh2' : RH c.K c.mg ms2 H2 h2 := by rw [← upd_del e2]; exact rh2.new del_same
    have s2' : Stp ms1 H1 ms2 H2 := by
      refine s2.trans ?_
      have := Stp.new ms2 (o := .lst vacc) (del_same (H := H2) (p := Dl))
      rwa [upd_del e2] at this
    exact hG ms2 h2 H2 s2' rh2' (chkOf p2)
  · rintro j x H2 H3 hj ⟨h2, ms2, acc, vacc, e2, n2, s2, rh2, r2, p2⟩ y
    have u2 := upd_del e2
    have rh2' : RH c.K c.mg ms2 H2 h2 := by rw [← u2]; exact rh2.new del_same
    have s22 : Stp ms2 (del H2 Dl) ms2 H2 := by
      have := Stp.new ms2 (o := .lst vacc) (del_same (H := H2) (p := Dl))
      rwa [u2] at this
    obtain ⟨s3, rh3, d, hd, rd⟩ := hY j ms2 h2 H2 x H3 hj (s2.trans s22) rh2' (chkOf p2) y
    have ed : i.xs.drop j = d :: i.xs.drop (j + 1) := by
      rw [List.drop_eq_getElem_cons hj]
      congr 1
      rw [List.getElem?_eq_getElem hj] at hd
      exact Option.some.inj hd
    have hk := chkOf p2
    rw [ed] at p2
    unfold lcM at p2
    rw [if_pos hk] at p2
    have re2 : RE c.K ms2 H3 (wipeE env vs) (wipe σ vs) := re1.step (s2.trans (s22.trans s3))
    have s23 : Stp ms2 (del H2 Dl) ms2 H3 := s22.trans s3
    -- what stands behind a turn
    have back : ∀ {ms4 : List Addr} {H4 : Hp} {h4 : AH}, Stp ms2 H3 ms4 H4 → RH c.K c.mg ms4 H4 h4 → H4 Dl = some (.lst vacc) ∧ Dl ∉ ms4 ∧ Stp ms2 (del H2 Dl) ms4 (del H4 Dl) ∧ RH c.K c.mg ms4 (del H4 Dl) h4 := fun {ms4 H4 h4} s4 rh4 => by
      have s24 : Stp ms2 (upd (del H2 Dl) Dl (.lst vacc)) ms4 H4 := by rw [u2]; exact s3.trans s4
      obtain ⟨z1, z2, z3⟩ := s24.del del_same n2 True.intro
      exact ⟨z2, z1, z3, rh4.del (by rw [z2]; exact True.intro) z1⟩
    refine ho x (wipe σ vs) H3 _ _ (fun σ2 H5 ew q => ⟨by rw [ew, wipe_wipe], q⟩) (hg d (wipeE env vs) h2 ms2 _ H3 x _ re2 rh3 rd (Pg.nox (E := E0) (Pg.bindAt s23 (fun env4 h4 ms4 H4 s4 rh4 p4 σ4 re4 => ?_) p2)))
    refine ht env4 h4 ms4 σ4 H4 _ re4 rh4 (Pg.nox (E := E0) (Pg.bindAt (s23.trans s4) (fun k h5 ms5 H5 s5 rh5 p5 => ?_) p4))
    cases k with
    | false =>
      obtain ⟨z1, z2, z3, z4⟩ := back (s4.trans s5) rh5
      exact ⟨h5, ms5, acc, vacc, z1, z2, s2.trans z3, z4, r2.step z3, p5.step z3⟩
    | true =>
      refine he env4 h5 ms5 σ4 H5 _ (re4.step s5) rh5 (Pg.nox (E := E0) (Pg.bindAt (s23.trans (s4.trans s5)) (fun yv h6 ms6 H6 s6 rh6 p6 v rv => ?_) p5))
      split at p6
      · rename_i hsz
        obtain ⟨z1, z2, z3, z4⟩ := back (s4.trans (s5.trans s6)) rh6
        refine ⟨vacc, z1, by rw [r2.length]; exact hsz, h6, ms6, acc ++ [yv], vacc ++ [v], upd_same, z2, ?_⟩
        rw [del_upd]
        exact ⟨s2.trans z3, z4, (r2.step z3).append (.cons (rv.stb (Stb.del (by rw [z1]; exact True.intro))) .nil), p6.step z3⟩
      · exact p6.elim
  · rintro H2 ⟨h2, ms2, acc, vacc, e2, n2, s2, rh2, r2, p2⟩
    have hk := chkOf p2
    rw [List.drop_length] at p2
    unfold lcM at p2
    rw [if_pos hk] at p2
    have := Pg.here (P := PN c Q) rh2 p2 Dl vacc del_same r2
    rwa [upd_del e2] at this
end
end PM

namespace PM
open PySem L2

/-! ### the reading that says it all -/
def tE (c : Cm) (f : EM) : TE := fun σ H Q => ∃ env h ms, RE c.K ms H env σ ∧ RH c.K c.mg ms H h ∧ Pg c ms H (PV c Q) (f env h)
def tT (c : Cm) (f : TM) : TT := fun σ H Q => ∃ env h ms, RE c.K ms H env σ ∧ RH c.K c.mg ms H h ∧ Pg c ms H (PB Q) (f env h)
theorem evm_tE {c : Cm} {f : EM} : EvM c (tE c f) f := fun env h ms σ H Q re rh p => ⟨env, h, ms, re, rh, p⟩
theorem evt_tT {c : Cm} {f : TM} : EvT c (tT c f) f := fun env h ms σ H Q re rh p => ⟨env, h, ms, re, rh, p⟩
section
variable {X : Cx} {E : XK}
theorem ED.pe {e : Expr} {f : EM} (h : ED X E e f) : PE X e (tE (cm X E) f) := by
  obtain ⟨t, pt, et⟩ := h
  exact ⟨fun pins s σ H Q I ⟨env, hh, ms, re, rh, p⟩ => pt.run pins s σ H Q I (et env hh ms σ H Q re rh p)⟩
theorem ED.of {e : Expr} {f : EM} (h : PE X e (tE (cm X E) f)) : ED X E e f := ⟨_, h, evm_tE⟩
theorem TD.pt {e : Expr} {f : TM} (h : TD X E e f) : PT X e (tT (cm X E) f) := by
  obtain ⟨t, pt, et⟩ := h
  exact ⟨fun pins s σ H Q I ⟨env, hh, ms, re, rh, p⟩ => pt.run pins s σ H Q I (et env hh ms σ H Q re rh p)⟩
/-! ### blocks -/
def BED (X : Cx) (scope : Scope) (e : Expr) (f : EM) : Prop := ∀ (s : Shared) (H : Hp) (C : Addr) (cl : List (Str × Addr)) (fp : List Addr), ED (X.blk s H scope (compEnvC scope cl C X.env) fp) E0 e f
def BTD (X : Cx) (scope : Scope) (e : Expr) (f : TM) : Prop := ∀ (s : Shared) (H : Hp) (C : Addr) (cl : List (Str × Addr)) (fp : List Addr), TD (X.blk s H scope (compEnvC scope cl C X.env) fp) E0 e f
def BTDs (X : Cx) (scope : Scope) (es : List Expr) (f : TM) : Prop := ∃ t, (∀ (s : Shared) (H : Hp) (C : Addr) (cl : List (Str × Addr)) (fp : List Addr), PTs (X.blk s H scope (compEnvC scope cl C X.env) fp) es t) ∧ EvT ⟨X.K, X.mg, E0⟩ t f
def BGD (X : Cx) (scope : Scope) (vs : List Nat) (e : Expr) (g : GM) : Prop := ∃ t, (∀ (s : Shared) (H : Hp) (C : Addr) (cl : List (Str × Addr)) (fp : List Addr), PG (X.blk s H scope (compEnvC scope cl C X.env) fp) e t) ∧ GOwn vs t ∧ EvG ⟨X.K, X.mg, E0⟩ t g
def BGDs (X : Cx) (scope : Scope) (vs : List Nat) (es : List Expr) (g : List D → Env → AH → R Env) : Prop := ∃ t, (∀ (s : Shared) (H : Hp) (C : Addr) (cl : List (Str × Addr)) (fp : List Addr), PGs (X.blk s H scope (compEnvC scope cl C X.env) fp) es t) ∧ GsOwn vs t ∧ EvGs ⟨X.K, X.mg, E0⟩ t g
def mYes : TM := fun _ h => .ok true h
variable {scope : Scope} {vs : List Nat} {own : List (Str × Nat)} {pos : Pos}
theorem btds_nil : BTDs X scope [] mYes := ⟨tYes, fun _ _ _ _ _ => pts_nil, fun env h ms σ H Q re rh p => Pg.here (P := PB Q) rh p⟩
theorem btds_one {e : Expr} {f : TM} (h : BTD X scope e f) : BTDs X scope [e] f := ⟨tT ⟨X.K, X.mg, E0⟩ f, fun s H C cl fp => pts_one (h s H C cl fp).pt, evt_tT⟩
theorem bgd_name (i : Nat) {x : Str} (hN : X.N.Nodup) (hv : i ∈ vs := by decide) (hi : X.N[i]? = some x := by rfl)
    (hx : (relabel scope X.env).names.lookup x = some .local ∨ ((relabel scope X.env).names.lookup x = some .cell ∧ scope.names.lookup x = some .cell) := by first | exact .inl rfl | exact .inr ⟨rfl, rfl⟩) : BGD X scope vs (.Name x pos) (gmName i) :=
  ⟨gName i, fun s H C cl fp => pg_name hN hi (by
    rcases hx with hx | hx
    · exact .inl hx
    · exact .inr hx.1) (by
    rcases hx with hx | hx
    · exact .inr hx
    · refine .inl ?_
      show (scope.names.lookup x == some .cell) = true
      rw [hx.2]; rfl), gown_name hv, fun d env h ms σ H v Q re rh r p => Pg.here (P := PEn ⟨X.K, X.mg, E0⟩ Q) rh p _ (re.set r i)⟩
theorem bgds_nil : BGDs X scope vs [] gmNil := ⟨_, fun _ _ _ _ _ => pgs_nil, gsown_nil, fun ds env h ms σ H vs Q re rh r p => by
  cases ds with
  | nil => rw [RVs] at r; exact ⟨r, Pg.here (P := PEn ⟨X.K, X.mg, E0⟩ Q) rh p σ re⟩
  | cons _ _ => exact p.elim⟩
theorem bgds_cons {e : Expr} {es : List Expr} {g : GM} {r : List D → Env → AH → R Env} (h1 : BGD X scope vs e g) (h2 : BGDs X scope vs es r)
    (hs : ∀ env, (assignEach (e :: es) env).map (·.2) = assign e env :: (assignEach es env).map (·.2) := by intro _; rfl) : BGDs X scope vs (e :: es) (gmCons g r) := by
  obtain ⟨t, pt, ot, et⟩ := h1
  obtain ⟨u, pu, ou, eu⟩ := h2
  refine ⟨_, fun s H C cl fp => pgs_cons (pt s H C cl fp) (pu s H C cl fp) (hs _), gsown_cons ot ou, fun ds env h ms σ H vs Q re rh rs p => ?_⟩
  cases ds with
  | nil => exact p.elim
  | cons d ds =>
    rw [RVs] at rs
    obtain ⟨v, vr, rfl, rv, rr⟩ := rs
    exact ⟨v, vr, rfl, et d env h ms σ H v _ re rh rv (Pg.bind (fun e1 h1 ms1 H1 s1 rh1 p1 σ' re' => eu ds e1 h1 ms1 σ' H1 vr Q re' rh1 (rr.step s1) p1) p)⟩
theorem bgd_tup {es : List Expr} {k n : Nat} {r : List D → Env → AH → R Env} (hc : X.calm = true) (h : BGDs X scope vs es r)
    (hn : ∀ env, (assignEach es env).length = n := by intro _; rfl) (hst : ∀ env, (assignEach es env).findIdx? (·.1) = none := by intro _; rfl) : BGD X scope vs (.Tuple es k pos) (gmTup n r) := by
  obtain ⟨t, pt, ot, et⟩ := h
  refine ⟨gTup X.K n t, fun s H C cl fp => pg_tup (X := X.blk s H scope (compEnvC scope cl C X.env) fp) hc (pt s H C cl fp) (hn _) (hst _), gown_tup ot, fun d env h ms σ H v Q re rh rv p => ?_⟩
  unfold gmTup at p
  split at p
  · split at p
    · rw [RV] at rv
      obtain ⟨a, vs, rfl, q, rs⟩ := rv
      exact ⟨a, vs, rfl, q, by rw [rs.length]; assumption, et _ env h ms σ H vs Q re rh rs p⟩
    · exact p.elim
  · exact p.elim

/-! ### list comprehensions -/
variable {elt tg iter : Expr} {ifs : List Expr} {it : IM} {g : GM} {t : TM} {e : EM}
theorem ld_lc (own : List (Str × Nat)) (hc : X.calm = true) (hN : X.N.Nodup) (ok : BlkOk X.N X.env.scope scope own) (hi : ID X E tg iter it) (hg : BGD X scope (own.map (·.2)) tg g) (ht : BTDs X scope ifs t) (he : BED X scope elt e)
    (hs : ∀ x, foldedSetIterable iter X.env x = pure x := by intro _; rfl) : LD X E (.ListComp elt [⟨tg, iter, ifs, 0⟩] scope pos) (lComp it (own.map (·.2)) g t e) := by
  obtain ⟨wi, pi, ei⟩ := hi
  obtain ⟨gt, pg, og, eg⟩ := hg
  obtain ⟨tt, pt, et⟩ := ht
  exact ⟨_, pe_lc hc hN pi ok pg pt (fun s H C cl fp => (he s H C cl fp).pe) hs, evl_lc (c := cm X E) ei eg og et evm_tE⟩
theorem evs_asgL {c : Cm} {tl : TE} {l : LM} {i : Nat} (el : EvL c tl l) : EvS c (tAsg tl (gName i)) (sAsg (eL l) (gmName i)) := fun env h ms σ H Dn re rh p => by
  unfold sAsg eL at p
  refine el env h ms σ H (fun x H1 => gName i x σ H1 Dn.nx) re rh (Pg.bind (k := fun xs h1 => (R.ok (Fl.nx (env.set i (some (D.ref h1.length)))) (h1 ++ [Ob.lst xs]))) (fun xs h1 ms1 H1 s1 rh1 p1 => fun q vs hq r => ?_) (P2 := PF c Dn) ?_)
  · obtain ⟨s2, rh2⟩ := rh1.push (o := .lst xs) (u := .lst vs) hq ⟨vs, upd_same, RVs.mono (Stb.new hq) _ _ r⟩
    exact p1 _ _ s2 rh2 _ ((re.step (s1.trans s2)).set (v := .ref q) (by rw [RV]; exact ⟨q, rfl, by rw [← rh1.len]; simp⟩) i)
  · cases z : l env h with
    | no => rw [z] at p; exact p
    | ex e h1 => rw [z] at p; exact p
    | ok xs h1 => rw [z] at p; exact p
/-- y = [..] on one line, y a plain local -/
theorem sd_setLc (i : Nat) (own : List (Str × Nat)) {y : Str} {py spos : Pos} (hc : X.calm = true) (hN : X.N.Nodup) (ok : BlkOk X.N X.env.scope scope own) (hi : ID X E tg iter it) (hg : BGD X scope (own.map (·.2)) tg g) (ht : BTDs X scope ifs t) (he : BED X scope elt e)
    (hsw : swapsWith (.ListComp elt [⟨tg, iter, ifs, 0⟩] scope pos) (some (.Name y py)) spos.line X.env = pure true)
    (hy : X.N[i]? = some y := by rfl) (hyl : X.env.scope.names.lookup y = some .local := by rfl)
    (hs : ∀ x, foldedSetIterable iter X.env x = pure x := by intro _; rfl) : SD X E (.Assign [.Name y py] (.ListComp elt [⟨tg, iter, ifs, 0⟩] scope pos) spos) (sAsg (eL (lComp it (own.map (·.2)) g t e)) (gmName i)) := by
  obtain ⟨wi, pi, ei⟩ := hi
  obtain ⟨gt, pg, og, eg⟩ := hg
  obtain ⟨tt, pt, et⟩ := ht
  exact ⟨_, ps_setLc hc hN hy hyl hsw pi ok pg pt (fun s H C cl fp => (he s H C cl fp).pe) hs, evs_asgL (evl_lc (c := cm X E) ei eg og et evm_tE)⟩
end
end PM

namespace PM
open PySem L2

/-! ### keys -/
def keyD : Key → D
  | .inl i => .int i
  | .inr x => .str x
def dKey : D → Option Key
  | .int i => some (.inl i)
  | .str x => some (.inr x)
  | _ => none
theorem dKey_eq {d : D} {k : Key} (h : dKey d = some k) : d = keyD k := by
  cases d <;> simp [dKey] at h <;> subst h <;> rfl
theorem keyD_rv {K : PySem.W.Frag} {ms : List Addr} {H : Hp} (k : Key) : RV K ms H (keyD k) (kV k) := by
  cases k <;> simp [keyD, RV, kV]
theorem rv_keyD {K : PySem.W.Frag} {ms : List Addr} {H : Hp} {k : Key} {v : V} (r : RV K ms H (keyD k) v) : v = kV k := by
  cases k <;> simpa [keyD, RV, kV] using r
theorem rv_dKey {K : PySem.W.Frag} {ms : List Addr} {H : Hp} {d : D} {k : Key} {v : V} (e : dKey d = some k) (r : RV K ms H d v) : v = kV k := by
  rw [dKey_eq e] at r; exact rv_keyD r
/-! ### dicts by keys -/
section
variable {κ : Type} [DecidableEq κ]
def gtD : List (κ × D) → κ → Option D
  | [], _ => none
  | p :: r, k => if p.1 = k then some p.2 else gtD r k
def ptD (kvs : List (κ × D)) (k : κ) (v : D) : List (κ × D) := if (gtD kvs k).isSome = true then kvs.map (fun p => (p.1, if p.1 = k then v else p.2)) else kvs ++ [(k, v)]
variable {K : PySem.W.Frag} {ms : List Addr} {H : Hp}
theorem RKs.val (k : κ) : ∀ {kvs : List (κ × D)} {ws : List (κ × V)}, RKs K ms H kvs ws → (gtD kvs k = none ∧ valV ws k = none) ∨ ∃ d v, gtD kvs k = some d ∧ valV ws k = some v ∧ RV K ms H d v
  | [], _, h => by have e : _ = [] := h; subst e; exact .inl ⟨rfl, rfl⟩
  | (j, d) :: kvs, _, h => by
    obtain ⟨v, r, rfl, a, b⟩ := h
    by_cases e : j = k
    · exact .inr ⟨d, v, by unfold gtD; exact if_pos e, valV_pos e, a⟩
    · have q : gtD ((j, d) :: kvs) k = gtD kvs k := by rw [gtD]; exact if_neg e
      rw [q, valV_neg (p := (j, v)) e]
      exact b.val k
theorem RKs.some {k : κ} {d : D} {kvs : List (κ × D)} {ws : List (κ × V)} (r : RKs K ms H kvs ws) (e : gtD kvs k = Option.some d) : ∃ v, valV ws k = Option.some v ∧ RV K ms H d v := by
  rcases r.val k with ⟨x, _⟩ | ⟨d2, v, x, y, z⟩
  · rw [e] at x; cases x
  · rw [e] at x; cases x; exact ⟨v, y, z⟩
theorem RKs.non {k : κ} {kvs : List (κ × D)} {ws : List (κ × V)} (r : RKs K ms H kvs ws) (e : gtD kvs k = Option.none) : valV ws k = Option.none := by
  rcases r.val k with ⟨_, x⟩ | ⟨d2, v, x, y, z⟩
  · exact x
  · rw [e] at x; cases x
theorem RKs.isSome {k : κ} {kvs : List (κ × D)} {ws : List (κ × V)} (r : RKs K ms H kvs ws) : (valV ws k).isSome = (gtD kvs k).isSome := by
  rcases r.val k with ⟨x, y⟩ | ⟨d2, v, x, y, z⟩ <;> rw [x, y] <;> rfl
theorem RKs.app : ∀ {kvs : List (κ × D)} {ws : List (κ × V)} {k2 : List (κ × D)} {w2 : List (κ × V)}, RKs K ms H kvs ws → RKs K ms H k2 w2 → RKs K ms H (kvs ++ k2) (ws ++ w2)
  | [], _, _, _, h, g => by have e : _ = [] := h; subst e; exact g
  | (j, d) :: kvs, _, k2, w2, h, g => by
    obtain ⟨v, r, rfl, a, b⟩ := h
    exact ⟨v, _, rfl, a, b.app g⟩
theorem RKs.mapV {k : κ} {d : D} {v : V} (rv : RV K ms H d v) : ∀ {kvs : List (κ × D)} {ws : List (κ × V)}, RKs K ms H kvs ws → RKs K ms H (kvs.map fun p => (p.1, if p.1 = k then d else p.2)) (ws.map fun p => if p.1 = k then (p.1, v) else p)
  | [], _, h => by have e : _ = [] := h; subst e; exact rfl
  | (j, d') :: kvs, _, h => by
    obtain ⟨w, r, rfl, a, b⟩ := h
    by_cases e : j = k
    · exact ⟨v, _, by simp [e], by simp [e]; exact rv, b.mapV rv⟩
    · exact ⟨w, _, by simp [e], by simp [e]; exact a, b.mapV rv⟩
theorem RKs.put {k : κ} {d : D} {v : V} {kvs : List (κ × D)} {ws : List (κ × V)} (r : RKs K ms H kvs ws) (rv : RV K ms H d v) : RKs K ms H (ptD kvs k d) (putK ws k v) := by
  unfold ptD putK
  rw [valV_any, r.isSome]
  split
  · exact r.mapV rv
  · exact r.app ⟨v, [], rfl, rv, rfl⟩
end

/-! ### dict comprehensions -/
def dcM (env0 : Env) (g : GM) (t : TM) (ke ve : EM) (chk : AH → Bool) : List D → List (Key × D) → AH → R (List (Key × D))
  | [], acc, h => if chk h = true then .ok acc h else .no
  | x :: xs, acc, h => if chk h = true then (noX (g x env0 h)).bind fun env2 h1 => (noX (t env2 h1)).bind fun k h2 =>
      if k = true then (noX (ke env2 h2)).bind fun y h3 => (noX (ve env2 h3)).bind fun z h4 => match dKey y with
        | some j => if acc.length < sizeLine then dcM env0 g t ke ve chk xs (ptD acc j z) h4 else .no
        | none => .no
      else dcM env0 g t ke ve chk xs acc h2 else .no
abbrev PD (c : Cm) (Q : VK) : List (Key × D) → List Addr → Hp → Prop := fun kvs ms' H' => ∀ p ws, H' p = none → RKs c.K ms' H' kvs ws → Q (.ref p) (upd H' p (.dK ws))
def eDc (it : IM) (vs : List Nat) (g : GM) (t : TM) (ke ve : EM) : EM := fun env h => (it env h).bind fun i h1 => (dcM (wipeE env vs) g t ke ve i.chk i.xs [] h1).bind fun kvs h2 => .ok (.ref h2.length) (h2 ++ [.dic false kvs])
theorem new_dic {c : Cm} {ms : List Addr} {H : Hp} {h : AH} {kvs : List (Key × D)} {ws : List (Key × V)} {Q : VK} (rh : RH c.K c.mg ms H h) (r : RKs c.K ms H kvs ws) (p : Pg c ms H (PV c Q) (.ok (.ref h.length) (h ++ [.dic false kvs]))) : ∀ q, H q = none → Q (.ref q) (upd H q (.dK ws)) := fun q hq => by
  obtain ⟨s2, rh2⟩ := rh.push (o := .dic false kvs) (u := .dK ws) hq ⟨ws, by unfold LkD; rw [if_neg Bool.false_ne_true]; exact upd_same, RKs.mono (Stb.new hq) _ _ r⟩
  exact p _ _ s2 rh2 (.ref q) (by rw [RV]; exact ⟨q, rfl, by rw [← rh.len]; simp⟩)
theorem evd_dc {c : Cm} {wi : TI} {tg : TG} {tt : TT} {tk tv : TE} {it : IM} {g : GM} {t : TM} {ke ve : EM} {vs : List Nat} (hi : EvI c wi it) (hg : EvG ⟨c.K, c.mg, E0⟩ tg g) (ho : GOwn vs tg) (ht : EvT ⟨c.K, c.mg, E0⟩ tt t) (hk : EvM ⟨c.K, c.mg, E0⟩ tk ke) (he : EvM ⟨c.K, c.mg, E0⟩ tv ve) : EvM c (tDc wi tg tt tk tv vs) (eDc it vs g t ke ve) := fun env h ms σ H Q re rh p => by
  refine hi env h ms σ H _ re rh (Pg.bind (fun i h1 ms1 H1 s1 rh1 p1 J ok Dl hD => ?_) p)
  have p1 : Pg c ms1 H1 (PD c Q) (dcM (wipeE env vs) g t ke ve i.chk i.xs [] h1) :=
    Pg.bind (k := fun kvs h2 => R.ok (D.ref h2.length) (h2 ++ [Ob.dic false kvs])) (fun kvs h2 ms2 H2 s2 rh2 p2 q ws hq r => new_dic rh2 r p2 q hq) p1
  obtain ⟨G, Y, w, hG, hY⟩ := ok
  have re1 := (re.step s1).wipe vs
  have chkOf : ∀ {xs : List D} {acc : List (Key × D)} {env' : Env} {h' : AH} {ms' : List Addr} {H' : Hp}, Pg c ms' H' (PD c Q) (dcM env' g t ke ve i.chk xs acc h') → i.chk h' = true := fun {xs acc env' h' ms' H'} q => by
    cases z : i.chk h' with
    | true => rfl
    | false => cases xs <;> (unfold dcM at q; rw [if_neg (by rw [z]; exact Bool.false_ne_true)] at q; exact q.elim)
  let Pv : Nat → Hp → Prop := fun j H2 => ∃ h2 ms2 acc vacc, H2 Dl = some (.dK vacc) ∧ Dl ∉ ms2 ∧ Stp ms1 H1 ms2 (del H2 Dl) ∧ RH c.K c.mg ms2 (del H2 Dl) h2 ∧ RKs c.K ms2 (del H2 Dl) acc vacc ∧ Pg c ms2 (del H2 Dl) (PD c Q) (dcM (wipeE env vs) g t ke ve i.chk (i.xs.drop j) acc h2)
  have hPG : ∀ j H2, Pv j H2 → G H2 := by
    rintro j H2 ⟨h2, ms2, acc, vacc, e2, n2, s2, rh2, r2, p2⟩
    have rh2' : RH c.K c.mg ms2 H2 h2 := by rw [← upd_del e2]; exact rh2.new del_same
    have s2' : Stp ms1 H1 ms2 H2 := by
      refine s2.trans ?_
      have := Stp.new ms2 (o := .dK vacc) (del_same (H := H2) (p := Dl))
      rwa [upd_del e2] at this
    exact hG ms2 h2 H2 s2' rh2' (chkOf p2)
  refine ⟨fun j m H2 => m + j = i.xs.length ∧ Pv j H2, ⟨i.xs.length, rfl, h1, ms1, [], [], upd_same, rh1.notin hD, ?_⟩, ?_⟩
  · rw [del_upd, del_of hD]
    exact ⟨Stp.refl _ _, rh1, rfl, p1⟩
  rintro j m H2 ⟨hm, pv⟩
  have g2 := hPG j H2 pv
  by_cases hj : j < i.xs.length
  · refine .inr ⟨w.goes j H2 hj g2, Pv (j + 1), fun H' q => ⟨m - 1, by omega, by omega, q⟩, fun x H3 y0 => ?_⟩
    have y := w.yields j H2 x H3 hj g2 y0
    obtain ⟨h2, ms2, acc, vacc, e2, n2, s2, rh2, r2, p2⟩ := pv
    have u2 := upd_del e2
    have rh2' : RH c.K c.mg ms2 H2 h2 := by rw [← u2]; exact rh2.new del_same
    have s22 : Stp ms2 (del H2 Dl) ms2 H2 := by
      have := Stp.new ms2 (o := .dK vacc) (del_same (H := H2) (p := Dl))
      rwa [u2] at this
    obtain ⟨s3, rh3, d, hd, rd⟩ := hY j ms2 h2 H2 x H3 hj (s2.trans s22) rh2' (chkOf p2) y
    have ed : i.xs.drop j = d :: i.xs.drop (j + 1) := by
      rw [List.drop_eq_getElem_cons hj]
      congr 1
      rw [List.getElem?_eq_getElem hj] at hd
      exact Option.some.inj hd
    have hk' := chkOf p2
    rw [ed] at p2
    unfold dcM at p2
    rw [if_pos hk'] at p2
    have re2 : RE c.K ms2 H3 (wipeE env vs) (wipe σ vs) := re1.step (s2.trans (s22.trans s3))
    have s23 : Stp ms2 (del H2 Dl) ms2 H3 := s22.trans s3
    have back : ∀ {ms4 : List Addr} {H4 : Hp} {h4 : AH}, Stp ms2 H3 ms4 H4 → RH c.K c.mg ms4 H4 h4 → H4 Dl = some (.dK vacc) ∧ Dl ∉ ms4 ∧ Stp ms2 (del H2 Dl) ms4 (del H4 Dl) ∧ RH c.K c.mg ms4 (del H4 Dl) h4 := fun {ms4 H4 h4} s4 rh4 => by
      have s24 : Stp ms2 (upd (del H2 Dl) Dl (.dK vacc)) ms4 H4 := by rw [u2]; exact s3.trans s4
      obtain ⟨z1, z2, z3⟩ := s24.del del_same n2 True.intro
      exact ⟨z2, z1, z3, rh4.del (by rw [z2]; exact True.intro) z1⟩
    refine ho x (wipe σ vs) H3 _ _ (fun σ2 H5 ew q => ⟨by rw [ew, wipe_wipe], q⟩) (hg d (wipeE env vs) h2 ms2 _ H3 x _ re2 rh3 rd (Pg.nox (E := E0) (Pg.bindAt s23 (fun env4 h4 ms4 H4 s4 rh4 p4 σ4 re4 => ?_) p2)))
    refine ht env4 h4 ms4 σ4 H4 _ re4 rh4 (Pg.nox (E := E0) (Pg.bindAt (s23.trans s4) (fun k h5 ms5 H5 s5 rh5 p5 => ?_) p4))
    cases k with
    | false =>
      obtain ⟨z1, z2, z3, z4⟩ := back (s4.trans s5) rh5
      exact ⟨h5, ms5, acc, vacc, z1, z2, s2.trans z3, z4, r2.step z3, p5.step z3⟩
    | true =>
      refine hk env4 h5 ms5 σ4 H5 _ (re4.step s5) rh5 (Pg.nox (E := E0) (Pg.bindAt (s23.trans (s4.trans s5)) (fun yk h6 ms6 H6 s6 rh6 p6 v rv => ?_) p5))
      refine he env4 h6 ms6 σ4 H6 _ (re4.step (s5.trans s6)) rh6 (Pg.nox (E := E0) (Pg.bindAt (s23.trans (s4.trans (s5.trans s6))) (fun yv h7 ms7 H7 s7 rh7 p7 v2 rv2 => ?_) p6))
      split at p7
      · rename_i kk ek
        split at p7
        · rename_i hsz
          obtain ⟨z1, z2, z3, z4⟩ := back (s4.trans (s5.trans (s6.trans s7))) rh7
          refine ⟨vacc, kk, rv_dKey ek rv, z1, by rw [r2.length]; exact hsz, h7, ms7, ptD acc kk yv, putK vacc kk v2, upd_same, z2, ?_⟩
          rw [del_upd]
          exact ⟨s2.trans z3, z4, (r2.step z3).put (rv2.stb (Stb.del (by rw [z1]; exact True.intro))), p7.step z3⟩
        · exact p7.elim
      · exact p7.elim
  · have ej : j = i.xs.length := by omega
    subst ej
    refine .inl ⟨w.stops H2 g2, ?_⟩
    obtain ⟨h2, ms2, acc, vacc, e2, n2, s2, rh2, r2, p2⟩ := pv
    have hk' := chkOf p2
    rw [List.drop_length] at p2
    unfold dcM at p2
    rw [if_pos hk'] at p2
    have := Pg.here (P := PD c Q) rh2 p2 Dl vacc del_same r2
    rwa [upd_del e2] at this
theorem ed_dc {X : Cx} {E : XK} {scope : Scope} {pos : Pos} {kx vx tg iter : Expr} {ifs : List Expr} {it : IM} {g : GM} {t : TM} {ke ve : EM} (own : List (Str × Nat)) (hc : X.calm = true) (hN : X.N.Nodup) (ok : BlkOk X.N X.env.scope scope own) (hi : ID X E tg iter it) (hg : BGD X scope (own.map (·.2)) tg g) (ht : BTDs X scope ifs t) (hk : BED X scope kx ke) (he : BED X scope vx ve)
    (hs : ∀ x, foldedSetIterable iter X.env x = pure x := by intro _; rfl) : ED X E (.DictComp kx vx [⟨tg, iter, ifs, 0⟩] scope pos) (eDc it (own.map (·.2)) g t ke ve) := by
  obtain ⟨wi, pi, ei⟩ := hi
  obtain ⟨gt, pg, og, eg⟩ := hg
  obtain ⟨tt, pt, et⟩ := ht
  exact ⟨_, pe_dc hc hN pi ok pg pt (fun s H C cl fp => (hk s H C cl fp).pe) (fun s H C cl fp => (he s H C cl fp).pe) hs, evd_dc (c := cm X E) ei eg og et evm_tE evm_tE⟩
end PM

namespace PM
open PySem L2

/-! ### what is walked -/
def isLst (xs : List D) : Option Ob → Bool
  | some (.lst ys) => decide (ys = xs)
  | _ => false
theorem isLst_eq {xs : List D} {o : Option Ob} (h : isLst xs o = true) : o = some (.lst xs) := by
  unfold isLst at h
  split at h
  · rw [of_decide_eq_true h]
  · cases h
def oIt : D → AH → R Its := fun d h => match d with
  | .tup xs => .ok ⟨xs, fun _ => true⟩ h
  | .rol xs => .ok ⟨xs, fun _ => true⟩ h
  | .ref n => match h[n]? with
    | some (.lst xs) => .ok ⟨xs, fun h' => isLst xs h'[n]?⟩ h
    | some (.dic true kvs) => .ok ⟨kvs.map fun p => keyD p.1, fun _ => true⟩ h
    | _ => .no
  | _ => .no
/-- a list, a tuple, a locked dict -/
def iAll (K : PySem.W.Frag) (tl : TE) : TI := fun σ H R => tl σ H fun x H1 => ∃ a, x = .ref a ∧ ((∃ xs, SqL K H1 a xs ∧ R (Itl K a) H1) ∨ (∃ xs, SqT K H1 a xs ∧ R (Itt K a) H1) ∨ ∃ o kvs, H1 a = some (.frz o (.dK kvs)) ∧ R (Itk a o kvs) H1)
theorem pi_all {X : Cx} {tg l : Expr} {tl : TE} (hl : PE X l tl) : PI X tg l (iAll X.K tl) := ⟨fun pins s σ H R I h => thn (hl.run pins s σ H _ I h) fun v s1 ⟨x, H1, I1, r1, q1⟩ => by
  obtain ⟨a, rfl, q⟩ := q1
  cases r1
  rcases q with ⟨xs, hq, q⟩ | ⟨xs, hq, q⟩ | ⟨o, kvs, hq, q⟩
  · obtain ⟨its, _, z, _⟩ := I1.list hq
    exact wpAny_pyIter_list z.isList (pi_one (tk := s1.toks) I1 _ (turn_list a _) ⟨_, Heap.get?_push_size _ rfl, rfl, rfl⟩ q)
  · obtain ⟨its, _, z, _⟩ := I1.tuple hq
    exact wpAny_pyIter_tuple (show s1.heap.IsTuple a its.toArray from z) (pi_one (tk := s1.toks) I1 _ (turn_tuple a _) ⟨_, Heap.get?_push_size _ rfl, rfl, rfl⟩ q)
  · obtain ⟨z1, z2, z3, es, ep, ws, z4, z5, kv, _⟩ := I1.frzK hq
    refine iter_keys z1 z2 z3 z4 (pi_one (tk := s1.toks) I1 _ (turn_keys _ z4) ⟨_, Heap.get?_push_size _ rfl, rfl, ?_⟩ q)
    rw [z5] <;> rfl⟩
theorem RVs.ofGet {K : PySem.W.Frag} {ms : List Addr} {H : Hp} {ds : List D} {vs : List V} {j : Nat} {v : V} (r : RVs K ms H ds vs) (e : vs[j]? = some v) : ∃ d, ds[j]? = some d ∧ RV K ms H d v := r.get' e
theorem RKs.keys {K : PySem.W.Frag} {ms : List Addr} {H : Hp} {κ : Type} : ∀ {kvs : List (κ × D)} {ws : List (κ × V)}, RKs K ms H kvs ws → ws.map Prod.fst = kvs.map Prod.fst
  | [], _, h => by have e : _ = [] := h; subst e; rfl
  | (j, d) :: kvs, _, h => by
    obtain ⟨v, r, rfl, a, b⟩ := h
    rw [List.map_cons, List.map_cons, b.keys]
section
variable {c : Cm} {ms : List Addr} {H : Hp} {h : AH} {d : D} {v : V}
/-- what oIt tells, walked -/
theorem it_ok {Rr : It → Hp → Prop} (rh : RH c.K c.mg ms H h) (rv : RV c.K ms H d v) (p : Pg c ms H (fun i ms' H' => ∀ J, ItOk c J i ms' H' → Rr J H') (oIt d h)) :
    ∃ a, v = .ref a ∧ ((∃ xs, SqL c.K H a xs ∧ Rr (Itl c.K a) H) ∨ (∃ xs, SqT c.K H a xs ∧ Rr (Itt c.K a) H) ∨ ∃ o kvs, H a = some (.frz o (.dK kvs)) ∧ Rr (Itk a o kvs) H) := by
  unfold oIt at p
  cases d with
  | tup ds =>
    rw [RV] at rv
    obtain ⟨a, vs, rfl, q, r⟩ := rv
    refine ⟨a, rfl, .inr (.inl ⟨vs, q, Pg.here rh p _ ⟨_, _, (show Walk (Itt c.K a) ds.length _ _ by rw [← r.length]; exact walk_tup (xs := vs)), fun ms' h' H' s' rh' _ => s'.stb.tup q, fun j ms' h' H' x H2 hj s' rh' _ y => ?_⟩⟩)⟩
    obtain ⟨rfl, y⟩ := y
    exact ⟨Stp.refl _ _, rh', (r.step s').ofGet y⟩
  | rol ds =>
    rw [RV] at rv
    obtain ⟨a, vs, rfl, q, r⟩ := rv
    refine ⟨a, rfl, .inl ⟨vs, q H (Stb.refl H), Pg.here rh p _ ⟨_, _, (show Walk (Itl c.K a) ds.length _ _ by rw [← r.length]; exact walk_list (xs := vs)), fun ms' h' H' s' rh' _ => q H' s'.stb, fun j ms' h' H' x H2 hj s' rh' _ y => ?_⟩⟩⟩
    obtain ⟨rfl, y⟩ := y
    exact ⟨Stp.refl _ _, rh', (r.step s').ofGet y⟩
  | ref n =>
    rw [RV] at rv
    obtain ⟨a, rfl, ea⟩ := rv
    refine ⟨a, rfl, ?_⟩
    simp only at p
    split at p
    · rename_i ds e
      obtain ⟨vs, q, r⟩ := rh.lst e ea
      have at' : ∀ {ms' : List Addr} {h' : AH} {H' : Hp}, Stp ms H ms' H' → RH c.K c.mg ms' H' h' → isLst ds h'[n]? = true → ∃ ws, H' a = some (.lst ws) ∧ RVs c.K ms' H' ds ws := fun {ms' h' H'} s' rh' k => by
        obtain ⟨t, rfl, _⟩ := s'.ext
        exact rh'.lst (isLst_eq k) (get_app ea)
      refine .inl ⟨vs, .inl (.inl q), Pg.here rh p _ ⟨fun H' => ∃ ws, SqL c.K H' a ws ∧ ws.length = ds.length, fun j H' x H2 => H2 = H' ∧ ∀ ws, SqL c.K H' a ws → ws[j]? = some x, ⟨fun j H' hj ⟨ws, z1, z2⟩ => ⟨ws, ws[j]'(by rw [z2]; exact hj), z1, by simp [show j < ws.length by rw [z2]; exact hj]⟩, fun H' ⟨ws, z1, z2⟩ => ⟨ws, z1, Nat.le_of_eq z2⟩, fun j H' x H2 hj _ y => y⟩, fun ms' h' H' s' rh' k => ?_, fun j ms' h' H' x H2 hj s' rh' k y => ?_⟩⟩
      · obtain ⟨ws, z1, z2⟩ := at' s' rh' k
        exact ⟨ws, .inl (.inl z1), z2.length⟩
      · obtain ⟨rfl, y⟩ := y
        obtain ⟨ws, z1, z2⟩ := at' s' rh' k
        exact ⟨Stp.refl _ _, rh', z2.ofGet (y ws (.inl (.inl z1)))⟩
    · rename_i kvs e
      obtain ⟨ws, q, r⟩ := rh.dic e ea
      unfold LkD at q
      rw [if_pos rfl] at q
      obtain ⟨o, q⟩ := q
      refine .inr (.inr ⟨o, ws, q, Pg.here rh p _ ⟨_, _, (show Walk (Itk a o ws) (kvs.map fun p => keyD p.1).length _ _ by rw [List.length_map, ← r.length]; exact walk_keys), fun ms' h' H' s' rh' _ => s'.stb _ _ q (fun z => z), fun j ms' h' H' x H2 hj s' rh' _ y => ?_⟩⟩)
      obtain ⟨rfl, k, w, y, rfl⟩ := y
      refine ⟨Stp.refl _ _, rh', keyD k, ?_, keyD_rv k⟩
      have z : (ws.map Prod.fst)[j]? = some k := by rw [List.getElem?_map, y]; rfl
      rw [r.keys, List.getElem?_map] at z
      rw [List.getElem?_map]
      cases u : kvs[j]? with
      | none => rw [u] at z; cases z
      | some b => rw [u] at z; cases z; rfl
    · exact p.elim
  | non => exact p.elim
  | bl b => exact p.elim
  | int i => exact p.elim
  | str x => exact p.elim
end
def iSeq (a : EM) : IM := fun env h => (a env h).bind oIt
theorem id_seq {X : Cx} {E : XK} {tg e : Expr} {fa : EM} (he : ED X E e fa) : ID X E tg e (iSeq fa) := by
  obtain ⟨t, pt, et⟩ := he
  exact ⟨_, pi_all pt, fun env h ms σ H Rr re rh p => et env h ms σ H _ re rh (Pg.bind (fun d h1 ms1 H1 s1 rh1 p1 v r => it_ok rh1 r p1) p)⟩
/-! ranges -/
def intsD (lo : Int) (n : Nat) : List D := (List.range n).map fun i => .int (lo + (i : Nat))
/-- (told so that nothing is reckoned while i is not known) -/
def okR (i : Int) : Bool := Nat.ble i.natAbs 4611686018427387903
def iRange1 (a : AM) : IM := fun env h => (a env h).bind fun ds h1 => match ds with
  | [.int j] => if okR j = true then .ok ⟨intsD 0 j.toNat, fun _ => true⟩ h1 else .no
  | _ => .no
def iRange2 (a : AM) : IM := fun env h => (a env h).bind fun ds h1 => match ds with
  | [.int i, .int j] => if (okR i && okR j) = true then .ok ⟨intsD i (j - i).toNat, fun _ => true⟩ h1 else .no
  | _ => .no
theorem okR_of {i : Int} (h : okR i = true) : -(2 ^ 62) ≤ i ∧ i < 2 ^ 62 := by
  have h2 : i.natAbs ≤ 4611686018427387903 := Nat.le_of_ble_eq_true h
  omega
theorem itok_range {c : Cm} {lo : Int} {n : Nat} {ms : List Addr} {H : Hp} : ItOk c (Itr lo n) ⟨intsD lo n, fun _ => true⟩ ms H := by
  refine ⟨_, _, (show Walk (Itr lo n) (intsD lo n).length _ _ by rw [intsD, List.length_map, List.length_range]; exact walk_range), fun _ _ _ _ _ _ => True.intro, fun j ms' h' H' x H2 hj s' rh' _ y => ?_⟩
  obtain ⟨rfl, rfl⟩ := y
  have hj' : j < n := by simpa [intsD] using hj
  exact ⟨Stp.refl _ _, rh', .int (lo + (j : Nat)), by simp [intsD, hj'], by rw [RV]⟩
theorem RVs.int1 {K : PySem.W.Frag} {ms : List Addr} {H : Hp} {i : Int} {vs : List V} (r : RVs K ms H [.int i] vs) : vs = [.int i] := by
  rw [RVs] at r
  obtain ⟨v, r2, rfl, a, b⟩ := r
  rw [RVs] at b
  rw [RV] at a
  rw [a, b]
theorem RVs.int2 {K : PySem.W.Frag} {ms : List Addr} {H : Hp} {i j : Int} {vs : List V} (r : RVs K ms H [.int i, .int j] vs) : vs = [.int i, .int j] := by
  rw [RVs] at r
  obtain ⟨v, r2, rfl, a, b⟩ := r
  rw [b.int1]
  rw [RV] at a
  rw [a]
section
variable {X : Cx} {E : XK} {tg a b : Expr} {fa : AM} {p pos : Pos} {n : Nat}
theorem id_range1 (hg : Gl X "range") (hm : X.mg "range" = none) (ha : AD X E n [a] fa) (hs : starEach [a] X.env = [(false, eval a X.env)] := by rfl) : ID X E tg (.Call (.Name "range" p) [a] [] pos) (iRange1 fa) := by
  obtain ⟨t, pt, _, et⟩ := ha
  refine ⟨_, pi_range1 hg hm pt hs, fun env h ms σ H Rr re rh p => et env h ms σ H _ re rh (Pg.bind (fun ds h1 ms1 H1 s1 rh1 p1 vs r => ?_) p)⟩
  split at p1
  · split at p1
    · rename_i j hj
      obtain ⟨z1, z2⟩ := okR_of hj
      refine ⟨_, r.int1, z1, z2, Pg.here rh1 p1 _ itok_range⟩
    · exact p1.elim
  · exact p1.elim
theorem id_range2 (hg : Gl X "range") (hm : X.mg "range" = none) (ha : AD X E n [a, b] fa) (hs : starEach [a, b] X.env = [(false, eval a X.env), (false, eval b X.env)] := by rfl) (hs2 : starEach [b] X.env = [(false, eval b X.env)] := by rfl) : ID X E tg (.Call (.Name "range" p) [a, b] [] pos) (iRange2 fa) := by
  obtain ⟨t, pt, _, et⟩ := ha
  refine ⟨_, pi_range2 hg hm pt hs hs2, fun env h ms σ H Rr re rh p => et env h ms σ H _ re rh (Pg.bind (fun ds h1 ms1 H1 s1 rh1 p1 vs r => ?_) p)⟩
  split at p1
  · split at p1
    · rename_i i j hj
      rw [Bool.and_eq_true] at hj
      obtain ⟨z1, z2⟩ := okR_of hj.1
      obtain ⟨z3, z4⟩ := okR_of hj.2
      refine ⟨_, _, r.int2, ⟨z1, z2, z3, z4⟩, Pg.here rh1 p1 _ itok_range⟩
    · exact p1.elim
  · exact p1.elim
end

/-! ### a dict locked while a statement (an expression) runs -/
theorem Rd.unlock {H : Hp} {p a : Addr} {o : Obj} {u w : HO} (e : H p = some (.frz o u)) (h : Rd H a w) (hw : w ≠ u) (hz : ∀ o' u', w ≠ .frz o' u') : Rd (upd H p u) a w := by
  by_cases q : a = p
  · subst q
    rcases h with h | ⟨o', h⟩
    · rw [e] at h; cases h; exact absurd rfl (hz _ _)
    · rw [e] at h; cases h; exact absurd rfl hw
  · rcases h with h | ⟨o', h⟩
    · exact .inl (by rw [upd_ne q]; exact h)
    · exact .inr ⟨o', by rw [upd_ne q]; exact h⟩
theorem upd_frz {H' : Hp} {p : Addr} {o : Obj} {u : HO} {H2 : Hp} (e : H' p = some (.frz o u)) (s : Stb (upd H' p u) H2) : Stb H' (upd H2 p (.frz o u)) := fun x w ew nm => by
  by_cases q : x = p
  · subst q; rw [e] at ew; cases ew; exact upd_same
  · rw [upd_ne q]; exact s x w (by rw [upd_ne q]; exact ew) nm
theorem SqL.unlock {K : PySem.W.Frag} {H : Hp} {p a : Addr} {o : Obj} {ws : List (Key × V)} {xs : List V} (h : SqL K (upd H p (.frz o (.dK ws))) a xs) : SqL K H a xs := by
  rcases h with (h | ⟨o', h⟩) | h
  · by_cases q : a = p
    · subst q; rw [upd_same] at h; cases h
    · rw [upd_ne q] at h; exact .inl (.inl h)
  · by_cases q : a = p
    · subst q; rw [upd_same] at h; cases h
    · rw [upd_ne q] at h; exact .inl (.inr ⟨o', h⟩)
  · exact .inr h
section
variable {K : PySem.W.Frag} {mg : Str → Option Value} {ms : List Addr} {H : Hp} {p : Addr} {o : Obj} {ws : List (Key × V)} {h : AH}
mutual
theorem RV.unlock (e : H p = some (.frz o (.dK ws))) : ∀ (d : D) (v : V), RV K ms H d v → RV K ms (upd H p (.dK ws)) d v
  | .non, _, h => by rw [RV] at h ⊢; exact h
  | .bl _, _, h => by rw [RV] at h ⊢; exact h
  | .int _, _, h => by rw [RV] at h ⊢; exact h
  | .str _, _, h => by rw [RV] at h ⊢; exact h
  | .tup ds, v, h => by
    rw [RV] at h ⊢
    obtain ⟨a, vs, rfl, q, r⟩ := h
    refine ⟨a, vs, rfl, ?_, RVs.unlock e ds vs r⟩
    rcases q with q | q
    · exact .inl (Rd.unlock e q (fun z => nomatch z) (fun _ _ z => nomatch z))
    · exact .inr q
  | .rol ds, v, h => by
    rw [RV] at h ⊢
    obtain ⟨a, vs, rfl, q, r⟩ := h
    exact ⟨a, vs, rfl, fun H2 s2 => SqL.unlock (q _ (upd_frz e s2)), RVs.unlock e ds vs r⟩
  | .ref i, v, h => by
    rw [RV] at h ⊢
    exact h
theorem RVs.unlock (e : H p = some (.frz o (.dK ws))) : ∀ (ds : List D) (vs : List V), RVs K ms H ds vs → RVs K ms (upd H p (.dK ws)) ds vs
  | [], _, h => by rw [RVs] at h ⊢; exact h
  | d :: ds, vs, h => by
    rw [RVs] at h ⊢
    obtain ⟨v, r, rfl, a, b⟩ := h
    exact ⟨v, r, rfl, RV.unlock e d v a, RVs.unlock e ds r b⟩
end
theorem RKs.unlock {κ : Type} (e : H p = Option.some (.frz o (.dK ws))) : ∀ (ds : List (κ × D)) (vs : List (κ × V)), RKs K ms H ds vs → RKs K ms (upd H p (.dK ws)) ds vs
  | [], _, h => h
  | (k, d) :: ds, vs, h => by
    obtain ⟨v, r, rfl, a, b⟩ := h
    exact ⟨v, r, rfl, RV.unlock e d v a, RKs.unlock e ds r b⟩
theorem RO.unlock (e : H p = Option.some (.frz o (.dK ws))) {a : Addr} (ha : a ≠ p) {ob : Ob} (r : RO K mg ms H a ob) : RO K mg ms (upd H p (.dK ws)) a ob := by
  have he : ∀ u, H a = Option.some u → upd H p (.dK ws) a = Option.some u := fun u q => by rw [upd_ne ha]; exact q
  cases ob with
  | lst xs => obtain ⟨vs, e1, q⟩ := r; exact ⟨vs, he _ e1, RVs.unlock e _ _ q⟩
  | dic lk kvs =>
    obtain ⟨w2, e1, q⟩ := r
    refine ⟨w2, ?_, RKs.unlock e _ _ q⟩
    unfold LkD at e1 ⊢
    split at e1
    · obtain ⟨o, e1⟩ := e1; rw [if_pos ‹_›]; exact ⟨o, he _ e1⟩
    · rw [if_neg ‹_›]; exact he _ e1
  | dit lk kvs =>
    obtain ⟨w2, e1, q⟩ := r
    refine ⟨w2, ?_, RKs.unlock e _ _ q⟩
    unfold LkD at e1 ⊢
    split at e1
    · obtain ⟨o, e1⟩ := e1; rw [if_pos ‹_›]; exact ⟨o, he _ e1⟩
    · rw [if_neg ‹_›]; exact he _ e1
  | ins C fs => obtain ⟨Ca, dx, w2, g, e1, q⟩ := r; exact ⟨Ca, dx, w2, g, he _ e1, RKs.unlock e _ _ q⟩
/-- unlocking -/
theorem RH.unlock (r : RH K mg ms H h) {i : Nat} {kvs : List (Key × D)} (ei : h[i]? = some (.dic true kvs)) (ep : ms[i]? = some p) (e : H p = some (.frz o (.dK ws))) : RH K mg ms (upd H p (.dK ws)) (h.set i (.dic false kvs)) := by
  refine ⟨by rw [List.length_set]; exact r.len, r.nd, fun j ob b e1 e2 => ?_⟩
  by_cases hj : j = i
  · subst hj
    rw [ep] at e2; cases e2
    have hl := (List.getElem?_eq_some_iff.mp ei).1
    rw [List.getElem?_set_self hl] at e1
    cases e1
    obtain ⟨w2, q, z⟩ := r.dic ei ep
    unfold LkD at q
    rw [if_pos rfl] at q
    obtain ⟨o2, q⟩ := q
    rw [e] at q; cases q
    exact ⟨ws, by unfold LkD; rw [if_neg Bool.false_ne_true]; exact upd_same, RKs.unlock e _ _ z⟩
  · rw [List.getElem?_set_ne (Ne.symm hj)] at e1
    refine (r.ok j ob b e1 e2).unlock e fun z => hj ?_
    subst z
    obtain ⟨x1, y1⟩ := List.getElem?_eq_some_iff.mp e2
    obtain ⟨x2, y2⟩ := List.getElem?_eq_some_iff.mp ep
    exact (List.getElem_inj r.nd).mp (y1.trans y2.symm)
end
/-- .. and at an end of the locked stretch -/
def unlk {α : Type} (n : Nat) : α → AH → R α := fun a h => match h[n]? with
  | some (.dic true kvs) => .ok a (h.set n (.dic false kvs))
  | _ => .no
def sLock (i : Nat) (s : SM) : SM := fun env h => match env[i]? with
  | some (some (.ref n)) => match h[n]? with
    | some (.dic false kvs) => (s env (h.set n (.dic true kvs))).bind (unlk n)
    | some (.dic true kvs) => s env h
    | _ => .no
  | _ => .no
def eLock (i : Nat) (s : EM) : EM := fun env h => match env[i]? with
  | some (some (.ref n)) => match h[n]? with
    | some (.dic false kvs) => (s env (h.set n (.dic true kvs))).bind (unlk n)
    | some (.dic true kvs) => s env h
    | _ => .no
  | _ => .no
section
variable {c : Cm} {ms : List Addr} {H : Hp} {h : AH}
/-- one locks: what then stands -/
theorem lock_in (rh : RH c.K c.mg ms H h) {n : Nat} {kvs : List (Key × D)} (e : h[n]? = some (.dic false kvs)) : ∃ a ws, ms[n]? = some a ∧ H a = some (.dK ws) ∧ ∀ od, Stp ms H ms (upd H a (.frz od (.dK ws))) ∧ RH c.K c.mg ms (upd H a (.frz od (.dK ws))) (h.set n (.dic true kvs)) := by
  obtain ⟨a, ea, ws, q, r⟩ := rh.at e
  unfold LkD at q
  rw [if_neg Bool.false_ne_true] at q
  refine ⟨a, ws, ea, q, fun od => ?_⟩
  have mu : Mut (H a) := by rw [q]; exact True.intro
  exact rh.put ea mu ⟨ws, by unfold LkD; rw [if_pos rfl]; exact ⟨od, upd_same⟩, RKs.stb (Stb.wr mu) r⟩
/-- the way out -/
theorem lock_out {α : Type} {P : α → List Addr → Hp → Prop} {n : Nat} {a : Addr} {ws : List (Key × V)} {od : Obj} {ms1 : List Addr} {H1 : Hp} {h1 : AH} {x : α} (ea : ms[n]? = some a) (q : H a = some (.dK ws)) (s : Stp ms (upd H a (.frz od (.dK ws))) ms1 H1) (rh : RH c.K c.mg ms1 H1 h1)
    (p : Pg c ms H P (unlk n x h1)) : H1 a = some (.frz od (.dK ws)) ∧ P x ms1 (upd H1 a (.dK ws)) := by
  have e1 : H1 a = some (.frz od (.dK ws)) := s.stb a _ upd_same fun z => z
  refine ⟨e1, ?_⟩
  unfold unlk at p
  split at p
  · rename_i kvs e
    have ea1 : ms1[n]? = some a := by
      obtain ⟨t, rfl, _⟩ := s.ext
      exact get_app ea
    refine p ms1 (upd H1 a (.dK ws)) ⟨?_, fun b o eb hb => ?_, fun b o eb nm => ?_⟩ (rh.unlock e ea1 e1)
    · obtain ⟨t, rfl, ht⟩ := s.ext
      refine ⟨t, rfl, fun b hb => ⟨?_, (ht b hb).2⟩⟩
      have z := (ht b hb).1
      by_cases y : b = a
      · subst y; rw [upd_same] at z; cases z
      · rwa [upd_ne y] at z
    · have y : b ≠ a := fun z => hb (by rw [z]; exact List.mem_of_getElem? ea)
      rw [upd_ne y]
      exact s.frm b o (by rw [upd_ne y]; exact eb) hb
    · have y : b ≠ a := fun z => by subst z; rw [q] at eb; cases eb; exact nm True.intro
      rw [upd_ne y]
      exact s.stb b o (by rw [upd_ne y]; exact eb) nm
  · exact p.elim
/-- exceptions that leave a locked stretch are of no use -/
def noXl {α : Type} (r : R α) : R α := noX r
end
section
variable {X : Cx} {E : XK}
theorem Pg.bindS {α β : Type} {c : Cm} {ms msA : List Addr} {H HA : Hp} {P : α → List Addr → Hp → Prop} {P2 : β → List Addr → Hp → Prop} {k : α → AH → R β} (s0 : Stp msA HA ms H) : ∀ {r : R α},
    (∀ a h1 ms1 H1, Stp ms H ms1 H1 → RH c.K c.mg ms1 H1 h1 → Pg c msA HA P2 (k a h1) → P a ms1 H1) → Pg c msA HA P2 (r.bind k) → Pg c ms H P r := Pg.bindAt s0
theorem sd_lock (i : Nat) {st : Stmt} {f : SM} (h : SD X E st f) : SD X E st (sLock i f) := by
  obtain ⟨t, pt, et⟩ := h
  refine ⟨fun D σ H => tLock t D σ H ∨ t D σ H, ⟨fun pins s σ H D I q => ?_⟩, fun env h ms σ H Dn re rh p => ?_⟩
  · rcases q with q | q
    · exact (ps_lock pt).run pins s σ H D I q
    · exact pt.run pins s σ H D I q
  · unfold sLock at p
    split at p
    · rename_i n en
      split at p
      · rename_i kvs e
        obtain ⟨a, ws, ea, q, z⟩ := lock_in rh e
        refine .inl ⟨a, .dK ws, q, True.intro, fun od => ?_⟩
        obtain ⟨s1, rh1⟩ := z od
        refine et env _ ms σ _ _ (re.step s1) rh1 (Pg.bindAt s1 (fun fl h2 ms2 H2 s2 rh2 p2 => ?_) p)
        obtain ⟨e2, p3⟩ := lock_out ea q s2 rh2 p2
        cases fl with
        | nx e' => exact fun σ' re' => ⟨e2, p3 σ' ⟨re'.1, fun j d ed => let ⟨v, x1, x2⟩ := re'.2 j d ed; ⟨v, x1, RV.unlock e2 _ _ x2⟩⟩⟩
        | bk e' => exact fun σ' re' => ⟨e2, p3 σ' ⟨re'.1, fun j d ed => let ⟨v, x1, x2⟩ := re'.2 j d ed; ⟨v, x1, RV.unlock e2 _ _ x2⟩⟩⟩
        | ct e' => exact fun σ' re' => ⟨e2, p3 σ' ⟨re'.1, fun j d ed => let ⟨v, x1, x2⟩ := re'.2 j d ed; ⟨v, x1, RV.unlock e2 _ _ x2⟩⟩⟩
        | rt d => exact fun v r => ⟨e2, p3 v (RV.unlock e2 _ _ r)⟩
      · exact .inr (et env h ms σ H Dn re rh p)
      · exact p.elim
    · exact p.elim
theorem ed_lock (i : Nat) {st : Expr} {f : EM} (h : ED X E st f) : ED X E st (eLock i f) := by
  obtain ⟨t, pt, et⟩ := h
  refine ⟨fun σ H Q => tLockE t σ H Q ∨ t σ H Q, ⟨fun pins s σ H D I q => ?_⟩, fun env h ms σ H Q re rh p => ?_⟩
  · rcases q with q | q
    · exact (pe_lock pt).run pins s σ H D I q
    · exact pt.run pins s σ H D I q
  · unfold eLock at p
    split at p
    · rename_i n en
      split at p
      · rename_i kvs e
        obtain ⟨a, ws, ea, q, z⟩ := lock_in rh e
        refine .inl ⟨a, .dK ws, q, True.intro, fun od => ?_⟩
        obtain ⟨s1, rh1⟩ := z od
        refine et env _ ms σ _ _ (re.step s1) rh1 (Pg.bindAt s1 (fun d h2 ms2 H2 s2 rh2 p2 v r => ?_) p)
        obtain ⟨e2, p3⟩ := lock_out ea q s2 rh2 p2
        exact ⟨e2, p3 v (RV.unlock e2 _ _ r)⟩
      · exact .inr (et env h ms σ H Q re rh p)
      · exact p.elim
    · exact p.elim
end
end PM

namespace PM
open PySem L2

/-! ### operators by values -/
def rOr (r r' : R2) : R2 := fun x y H Q => r x y H Q ∨ r' x y H Q
theorem opr_or {X : Cx} {f : Value → Value → Sem Value} {r r' : R2} (h : OpR X f r) (h' : OpR X f r') : OpR X f (rOr r r') := fun pins s σ H x y v u Q I rx ry q =>
  q.elim (fun q => h pins s σ H x y v u Q I rx ry q) (fun q => h' pins s σ H x y v u Q I rx ry q)
def oI (g : Int → Int → D) : D → D → AH → R D := fun x y h => match x, y with
  | .int i, .int j => .ok (g i j) h
  | _, _ => .no
def oIC (C : Int → Int → Bool) (g : Int → Int → D) : D → D → AH → R D := fun x y h => match x, y with
  | .int i, .int j => if C i j = true then .ok (g i j) h else .no
  | _, _ => .no
theorem RV.int {K : PySem.W.Frag} {ms : List Addr} {H : Hp} {i : Int} {v : V} (r : RV K ms H (.int i) v) : v = .int i := by rwa [RV] at r
theorem RV.str {K : PySem.W.Frag} {ms : List Addr} {H : Hp} {i : Str} {v : V} (r : RV K ms H (.str i) v) : v = .str i := by rwa [RV] at r
theorem RV.bl {K : PySem.W.Frag} {ms : List Addr} {H : Hp} {i : Bool} {v : V} (r : RV K ms H (.bl i) v) : v = .bl i := by rwa [RV] at r
theorem RV.non {K : PySem.W.Frag} {ms : List Addr} {H : Hp} {v : V} (r : RV K ms H .non v) : v = .non := by rwa [RV] at r
theorem RV.tup {K : PySem.W.Frag} {ms : List Addr} {H : Hp} {ds : List D} {v : V} (r : RV K ms H (.tup ds) v) : ∃ a vs, v = .ref a ∧ SqT K H a vs ∧ RVs K ms H ds vs := by rwa [RV] at r
theorem RV.refd {K : PySem.W.Frag} {ms : List Addr} {H : Hp} {n : Nat} {v : V} (r : RV K ms H (.ref n) v) : ∃ a, v = .ref a ∧ ms[n]? = some a := by rwa [RV] at r
theorem rv_int {K : PySem.W.Frag} {ms : List Addr} {H : Hp} {i : Int} : RV K ms H (.int i) (.int i) := by rw [RV]
theorem rv_str {K : PySem.W.Frag} {ms : List Addr} {H : Hp} {i : Str} : RV K ms H (.str i) (.str i) := by rw [RV]
theorem rv_bl {K : PySem.W.Frag} {ms : List Addr} {H : Hp} {i : Bool} : RV K ms H (.bl i) (.bl i) := by rw [RV]
theorem rv_non {K : PySem.W.Frag} {ms : List Addr} {H : Hp} : RV K ms H .non .non := by rw [RV]
section
variable {c : Cm}
theorem opm_I {g : Int → Int → V} {g' : Int → Int → D} (hg : ∀ i j K ms H, RV K ms H (g' i j) (g i j)) : OpM c (rI0 g) (oI g') := fun x y h ms vx vy H Q rh rx ry p => by
  unfold oI at p
  split at p
  · exact ⟨_, _, rx.int, ry.int, Pg.here rh p _ (hg _ _ _ _ _)⟩
  · exact p.elim
theorem opm_IC {C : Int → Int → Prop} {C' : Int → Int → Bool} {g : Int → Int → V} {g' : Int → Int → D} (hC : ∀ i j, C' i j = true → C i j) (hg : ∀ i j K ms H, RV K ms H (g' i j) (g i j)) : OpM c (rI C g) (oIC C' g') := fun x y h ms vx vy H Q rh rx ry p => by
  unfold oIC at p
  split at p
  · split at p
    · exact ⟨_, _, rx.int, ry.int, hC _ _ ‹_›, Pg.here rh p _ (hg _ _ _ _ _)⟩
    · exact p.elim
  · exact p.elim
end
def oSub := oI fun i j => .int (i - j)
def oMul := oIC (fun i j => Nat.ble i.natAbs 18446744073709551615 || Nat.ble j.natAbs 18446744073709551615) fun i j => .int (i * j)
def oFdiv := oIC (fun _ j => Nat.ble 1 j.toNat && Nat.ble j.toNat 1073741823) fun i j => .int (i / j)
def oMod := oIC (fun _ j => Nat.ble 1 j.toNat) fun i j => .int (i % j)
def isN : Int → Bool
  | .ofNat _ => true
  | _ => false
def oPow := oIC (fun i j => isN j && Nat.ble j.toNat 1000000 && Nat.ble i.natAbs 18446744073709551615) fun i j => .int (i ^ j.toNat)
def oLt := oI fun i j => .bl (decide (i < j))
def oLe := oI fun i j => .bl (decide (i ≤ j))
def oGt := oI fun i j => .bl (decide (j < i))
def oGe := oI fun i j => .bl (decide (j ≤ i))
section
variable {X : Cx} {E : XK}
theorem om_sub : OpR X (binaryOp .Sub) (rI0 fun i j => .int (i - j)) ∧ OpM (cm X E) (rI0 fun i j => .int (i - j)) oSub := ⟨op_sub, opm_I fun _ _ _ _ _ => rv_int⟩
theorem om_mul : OpR X (binaryOp .Mult) (rI CMul fun i j => .int (i * j)) ∧ OpM (cm X E) (rI CMul fun i j => .int (i * j)) oMul := ⟨op_mul, opm_IC (fun i j h => by
    unfold CMul
    rw [Bool.or_eq_true] at h
    rcases h with h | h
    · have := Nat.le_of_ble_eq_true h; exact .inl (by omega)
    · have := Nat.le_of_ble_eq_true h; exact .inr (by omega)) fun _ _ _ _ _ => rv_int⟩
theorem om_fdiv : OpR X (binaryOp .FloorDiv) (rI CDiv fun i j => .int (i / j)) ∧ OpM (cm X E) (rI CDiv fun i j => .int (i / j)) oFdiv := ⟨op_fdiv, opm_IC (fun i j h => by
    rw [Bool.and_eq_true] at h
    have h1 := Nat.le_of_ble_eq_true h.1
    have h2 := Nat.le_of_ble_eq_true h.2
    unfold CDiv; omega) fun _ _ _ _ _ => rv_int⟩
theorem om_mod : OpR X (binaryOp .Mod) (rI (fun _ j => 0 < j) fun i j => .int (i % j)) ∧ OpM (cm X E) (rI (fun _ j => 0 < j) fun i j => .int (i % j)) oMod := ⟨op_mod, opm_IC (fun i j h => by
    have h1 := Nat.le_of_ble_eq_true h
    omega) fun _ _ _ _ _ => rv_int⟩
theorem om_pow : OpR X (binaryOp .Pow) (rI CPow fun i j => .int (i ^ j.toNat)) ∧ OpM (cm X E) (rI CPow fun i j => .int (i ^ j.toNat)) oPow := ⟨op_pow, opm_IC (fun i j h => by
    rw [Bool.and_eq_true, Bool.and_eq_true] at h
    have h1 := Nat.le_of_ble_eq_true h.1.2
    have h2 := Nat.le_of_ble_eq_true h.2
    have h3 : 0 ≤ j := by cases j with | ofNat n => exact Int.natCast_nonneg n | negSucc n => cases h.1.1
    unfold CPow; omega) fun _ _ _ _ _ => rv_int⟩
theorem om_lt : OpR X (compareOp .Lt) (rI0 fun i j => .bl (decide (i < j))) ∧ OpM (cm X E) (rI0 fun i j => .bl (decide (i < j))) oLt := ⟨op_lt, opm_I fun _ _ _ _ _ => rv_bl⟩
theorem om_le : OpR X (compareOp .LtE) (rI0 fun i j => .bl (decide (i ≤ j))) ∧ OpM (cm X E) (rI0 fun i j => .bl (decide (i ≤ j))) oLe := ⟨op_le, opm_I fun _ _ _ _ _ => rv_bl⟩
theorem om_gt : OpR X (compareOp .Gt) (rI0 fun i j => .bl (decide (j < i))) ∧ OpM (cm X E) (rI0 fun i j => .bl (decide (j < i))) oGt := ⟨op_gt, opm_I fun _ _ _ _ _ => rv_bl⟩
theorem om_ge : OpR X (compareOp .GtE) (rI0 fun i j => .bl (decide (j ≤ i))) ∧ OpM (cm X E) (rI0 fun i j => .bl (decide (j ≤ i))) oGe := ⟨op_ge, opm_I fun _ _ _ _ _ => rv_bl⟩
end
/-- + : ints, texts, tuples, lists -/
def oAdd : D → D → AH → R D := fun x y h => match x, y with
  | .int i, .int j => .ok (.int (i + j)) h
  | .str a, .str b => if a.length + b.length ≤ sizeLine then .ok (.str (a ++ b)) h else .no
  | .tup xs, .tup ys => if xs.length + ys.length ≤ sizeLine then .ok (.tup (xs ++ ys)) h else .no
  | .ref m, .ref n => match h[m]?, h[n]? with
    | some (.lst xs), some (.lst ys) => if xs.length + ys.length ≤ sizeLine then .ok (.ref h.length) (h ++ [.lst (xs ++ ys)]) else .no
    | _, _ => .no
  | _, _ => .no
def rAdd (K : PySem.W.Frag) : R2 := rOr (rI0 fun i j => .int (i + j)) (rOr (fun x y H Q => ∃ i j, x = .str i ∧ y = .str j ∧ i.length + j.length ≤ sizeLine ∧ Q (.str (i ++ j)) H) (rOr (rCatA K) rCat))
section
variable {X : Cx} {E : XK} {c : Cm}
theorem opm_add : OpM c (rAdd c.K) oAdd := fun x y h ms vx vy H Q rh rx ry p => by
  unfold oAdd at p
  split at p
  · exact .inl ⟨_, _, rx.int, ry.int, Pg.here rh p _ rv_int⟩
  · split at p
    · exact .inr (.inl ⟨_, _, rx.str, ry.str, ‹_›, Pg.here rh p _ rv_str⟩)
    · exact p.elim
  · rename_i xs ys
    split at p
    · obtain ⟨a, vs, rfl, qa, ra⟩ := rx.tup
      obtain ⟨b, ws, rfl, qb, rb⟩ := ry.tup
      refine .inr (.inr (.inl ⟨a, b, vs, ws, rfl, rfl, qa, qb, by rw [ra.length, rb.length]; assumption, fun e => ?_, fun _ e => ?_, fun _ _ => new_tup rh (ra.append rb) p⟩))
      · subst e
        refine Pg.here rh p (.ref b) ?_
        have : xs = [] := List.length_eq_zero_iff.mp ra.length.symm
        subst this
        rw [List.nil_append, RV]
        exact ⟨b, ws, rfl, qb, rb⟩
      · subst e
        refine Pg.here rh p (.ref a) ?_
        have : ys = [] := List.length_eq_zero_iff.mp rb.length.symm
        subst this
        rw [List.append_nil, RV]
        exact ⟨a, vs, rfl, qa, ra⟩
    · exact p.elim
  · rename_i m n
    obtain ⟨a, rfl, ea⟩ := rx.refd
    obtain ⟨b, rfl, eb⟩ := ry.refd
    split at p
    · rename_i xs ys e1 e2
      split at p
      · obtain ⟨vs, qa, ra⟩ := rh.lst e1 ea
        obtain ⟨ws, qb, rb⟩ := rh.lst e2 eb
        exact .inr (.inr (.inr ⟨a, b, vs, ws, rfl, rfl, qa, qb, by rw [ra.length, rb.length]; assumption, new_lst rh (ra.append rb) p⟩))
      · exact p.elim
    · exact p.elim
  · exact p.elim
theorem om_add : OpR X (binaryOp .Add) (rAdd X.K) ∧ OpM (cm X E) (rAdd X.K) oAdd := ⟨opr_or op_add (opr_or op_add_str (opr_or op_catA op_cat)), opm_add⟩
/-! ### identity with None, True, False -/
def isNonD : D → Bool
  | .non => true
  | _ => false
def oIs (neg : Bool) : D → D → AH → R D := fun x y h => match y with
  | .non => .ok (.bl (neg != isNonD x)) h
  | _ => .no
theorem isN_m {x : D} {K : PySem.W.Frag} {ms : List Addr} {H : Hp} {v : V} (r : RV K ms H x v) : decide (v = .non) = isNonD x := by
  cases x with
  | non => rw [r.non]; rfl
  | bl b => rw [r.bl]; rfl
  | int i => rw [r.int]; rfl
  | str i => rw [r.str]; rfl
  | tup i => obtain ⟨a, vs, rfl, _⟩ := r.tup; rfl
  | rol i => rw [RV] at r; obtain ⟨a, vs, rfl, _⟩ := r; rfl
  | ref i => obtain ⟨a, rfl, _⟩ := r.refd; rfl
theorem om_is : OpR X (compareOp .Is) (fun x y H Q => y = .non ∧ Q (.bl (decide (x = .non))) H) ∧ OpM (cm X E) (fun x y H Q => y = .non ∧ Q (.bl (decide (x = .non))) H) (oIs false) :=
  ⟨op_isN, fun x y h ms vx vy H Q rh rx ry p => by
    unfold oIs at p
    split at p
    · refine ⟨ry.non, ?_⟩
      rw [isN_m rx]
      exact Pg.here rh p _ (by simp only [Bool.false_bne]; exact rv_bl)
    · exact p.elim⟩
theorem om_isnot : OpR X (compareOp .IsNot) (fun x y H Q => y = .non ∧ Q (.bl (!decide (x = .non))) H) ∧ OpM (cm X E) (fun x y H Q => y = .non ∧ Q (.bl (!decide (x = .non))) H) (oIs true) :=
  ⟨op_notN, fun x y h ms vx vy H Q rh rx ry p => by
    unfold oIs at p
    split at p
    · refine ⟨ry.non, ?_⟩
      rw [isN_m rx]
      exact Pg.here rh p _ (by simp only [Bool.true_bne]; exact rv_bl)
    · exact p.elim⟩
end
/-! ### data without dicts -/
def pydL (f : D → Option PyData) : List D → Option (List PyData)
  | [] => some []
  | x :: xs => match f x, pydL f xs with
    | some p, some ps => some (p :: ps)
    | _, _ => none
def pyd (h : AH) : Nat → D → Option PyData
  | 0, _ => none
  | _ + 1, .non => some .none
  | _ + 1, .bl b => some (.bool b)
  | _ + 1, .int i => some (.int i)
  | _ + 1, .str x => some (.str x)
  | n + 1, .tup xs => (pydL (pyd h n) xs).map .tuple
  | n + 1, .rol xs => (pydL (pyd h n) xs).map .list
  | n + 1, .ref i => match h[i]? with
    | some (.lst xs) => (pydL (pyd h n) xs).map .list
    | _ => none
section
variable {c : Cm} {ms : List Addr} {H : Hp} {h : AH}
theorem pydL_dp {f : D → Option PyData} (hf : ∀ d p v, f d = some p → RV c.K ms H d v → Dp c.K H v p) : ∀ {xs : List D} {ps : List PyData} {vs : List V}, pydL f xs = some ps → RVs c.K ms H xs vs → DpAll c.K H vs ps
  | [], ps, vs, e, r => by
    rw [RVs] at r; subst r; cases e; exact .nil
  | x :: xs, ps, vs, e, r => by
    rw [RVs] at r
    obtain ⟨v, w, rfl, a, b⟩ := r
    rw [pydL] at e
    split at e
    · cases e; exact .cons (hf _ _ _ ‹_› a) (pydL_dp hf ‹_› b)
    · cases e
theorem pydL_all {f : D → Option PyData} {n : Nat} (hf : ∀ d p, f d = some p → p.plain = true ∧ p.depth ≤ n) : ∀ {xs : List D} {ps : List PyData}, pydL f xs = some ps → PyData.plainAll ps = true ∧ PyData.depthAll ps ≤ n
  | [], ps, e => by cases e; exact ⟨rfl, Nat.zero_le _⟩
  | x :: xs, ps, e => by
    rw [pydL] at e
    split at e
    · rename_i p qs e1 e2
      cases e
      have h1 := hf _ _ e1
      have h2 := pydL_all hf e2
      exact ⟨by simp [PyData.plainAll, h1.1, h2.1], by simp only [PyData.depthAll]; omega⟩
    · cases e
theorem pyd_dp (rh : RH c.K c.mg ms H h) : ∀ (n : Nat) (d : D) (p : PyData) (v : V), pyd h n d = some p → RV c.K ms H d v → Dp c.K H v p
  | 0, d, p, v, e, r => by cases e
  | n + 1, .non, p, v, e, r => by cases e; rw [r.non]; exact .non
  | n + 1, .bl b, p, v, e, r => by cases e; rw [r.bl]; exact .bl _
  | n + 1, .int b, p, v, e, r => by cases e; rw [r.int]; exact .int _
  | n + 1, .str b, p, v, e, r => by cases e; rw [r.str]; exact .str _
  | n + 1, .tup xs, p, v, e, r => by
    obtain ⟨a, vs, rfl, q, r⟩ := r.tup
    rw [pyd] at e
    obtain ⟨ps, e1, rfl⟩ := Option.map_eq_some_iff.mp e
    exact .tup q (pydL_dp (fun d p v => pyd_dp rh n d p v) e1 r)
  | n + 1, .rol xs, p, v, e, r => by
    rw [RV] at r
    obtain ⟨a, vs, rfl, q, r⟩ := r
    rw [pyd] at e
    obtain ⟨ps, e1, rfl⟩ := Option.map_eq_some_iff.mp e
    exact .lst (q H (Stb.refl H)) (pydL_dp (fun d p v => pyd_dp rh n d p v) e1 r)
  | n + 1, .ref i, p, v, e, r => by
    obtain ⟨a, rfl, ea⟩ := r.refd
    rw [pyd] at e
    split at e
    · rename_i xs ei
      obtain ⟨ps, e1, rfl⟩ := Option.map_eq_some_iff.mp e
      obtain ⟨vs, q, r⟩ := rh.lst ei ea
      exact .lst (.inl (.inl q)) (pydL_dp (fun d p v => pyd_dp rh n d p v) e1 r)
    · cases e
theorem pyd_ok : ∀ (n : Nat) (d : D) (p : PyData), pyd h n d = some p → p.plain = true ∧ p.depth ≤ n
  | 0, d, p, e => by cases e
  | n + 1, .non, p, e => by cases e; exact ⟨rfl, by simp [PyData.depth]⟩
  | n + 1, .bl b, p, e => by cases e; exact ⟨rfl, by simp [PyData.depth]⟩
  | n + 1, .int b, p, e => by cases e; exact ⟨rfl, by simp [PyData.depth]⟩
  | n + 1, .str b, p, e => by cases e; exact ⟨rfl, by simp [PyData.depth]⟩
  | n + 1, .tup xs, p, e => by
    rw [pyd] at e
    obtain ⟨ps, e1, rfl⟩ := Option.map_eq_some_iff.mp e
    have := pydL_all (fun d p => pyd_ok n d p) e1
    exact ⟨by simp only [PyData.plain]; exact this.1, by simp only [PyData.depth]; omega⟩
  | n + 1, .rol xs, p, e => by
    rw [pyd] at e
    obtain ⟨ps, e1, rfl⟩ := Option.map_eq_some_iff.mp e
    have := pydL_all (fun d p => pyd_ok n d p) e1
    exact ⟨by simp only [PyData.plain]; exact this.1, by simp only [PyData.depth]; omega⟩
  | n + 1, .ref i, p, e => by
    rw [pyd] at e
    split at e
    · obtain ⟨ps, e1, rfl⟩ := Option.map_eq_some_iff.mp e
      have := pydL_all (fun d p => pyd_ok n d p) e1
      exact ⟨by simp only [PyData.plain]; exact this.1, by simp only [PyData.depth]; omega⟩
    · cases e
end
def oEq (neg : Bool) : D → D → AH → R D := fun x y h => match pyd h 60 x, pyd h 60 y with
  | some p, some q => .ok (.bl (neg != PyData.eqv p q)) h
  | _, _ => .no
/-- in, not in: lists and tuples of data; dicts -/
def oIn (neg : Bool) : D → D → AH → R D := fun x y h => match y with
  | .tup ys => match pyd h 60 x, pydL (pyd h 60) ys with
    | some p, some qs => .ok (.bl (neg != qs.any fun q => PyData.eqv q p)) h
    | _, _ => .no
  | .rol ys => match pyd h 60 x, pydL (pyd h 60) ys with
    | some p, some qs => .ok (.bl (neg != qs.any fun q => PyData.eqv q p)) h
    | _, _ => .no
  | .ref n => match h[n]? with
    | some (.lst ys) => match pyd h 60 x, pydL (pyd h 60) ys with
      | some p, some qs => .ok (.bl (neg != qs.any fun q => PyData.eqv q p)) h
      | _, _ => .no
    | some (.dic _ kvs) => match dKey x with
      | some k => .ok (.bl (neg != (gtD kvs k).isSome)) h
      | none => .no
    | _ => .no
  | _ => .no
def rEqP (K : PySem.W.Frag) (neg : Bool) : R2 := fun x y H Q => ∃ d e, Dp K H x d ∧ Dp K H y e ∧ d.plain = true ∧ e.plain = true ∧ d.depth ≤ 60 ∧ Q (.bl (neg != PyData.eqv d e)) H
def rInP (K : PySem.W.Frag) (neg : Bool) : R2 := fun x y H Q => (∃ d es, Dp K H x d ∧ (Dp K H y (.list es) ∨ Dp K H y (.tuple es)) ∧ d.plain = true ∧ PyData.plainAll es = true ∧ d.depth ≤ 60 ∧ Q (.bl (neg != es.any fun e => PyData.eqv e d)) H) ∨
  ∃ a o, y = .ref a ∧ DGet H a x o ∧ Q (.bl (neg != o.isSome)) H
section
variable {X : Cx} {E : XK} {c : Cm}
theorem opr_eq (hu : X.A.units + 64 < cLine) : OpR X (compareOp .Eq) (rEqP X.K false) := fun pins s σ H x y v u Q I rx ry ⟨d, e, hd, he, pd, pe, dd, q⟩ => by
  obtain ⟨as, r1⟩ := Dp.reads I d x v hd rx
  obtain ⟨bs, r2⟩ := Dp.reads I e y u he ry
  exact SeqAt.eq_plain r1 r2 pd pe (by omega) ⟨.bl _, H, I, rfl, by simpa using q⟩
theorem opr_ne (hu : X.A.units + 64 < cLine) : OpR X (compareOp .NotEq) (rEqP X.K true) := fun pins s σ H x y v u Q I rx ry ⟨d, e, hd, he, pd, pe, dd, q⟩ => by
  obtain ⟨as, r1⟩ := Dp.reads I d x v hd rx
  obtain ⟨bs, r2⟩ := Dp.reads I e y u he ry
  exact SeqAt.ne_plain r1 r2 pd pe (by omega) ⟨.bl _, H, I, rfl, by simpa using q⟩
theorem opr_in (hu : X.A.units + 64 < cLine) : OpR X (compareOp .In) (rInP X.K false) := fun pins s σ H x y v u Q I rx ry h => by
  rcases h with ⟨d, es, hd, he, pd, pe, dd, q⟩ | ⟨a, o, rfl, g, q⟩
  · obtain ⟨as, r1⟩ := Dp.reads I d x v hd rx
    rcases he with he | he
    · obtain ⟨bs, r2⟩ := Dp.reads I _ y u he ry
      exact SeqAt.in_list_data r2 r1 pe pd (by omega) ⟨.bl _, H, I, rfl, by simpa using q⟩
    · obtain ⟨bs, r2⟩ := Dp.reads I _ y u he ry
      exact SeqAt.in_tuple_data r2 r1 pe pd (by omega) ⟨.bl _, H, I, rfl, by simpa using q⟩
  · cases ry
    exact d_in (by omega) I g rx fun s' I' => ⟨.bl _, H, I', rfl, by simpa using q⟩
theorem opr_notIn (hu : X.A.units + 64 < cLine) : OpR X (compareOp .NotIn) (rInP X.K true) := fun pins s σ H x y v u Q I rx ry h => by
  rcases h with ⟨d, es, hd, he, pd, pe, dd, q⟩ | ⟨a, o, rfl, g, q⟩
  · obtain ⟨as, r1⟩ := Dp.reads I d x v hd rx
    rcases he with he | he
    · obtain ⟨bs, r2⟩ := Dp.reads I _ y u he ry
      exact SeqAt.notIn_list_data r2 r1 pe pd (by omega) ⟨.bl _, H, I, rfl, by simpa using q⟩
    · obtain ⟨bs, r2⟩ := Dp.reads I _ y u he ry
      exact SeqAt.notIn_tuple_data r2 r1 pe pd (by omega) ⟨.bl _, H, I, rfl, by simpa using q⟩
  · cases ry
    exact d_notIn (by omega) I g rx fun s' I' => ⟨.bl _, H, I', rfl, by simpa using q⟩
theorem opm_eq {neg : Bool} : OpM c (rEqP c.K neg) (oEq neg) := fun x y h ms vx vy H Q rh rx ry p => by
  unfold oEq at p
  split at p
  · rename_i d e e1 e2
    have z1 := pyd_ok _ _ _ e1
    exact ⟨d, e, pyd_dp rh _ _ _ _ e1 rx, pyd_dp rh _ _ _ _ e2 ry, z1.1, (pyd_ok _ _ _ e2).1, z1.2, Pg.here rh p _ rv_bl⟩
  · exact p.elim
theorem om_eq (hu : X.A.units + 64 < cLine) : OpR X (compareOp .Eq) (rEqP X.K false) ∧ OpM (cm X E) (rEqP X.K false) (oEq false) := ⟨opr_eq hu, opm_eq⟩
theorem om_ne (hu : X.A.units + 64 < cLine) : OpR X (compareOp .NotEq) (rEqP X.K true) ∧ OpM (cm X E) (rEqP X.K true) (oEq true) := ⟨opr_ne hu, opm_eq⟩
theorem LkD.get {H : Hp} {lk : Bool} {a : Addr} {ws : List (Key × V)} (e : LkD H HO.dK lk a ws) (k : Key) : DGet H a (kV k) (valV ws k) := .inl ⟨ws, k, e.rd, rfl, rfl⟩
theorem opm_in {neg : Bool} : OpM c (rInP c.K neg) (oIn neg) := fun x y h ms vx vy H Q rh rx ry p => by
  unfold oIn at p
  cases y with
  | tup ys =>
    simp only at p
    split at p
    · rename_i d es e1 e2
      have z1 := pyd_ok _ _ _ e1
      obtain ⟨a, vs, rfl, q, r⟩ := ry.tup
      exact .inl ⟨d, es, pyd_dp rh _ _ _ _ e1 rx, .inr (.tup q (pydL_dp (fun d p v => pyd_dp rh _ d p v) e2 r)), z1.1, (pydL_all (fun d p => pyd_ok _ d p) e2).1, z1.2, Pg.here rh p _ rv_bl⟩
    · exact p.elim
  | rol ys =>
    simp only at p
    split at p
    · rename_i d es e1 e2
      have z1 := pyd_ok _ _ _ e1
      rw [RV] at ry
      obtain ⟨a, vs, rfl, q, r⟩ := ry
      exact .inl ⟨d, es, pyd_dp rh _ _ _ _ e1 rx, .inl (.lst (q H (Stb.refl H)) (pydL_dp (fun d p v => pyd_dp rh _ d p v) e2 r)), z1.1, (pydL_all (fun d p => pyd_ok _ d p) e2).1, z1.2, Pg.here rh p _ rv_bl⟩
    · exact p.elim
  | ref n =>
    obtain ⟨a, rfl, ea⟩ := ry.refd
    simp only at p
    split at p
    · rename_i ys en
      split at p
      · rename_i d es e1 e2
        have z1 := pyd_ok _ _ _ e1
        obtain ⟨vs, q, r⟩ := rh.lst en ea
        exact .inl ⟨d, es, pyd_dp rh _ _ _ _ e1 rx, .inl (.lst (.inl (.inl q)) (pydL_dp (fun d p v => pyd_dp rh _ d p v) e2 r)), z1.1, (pydL_all (fun d p => pyd_ok _ d p) e2).1, z1.2, Pg.here rh p _ rv_bl⟩
      · exact p.elim
    · rename_i lk kvs en
      split at p
      · rename_i k ek
        obtain ⟨ws, q, r⟩ := rh.dic en ea
        refine .inr ⟨a, valV ws k, rfl, by rw [rv_dKey ek rx]; exact q.get k, ?_⟩
        rw [r.isSome]
        exact Pg.here rh p _ rv_bl
      · exact p.elim
    · exact p.elim
  | non => exact p.elim
  | bl b => exact p.elim
  | int i => exact p.elim
  | str x => exact p.elim
theorem om_in (hu : X.A.units + 64 < cLine) : OpR X (compareOp .In) (rInP X.K false) ∧ OpM (cm X E) (rInP X.K false) (oIn false) := ⟨opr_in hu, opm_in⟩
theorem om_notin (hu : X.A.units + 64 < cLine) : OpR X (compareOp .NotIn) (rInP X.K true) ∧ OpM (cm X E) (rInP X.K true) (oIn true) := ⟨opr_notIn hu, opm_in⟩
end
end PM

namespace PM
open PySem L2

/-! ### subscripts -/
def oIx : D → D → AH → R D := fun x y h => match x with
  | .tup xs => match y with
    | .int i => match atI xs i with
      | some d => .ok d h
      | none => .no
    | _ => .no
  | .rol xs => match y with
    | .int i => match atI xs i with
      | some d => .ok d h
      | none => .no
    | _ => .no
  | .str z => match y with
    | .int i => if z.length ≤ sizeLine then match atI z.cps.toList i with
        | some c => .ok (.str ⟨#[c]⟩) h
        | none => .no
      else .no
    | _ => .no
  | .ref n => match h[n]? with
    | some (.lst xs) => match y with
      | .int i => match atI xs i with
        | some d => .ok d h
        | none => .no
      | _ => .no
    | some (.dic _ kvs) => match dKey y with
      | some k => match gtD kvs k with
        | some d => .ok d h
        | none => .no
      | none => .no
    | _ => .no
  | _ => .no
def rIxAll (K : PySem.W.Frag) : R2 := rOr (rIx K) fun x y H Q => ∃ a v, x = .ref a ∧ DGet H a y (some v) ∧ Q v H
section
variable {K : PySem.W.Frag} {ms : List Addr} {H : Hp}
theorem RVs.atI {ds : List D} {vs : List V} {i : Int} {d : D} (r : RVs K ms H ds vs) (e : L2.atI ds i = Option.some d) : ∃ v, L2.atI vs i = Option.some v ∧ RV K ms H d v := by
  unfold L2.atI at e ⊢
  rw [r.length]
  cases q : ixN ds.length i with
  | none => rw [q] at e; cases e
  | some j =>
    rw [q] at e
    exact r.get e
end
section
variable {X : Cx} {E : XK} {c : Cm}
theorem ixr_all (hu : X.A.units + 64 < cLine) : IxR X (rIxAll X.K) := fun value slice pins s σ H x y v u Q I rx ry q hs => by
  rcases q with q | ⟨a, w, rfl, g, q⟩
  · exact ix_seq value slice pins s σ H x y v u Q I rx ry q hs
  · cases rx
    exact PyProof.Rows.tail_any (dict_typeIs I g) PySem.F.slot_dict_getitem.lookup (d_getItem (by omega) I g ry fun w' s3 I3 rw' => ⟨w, H, I3, rw', q⟩) hs
theorem opm_ix : OpM c (rIxAll c.K) oIx := fun x y h ms vx vy H Q rh rx ry p => by
  unfold oIx at p
  cases x with
  | tup xs =>
    simp only at p
    split at p
    · split at p
      · obtain ⟨a, vs, rfl, q, r⟩ := rx.tup
        obtain ⟨v, e, rv⟩ := r.atI ‹_›
        exact .inl (.inr (.inl ⟨a, vs, _, v, rfl, ry.int, q, e, Pg.here rh p _ rv⟩))
      · exact p.elim
    · exact p.elim
  | rol xs =>
    simp only at p
    split at p
    · split at p
      · rw [RV] at rx
        obtain ⟨a, vs, rfl, q, r⟩ := rx
        obtain ⟨v, e, rv⟩ := r.atI ‹_›
        exact .inl (.inl ⟨a, vs, _, v, rfl, ry.int, q H (Stb.refl H), e, Pg.here rh p _ rv⟩)
      · exact p.elim
    · exact p.elim
  | str z =>
    simp only at p
    split at p
    · split at p
      · split at p
        · exact .inl (.inr (.inr ⟨z, _, _, rx.str, ry.int, ‹_›, ‹_›, Pg.here rh p _ rv_str⟩))
        · exact p.elim
      · exact p.elim
    · exact p.elim
  | ref n =>
    obtain ⟨a, rfl, ea⟩ := rx.refd
    simp only at p
    split at p
    · rename_i xs en
      split at p
      · split at p
        · obtain ⟨vs, q, r⟩ := rh.lst en ea
          obtain ⟨v, e, rv⟩ := r.atI ‹_›
          exact .inl (.inl ⟨a, vs, _, v, rfl, ry.int, .inl (.inl q), e, Pg.here rh p _ rv⟩)
        · exact p.elim
      · exact p.elim
    · rename_i lk kvs en
      split at p
      · rename_i k ek
        split at p
        · rename_i d ed
          obtain ⟨ws, q, r⟩ := rh.dic en ea
          obtain ⟨v, e, rv⟩ := r.some ed
          refine .inr ⟨a, v, rfl, ?_, Pg.here rh p _ rv⟩
          rw [rv_dKey ek ry, ← e]
          exact q.get k
        · exact p.elim
      · exact p.elim
    · exact p.elim
  | non => exact p.elim
  | bl b => exact p.elim
  | int i => exact p.elim
theorem ed_ix {a b : Expr} {fa fb : EM} {pos : Pos} (hu : X.A.units + 64 < cLine) (ha : ED X E a fa) (hb : ED X E b fb) (hs : PlainIx b) : ED X E (.Subscript a b pos) (eOp oIx fa fb) := by
  obtain ⟨ta, pa, ea⟩ := ha
  obtain ⟨tb, pb, eb⟩ := hb
  exact ⟨_, pe_ix (ixr_all hu) pa pb hs, evm_op (c := cm X E) opm_ix ea eb⟩
end
/-! ### stores -/
def gmSub (o i : EM) : GM := fun v env h => (o env h).bind fun x h1 => (i env h1).bind fun y h2 => match x with
  | .ref n => match h2[n]? with
    | some (.lst xs) => match y with
      | .int k => match ixN xs.length k with
        | some j => .ok env (h2.set n (.lst (xs.set j v)))
        | none => .no
      | _ => .no
    | some (.dic false kvs) => match dKey y with
      | some k => if kvs.length < sizeLine then .ok env (h2.set n (.dic false (ptD kvs k v))) else .no
      | none => .no
    | _ => .no
  | _ => .no
def tsAll : TSet := fun o i v H Q => rSetL o i v H Q ∨ rSetD o i v H Q
section
variable {X : Cx} {E : XK}
theorem pset_all (hu : X.A.units + 64 < cLine) : PSet X tsAll := fun pins s σ H o i v ov iv u Q I ro ri rv h =>
  h.elim (fun h => set_list pins s σ H o i v ov iv u Q I ro ri rv h) (fun h => set_dict (by omega) pins s σ H o i v ov iv u Q I ro ri rv h)
theorem gd_sub {o i : Expr} {fo fi : EM} {pos : Pos} (hu : X.A.units + 64 < cLine) (ho : ED X E o fo) (hi : ED X E i fi) (ha : ∀ v, assign (.Subscript o i pos) X.env v = (do
      let ov ← holding [v] (eval o X.env)
      let iv ← holding [v, ov] (eval i X.env)
      standAt pos
      holding [v, ov, iv] (setItem ov iv v)
      release [v, ov, iv] []) := by intro _; rfl) : GD X E (.Subscript o i pos) (gmSub fo fi) := by
  obtain ⟨to, po, eo⟩ := ho
  obtain ⟨ti, pi, ei⟩ := hi
  refine ⟨_, pg_sub po pi (pset_all hu) ha, fun d env h ms σ H v Q re rh rv p => ?_⟩
  refine eo env h ms σ H _ re rh (Pg.bind (fun x h1 ms1 H1 s1 rh1 p1 vx rx => ei env h1 ms1 σ H1 _ (re.step s1) rh1 (Pg.bind (fun y h2 ms2 H2 s2 rh2 p2 vy ry => ?_) p1)) p)
  have rv2 := rv.step (s1.trans s2)
  have rx2 := rx.step s2
  have re2 := re.step (s1.trans s2)
  split at p2
  · rename_i n
    obtain ⟨a, rfl, ea⟩ := rx2.refd
    split at p2
    · rename_i xs en
      split at p2
      · split at p2
        · rename_i k _ j ej
          obtain ⟨vs, q, r⟩ := rh2.lst en ea
          obtain ⟨s3, rh3⟩ := rh2.put (u := .lst (vs.set j v)) (o := .lst (xs.set j d)) ea (by rw [q]; exact True.intro) ⟨vs.set j v, upd_same, RVs.stb (Stb.wr (by rw [q]; exact True.intro)) (r.set rv2 j)⟩
          exact .inl ⟨a, vs, k, j, rfl, ry.int, q, by rw [r.length]; exact ej, p2 _ _ s3 rh3 σ (re2.step s3)⟩
        · exact p2.elim
      · exact p2.elim
    · rename_i kvs en
      split at p2
      · rename_i k ek
        split at p2
        · obtain ⟨ws, q, r⟩ := rh2.dic en ea
          unfold LkD at q
          rw [if_neg Bool.false_ne_true] at q
          obtain ⟨s3, rh3⟩ := rh2.put (u := .dK (putK ws k v)) (o := .dic false (ptD kvs k d)) ea (by rw [q]; exact True.intro) ⟨putK ws k v, by unfold LkD; rw [if_neg Bool.false_ne_true]; exact upd_same, RKs.stb (Stb.wr (by rw [q]; exact True.intro)) (r.put rv2)⟩
          refine .inr ⟨a, _, rfl, .inl ⟨ws, k, q, rv_dKey ek ry, by rw [r.length]; assumption, rfl⟩, p2 _ _ s3 rh3 σ (re2.step s3)⟩
        · exact p2.elim
      · exact p2.elim
    · exact p2.elim
  · exact p2.elim
end
/-! ### slices -/
abbrev OM := Env → AH → R (Option Int)
def oNone : OM := fun _ h => .ok none h
def oSome (a : EM) : OM := fun env h => (a env h).bind fun d h1 => match d with
  | .int i => .ok (some i) h1
  | _ => .no
def EvO (c : Cm) (t : TO) (f : OM) : Prop := ∀ env h ms σ H Q, RE c.K ms H env σ → RH c.K c.mg ms H h → Pg c ms H (fun o _ H' => Q o H') (f env h) → t σ H Q
def OD (X : Cx) (E : XK) (e : Option Expr) (f : OM) : Prop := ∃ t, PO X e t ∧ EvO (cm X E) t f
def cutD {α : Type} (xs : List α) (lo hi : Option Int) : List α := (xs.drop (HT.sIx xs.length 0 lo)).take (HT.sIx xs.length xs.length hi - HT.sIx xs.length 0 lo)
def oSl (x : D) (lo hi : Option Int) : AH → R D := fun h => match x with
  | .tup xs => .ok (.tup (cutD xs lo hi)) h
  | .rol xs => .ok (.ref h.length) (h ++ [.lst (cutD xs lo hi)])
  | .str z => if z.length ≤ sizeLine then .ok (.str (cutS z lo hi)) h else .no
  | .ref n => match h[n]? with
    | some (.lst xs) => .ok (.ref h.length) (h ++ [.lst (cutD xs lo hi)])
    | _ => .no
  | _ => .no
def eSl (a : EM) (lo hi : OM) : EM := fun env h => (a env h).bind fun x h1 => (lo env h1).bind fun l h2 => (hi env h2).bind fun u h3 => oSl x l u h3
section
variable {X : Cx} {E : XK} {c : Cm}
theorem od_none : OD X E none oNone := ⟨_, po_none, fun env h ms σ H Q re rh p => Pg.here (P := fun o _ H' => Q o H') rh p⟩
theorem od_some {e : Expr} {f : EM} (he : ED X E e f) : OD X E (some e) (oSome f) := by
  obtain ⟨t, pt, et⟩ := he
  refine ⟨_, po_some pt, fun env h ms σ H Q re rh p => et env h ms σ H _ re rh (Pg.bind (fun d h1 ms1 H1 s1 rh1 p1 v r => ?_) p)⟩
  split at p1
  · exact ⟨_, r.int, Pg.here (P := fun o _ H' => Q o H') rh1 p1⟩
  · exact p1.elim
theorem RVs.cut {K : PySem.W.Frag} {ms : List Addr} {H : Hp} {ds : List D} {vs : List V} (r : RVs K ms H ds vs) (lo hi : Option Int) : RVs K ms H (cutD ds lo hi) (cutV vs lo hi) := by
  unfold cutD cutV
  rw [r.length]
  exact (r.drop _).take _
theorem cut_whole {α : Type} {xs : List α} {lo hi : Option Int} (h1 : HT.sIx xs.length 0 lo = 0) (h2 : HT.sIx xs.length xs.length hi = xs.length) : cutD xs lo hi = xs := by
  unfold cutD
  rw [h1, h2]
  simp
theorem ed_sl {a : Expr} {lo hi : Option Expr} {fa : EM} {l u : OM} {pos p2 : Pos} (ha : ED X E a fa) (hl : OD X E lo l) (hh : OD X E hi u) : ED X E (.Subscript a (.Slice lo hi none p2) pos) (eSl fa l u) := by
  obtain ⟨ta, pa, ea⟩ := ha
  obtain ⟨tl, pl, el⟩ := hl
  obtain ⟨th, ph, eh⟩ := hh
  refine ⟨_, pe_slice (SlR.or (sl_tupA (X := X)) (SlR.or (sl_list (X := X)) (sl_str (X := X)))) pa pl ph, fun env h ms σ H Q re rh p => ?_⟩
  refine ea env h ms σ H _ re rh (Pg.bind (fun x h1 ms1 H1 s1 rh1 p1 vx rx => el env h1 ms1 σ H1 _ (re.step s1) rh1 (Pg.bind (fun lo h2 ms2 H2 s2 rh2 p2 => eh env h2 ms2 σ H2 _ (re.step (s1.trans s2)) rh2 (Pg.bind (fun hi h3 ms3 H3 s3 rh3 p3 => ?_) p2)) p1)) p)
  have rx3 := rx.step (s2.trans s3)
  unfold oSl at p3
  cases x with
  | tup xs =>
    obtain ⟨a, vs, rfl, q, r⟩ := rx3.tup
    refine .inl ⟨a, vs, rfl, q, fun ⟨e1, e2⟩ => Pg.here rh3 p3 _ ?_, fun _ => new_tup rh3 (r.cut lo hi) p3⟩
    rw [r.length] at e1 e2
    rw [cut_whole e1 e2, RV]
    exact ⟨a, vs, rfl, q, r⟩
  | rol xs =>
    rw [RV] at rx3
    obtain ⟨a, vs, rfl, q, r⟩ := rx3
    exact .inr (.inl ⟨a, vs, rfl, q H3 (Stb.refl _), new_lst rh3 (r.cut lo hi) p3⟩)
  | str z =>
    simp only at p3
    split at p3
    · exact .inr (.inr ⟨z, rx3.str, ‹_›, Pg.here rh3 p3 _ rv_str⟩)
    · exact p3.elim
  | ref n =>
    obtain ⟨a, rfl, e1⟩ := rx3.refd
    simp only at p3
    split at p3
    · rename_i xs en
      obtain ⟨vs, q, r⟩ := rh3.lst en e1
      exact .inr (.inl ⟨a, vs, rfl, .inl (.inl q), new_lst rh3 (r.cut lo hi) p3⟩)
    · exact p3.elim
  | non => exact p3.elim
  | bl b => exact p3.elim
  | int i => exact p3.elim
end
/-! ### calls of built-ins -/
def eCallB (a : AM) (op : List D → AH → R D) : EM := fun env h => (a env h).bind op
def CalM (c : Cm) (r : List V → Hp → VK → Prop) (op : List D → AH → R D) : Prop := ∀ ds h ms vs H Q, RH c.K c.mg ms H h → RVs c.K ms H ds vs → Pg c ms H (PV c Q) (op ds h) → r vs H Q
section
variable {X : Cx} {E : XK} {c : Cm} {x : Str} {e : Expr} {es : List Expr} {p pos : Pos} {n : Nat} {g : AM} {op : List D → AH → R D} {r : List V → Hp → VK → Prop}
theorem ed_callB {id : String} (ho : CallR X (.builtin id) r ∧ CalM (cm X E) r op) (hg : Gl X x) (hm : X.mg x = none) (hv : bootBuiltins x = some (.builtin id)) (ha : AD X E n (e :: es) g) (hn : x ≠ "__name__" := by decide) (hdb : (x == ("__debug__" : Str)) = false := by decide)
    (he : starEach (e :: es) X.env = (false, eval e X.env) :: starEach es X.env := by rfl) (hpl : (backTo pos (starEach es X.env)).any (·.1) = false := by rfl) : ED X E (.Call (.Name x p) (e :: es) [] pos) (eCallB g op) := by
  obtain ⟨t, pt, _, et⟩ := ha
  exact ⟨_, pe_callB ho.1 hg hm hv pt hn hdb he hpl, fun env h ms σ H Q re rh p => et env h ms σ H _ re rh (Pg.bind (fun ds h1 ms1 H1 s1 rh1 p1 vs rs => ho.2 ds h1 ms1 vs H1 Q rh1 rs p1) p)⟩
theorem ed_callT {T : String} (ho : CallR X (.type T) r ∧ CalM (cm X E) r op) (hg : Gl X x) (hm : X.mg x = none) (hv : bootBuiltins x = some (.type T)) (ha : AD X E n (e :: es) g) (hn : x ≠ "__name__" := by decide) (hdb : (x == ("__debug__" : Str)) = false := by decide)
    (he : starEach (e :: es) X.env = (false, eval e X.env) :: starEach es X.env := by rfl) (hpl : (backTo pos (starEach es X.env)).any (·.1) = false := by rfl) : ED X E (.Call (.Name x p) (e :: es) [] pos) (eCallB g op) := by
  obtain ⟨t, pt, _, et⟩ := ha
  exact ⟨_, pe_callTy ho.1 hg hm hv pt hn hdb he hpl, fun env h ms σ H Q re rh p => et env h ms σ H _ re rh (Pg.bind (fun ds h1 ms1 H1 s1 rh1 p1 vs rs => ho.2 ds h1 ms1 vs H1 Q rh1 rs p1) p)⟩
theorem RVs.one {K : PySem.W.Frag} {ms : List Addr} {H : Hp} {d : D} {vs : List V} (r : RVs K ms H [d] vs) : ∃ v, vs = [v] ∧ RV K ms H d v := by
  rw [RVs] at r
  obtain ⟨v, w, rfl, a, b⟩ := r
  rw [RVs] at b
  exact ⟨v, by rw [b], a⟩
theorem RVs.two {K : PySem.W.Frag} {ms : List Addr} {H : Hp} {d d2 : D} {vs : List V} (r : RVs K ms H [d, d2] vs) : ∃ v w, vs = [v, w] ∧ RV K ms H d v ∧ RV K ms H d2 w := by
  rw [RVs] at r
  obtain ⟨v, w, rfl, a, b⟩ := r
  obtain ⟨w2, rfl, b2⟩ := b.one
  exact ⟨v, w2, rfl, a, b2⟩
def oLen : List D → AH → R D := fun ds h => match ds with
  | [.str z] => if z.length ≤ sizeLine then .ok (.int z.length) h else .no
  | [.tup xs] => .ok (.int xs.length) h
  | [.rol xs] => .ok (.int xs.length) h
  | [.ref n] => match h[n]? with
    | some (.lst xs) => .ok (.int xs.length) h
    | some (.dic _ kvs) => .ok (.int kvs.length) h
    | _ => .no
  | _ => .no
def rLenAll (K : PySem.W.Frag) : List V → Hp → VK → Prop := fun xs H Q => (∃ x n, xs = [x] ∧ LenV K x H n ∧ Q (.int n) H) ∨ ∃ (a : Addr) (kvs : List (Key × V)), xs = [.ref a] ∧ Rd H a (.dK kvs) ∧ Q (.int kvs.length) H
theorem cr_lenD : CallR X (.builtin "len") (fun xs H Q => ∃ (a : Addr) (kvs : List (Key × V)), xs = [.ref a] ∧ Rd H a (.dK kvs) ∧ Q (.int kvs.length) H) := fun pins s σ H xs us Q I r ⟨a, kvs, e, hd, q⟩ => by
  subst e
  obtain ⟨u, rfl, rx⟩ := vals1 r
  cases rx
  exact d_len I hd fun t s' I' => ⟨.int _, H, I', ⟨t, rfl⟩, q⟩
theorem om_len : CallR X (.builtin "len") (rLenAll X.K) ∧ CalM (cm X E) (rLenAll X.K) oLen :=
  ⟨CallR.or call_len cr_lenD, fun ds h ms vs H Q rh rs p => by
    unfold oLen at p
    split at p
    · split at p
      · obtain ⟨v, rfl, r⟩ := rs.one
        rw [r.str]
        exact .inl ⟨_, _, rfl, ⟨‹_›, rfl⟩, Pg.here rh p _ rv_int⟩
      · exact p.elim
    · obtain ⟨v, rfl, r⟩ := rs.one
      obtain ⟨a, vs, rfl, q, r⟩ := r.tup
      exact .inl ⟨_, _, rfl, .inr ⟨vs, q, r.length.symm⟩, Pg.here rh p _ rv_int⟩
    · obtain ⟨v, rfl, r⟩ := rs.one
      rw [RV] at r
      obtain ⟨a, vs, rfl, q, r⟩ := r
      exact .inl ⟨_, _, rfl, .inl ⟨vs, q H (Stb.refl H), r.length.symm⟩, Pg.here rh p _ rv_int⟩
    · obtain ⟨v, rfl, r⟩ := rs.one
      obtain ⟨a, rfl, ea⟩ := r.refd
      split at p
      · obtain ⟨vs, q, r⟩ := rh.lst ‹_› ea
        exact .inl ⟨_, _, rfl, .inl ⟨vs, .inl (.inl q), r.length.symm⟩, Pg.here rh p _ rv_int⟩
      · obtain ⟨ws, q, r⟩ := rh.dic ‹_› ea
        exact .inr ⟨_, ws, rfl, q.rd, by rw [r.length]; exact Pg.here rh p _ rv_int⟩
      · exact p.elim
    · exact p.elim⟩
def oInt1 : List D → AH → R D := fun ds h => match ds with
  | [.int i] => .ok (.int i) h
  | _ => .no
theorem om_int : CallR X (.type "int") (fun xs H Q => (∃ i, xs = [.int i] ∧ Q (.int i) H) ∨ ∃ k, xs = [.bl k] ∧ Q (.int (if k then 1 else 0)) H) ∧ CalM (cm X E) (fun xs H Q => (∃ i, xs = [.int i] ∧ Q (.int i) H) ∨ ∃ k, xs = [.bl k] ∧ Q (.int (if k then 1 else 0)) H) oInt1 :=
  ⟨call_int1, fun ds h ms vs H Q rh rs p => by
    unfold oInt1 at p
    split at p
    · exact .inl ⟨_, rs.int1, Pg.here rh p _ rv_int⟩
    · exact p.elim⟩
/-- the items of a list, a tuple, a dict's keys -/
def seqD : D → AH → Option (List D) := fun d h => match d with
  | .tup xs => some xs
  | .rol xs => some xs
  | .ref n => match h[n]? with
    | some (.lst xs) => some xs
    | some (.dic _ kvs) => some (kvs.map fun p => keyD p.1)
    | _ => none
  | _ => none
def oList : List D → AH → R D := fun ds h => match ds with
  | [d] => match seqD d h with
    | some xs => .ok (.ref h.length) (h ++ [.lst xs])
    | none => .no
  | _ => .no
def rListAll (K : PySem.W.Frag) : List V → Hp → VK → Prop := fun xs H Q => (∃ p ys, xs = [.ref p] ∧ (SqL K H p ys ∨ SqT K H p ys) ∧ ∀ l, H l = none → Q (.ref l) (upd H l (.lst ys))) ∨ (∃ (a : Addr) (kvs : List (Key × V)), xs = [.ref a] ∧ Rd H a (.dK kvs) ∧ ∀ p, H p = none → Q (.ref p) (upd H p (.lst (kvs.map fun kv => kV kv.1))))
theorem RKs.keyVs {K : PySem.W.Frag} {ms : List Addr} {H : Hp} : ∀ {kvs : List (Key × D)} {ws : List (Key × V)}, RKs K ms H kvs ws → RVs K ms H (kvs.map fun p => keyD p.1) (ws.map fun p => kV p.1)
  | [], _, h => by have e : _ = [] := h; subst e; exact .nil
  | (j, d) :: kvs, _, h => by
    obtain ⟨v, r, rfl, a, b⟩ := h
    exact .cons (keyD_rv j) b.keyVs
theorem om_list (hc : X.calm = true) : CallR X (.type "list") (rListAll X.K) ∧ CalM (cm X E) (rListAll X.K) oList :=
  ⟨CallR.or call_list_of (call_listD hc), fun ds h ms vs H Q rh rs p => by
    unfold oList at p
    split at p
    · rename_i d
      obtain ⟨v, rfl, r⟩ := rs.one
      split at p
      · rename_i xs ex
        unfold seqD at ex
        split at ex
        · cases ex
          obtain ⟨a, vs, rfl, q, r⟩ := r.tup
          exact .inl ⟨a, vs, rfl, .inr q, new_lst rh r p⟩
        · cases ex
          rw [RV] at r
          obtain ⟨a, vs, rfl, q, r⟩ := r
          exact .inl ⟨a, vs, rfl, .inl (q H (Stb.refl H)), new_lst rh r p⟩
        · obtain ⟨a, rfl, ea⟩ := r.refd
          split at ex
          · cases ex
            obtain ⟨vs, q, r⟩ := rh.lst ‹_› ea
            exact .inl ⟨a, vs, rfl, .inl (.inl (.inl q)), new_lst rh r p⟩
          · cases ex
            obtain ⟨ws, q, r⟩ := rh.dic ‹_› ea
            exact .inr ⟨a, ws, rfl, q.rd, new_lst rh r.keyVs p⟩
          · cases ex
        · cases ex
      · exact p.elim
    · exact p.elim⟩
def oTuple : List D → AH → R D := fun ds h => match ds with
  | [.tup xs] => .ok (.tup xs) h
  | [.rol xs] => .ok (.tup xs) h
  | [.ref n] => match h[n]? with
    | some (.lst xs) => .ok (.tup xs) h
    | _ => .no
  | _ => .no
theorem om_tuple : CallR X (.type "tuple") (fun xs H Q => ∃ p ys, xs = [.ref p] ∧ ((SqL X.K H p ys ∧ ∀ l, H l = none → Q (.ref l) (upd H l (.tup ys))) ∨ (SqT X.K H p ys ∧ Q (.ref p) H))) ∧
    CalM (cm X E) (fun xs H Q => ∃ p ys, xs = [.ref p] ∧ ((SqL X.K H p ys ∧ ∀ l, H l = none → Q (.ref l) (upd H l (.tup ys))) ∨ (SqT X.K H p ys ∧ Q (.ref p) H))) oTuple :=
  ⟨call_tuple_of, fun ds h ms vs H Q rh rs p => by
    unfold oTuple at p
    split at p
    · obtain ⟨v, rfl, r0⟩ := rs.one
      obtain ⟨a, vs, rfl, q, r⟩ := r0.tup
      exact ⟨a, vs, rfl, .inr ⟨q, Pg.here rh p _ r0⟩⟩
    · obtain ⟨v, rfl, r⟩ := rs.one
      rw [RV] at r
      obtain ⟨a, vs, rfl, q, r⟩ := r
      exact ⟨a, vs, rfl, .inl ⟨q H (Stb.refl H), new_tup rh r p⟩⟩
    · obtain ⟨v, rfl, r⟩ := rs.one
      obtain ⟨a, rfl, ea⟩ := r.refd
      split at p
      · obtain ⟨vs, q, r⟩ := rh.lst ‹_› ea
        exact ⟨a, vs, rfl, .inl ⟨.inl (.inl q), new_tup rh r p⟩⟩
      · exact p.elim
    · exact p.elim⟩
end
end PM

namespace PM
open PySem L2

/-! ### x is True, x is False -/
def isBD (x : D) (b : Bool) : Bool := match x with
  | .bl c => c == b
  | _ => false
def rIsB (neg : Bool) : R2 := fun x y H Q => ∃ b, y = .bl b ∧ Q (.bl (neg != decide (x = .bl b))) H
theorem isB_m {x : D} {K : PySem.W.Frag} {ms : List Addr} {H : Hp} {v : V} {b : Bool} (r : RV K ms H x v) : decide (v = .bl b) = isBD x b := by
  cases x with
  | non => rw [r.non]; rfl
  | bl c => rw [r.bl]; cases c <;> cases b <;> rfl
  | int i => rw [r.int]; rfl
  | str i => rw [r.str]; rfl
  | tup i => obtain ⟨a, vs, rfl, _⟩ := r.tup; rfl
  | rol i => rw [RV] at r; obtain ⟨a, vs, rfl, _⟩ := r; rfl
  | ref i => obtain ⟨a, rfl, _⟩ := r.refd; rfl
section
variable {X : Cx} {E : XK} {c : Cm}
theorem same_bl {M : Model} {A : Around} {E : Value → Shared → Prop} {s : Shared} {x : V} {u : Value} {b : Bool} {Q : Bool → Shared → Prop} (r : RelV x u) (hx : ∀ n, x ≠ .ty n) (q : Q (decide (x = .bl b)) s) : wpAny M A (isSame u (.bool b)) Q E s := by
  cases x with
  | bl c => cases r; exact wpAny_isSame_plain rfl (by cases c <;> cases b <;> exact q)
  | ref a => cases r; exact wpAny_isSame_plain rfl q
  | non => cases r; exact wpAny_isSame_plain rfl q
  | int i => obtain ⟨t, rfl⟩ := r; exact wpAny_isSame_plain rfl q
  | str i => obtain ⟨t, rfl⟩ := r; exact wpAny_isSame_plain rfl q
  | byt i => obtain ⟨t, rfl⟩ := r; exact wpAny_isSame_plain rfl q
  | flt i => obtain ⟨t, rfl⟩ := r; exact wpAny_isSame_plain rfl q
  | ty n => exact absurd rfl (hx n)
def rIsB' (neg : Bool) : R2 := fun x y H Q => (∀ n, x ≠ .ty n) ∧ rIsB neg x y H Q
theorem opr_isB : OpR X (compareOp .Is) (rIsB' false) := fun pins s σ H x y v u Q I rx ry ⟨hx, b, e, q⟩ => by
  subst e
  cases ry
  exact wpAny_bind (m := isSame v (.bool b)) (same_bl rx hx (wpAny_pure (fin_bl I q (by simp))))
theorem opr_isntB : OpR X (compareOp .IsNot) (rIsB' true) := fun pins s σ H x y v u Q I rx ry ⟨hx, b, e, q⟩ => by
  subst e
  cases ry
  exact wpAny_bind (m := isSame v (.bool b)) (same_bl rx hx (wpAny_pure (fin_bl I q (by simp))))
def oB1 (neg : Bool) : D → D → AH → R D := fun x y h => match y with
  | .bl b => .ok (.bl (neg != isBD x b)) h
  | _ => .no
theorem opm_isB {neg : Bool} : OpM c (rIsB' neg) (oB1 neg) := fun x y h ms vx vy H Q rh rx ry p => by
  unfold oB1 at p
  split at p
  · rename_i b
    refine ⟨fun n e => ?_, b, ry.bl, ?_⟩
    · subst e
      cases x with
      | non => cases rx.non
      | bl c => cases rx.bl
      | int i => cases rx.int
      | str i => cases rx.str
      | tup i => obtain ⟨a, vs, e, _⟩ := rx.tup; cases e
      | rol i => rw [RV] at rx; obtain ⟨a, vs, e, _⟩ := rx; cases e
      | ref i => obtain ⟨a, e, _⟩ := rx.refd; cases e
    · rw [isB_m rx]
      exact Pg.here rh p _ rv_bl
  · exact p.elim
theorem om_isB : OpR X (compareOp .Is) (rIsB' false) ∧ OpM (cm X E) (rIsB' false) (oB1 false) := ⟨opr_isB, opm_isB⟩
theorem om_isntB : OpR X (compareOp .IsNot) (rIsB' true) ∧ OpM (cm X E) (rIsB' true) (oB1 true) := ⟨opr_isntB, opm_isB⟩
end
/-! ### isinstance, repr -/
def tyD : D → AH → Option String := fun d h => match d with
  | .non => some "NoneType"
  | .bl _ => some "bool"
  | .int _ => some "int"
  | .str _ => some "str"
  | .tup _ => some "tuple"
  | .rol _ => some "list"
  | .ref n => match h[n]? with
    | some (.lst _) => some "list"
    | some (.dic _ _) => some "dict"
    | _ => none
section
variable {X : Cx} {E : XK} {c : Cm} {ms : List Addr} {H : Hp} {h : AH}
theorem tyX_of (rh : RH c.K c.mg ms H h) {d : D} {v : V} {t : String} (r : RV c.K ms H d v) (e : tyD d h = some t) : TyX c.K H v (.type t) := by
  unfold tyD at e
  cases d with
  | non => cases e; rw [r.non]; exact .base .non
  | bl c => cases e; rw [r.bl]; exact .base (.bl _)
  | int i => cases e; rw [r.int]; exact .base (.int _)
  | str i => cases e; rw [r.str]; exact .base (.str _)
  | tup i =>
    cases e
    obtain ⟨a, vs, rfl, q, _⟩ := r.tup
    rcases q with (q | ⟨o, q⟩) | ⟨o, _, _, q1, q2, _⟩
    · exact .base (.tup q)
    · exact .fTuple q
    · exact .kTuple q1 q2
  | rol i =>
    cases e
    rw [RV] at r
    obtain ⟨a, vs, rfl, q, _⟩ := r
    rcases q H (Stb.refl H) with (q | ⟨o, q⟩) | ⟨o, _, _, q1, q2, _⟩
    · exact .base (.lst q)
    · exact .base (.frz q)
    · exact .kList q1 q2
  | ref n =>
    obtain ⟨a, rfl, ea⟩ := r.refd
    simp only at e
    split at e
    · cases e
      obtain ⟨vs, q, _⟩ := rh.lst ‹_› ea
      exact .base (.lst q)
    · rename_i lk kvs en
      cases e
      obtain ⟨ws, q, _⟩ := rh.dic en ea
      unfold LkD at q
      split at q
      · obtain ⟨o, q⟩ := q; exact .fDict q
      · exact .base (.dK q)
    · cases e
/-- isinstance(x, T) -/
def oIsi (T : String) : D → AH → R D := fun d h => match tyD d h with
  | some t => if t = T then .ok (.bl true) h else if t = "bool" ∧ T = "int" then .ok (.bl true) h else .ok (.bl false) h
  | none => .no
def eIsi (T : String) (a : EM) : EM := eUn (oIsi T) a
theorem kit_ans (K : PySem.W.Frag) : ∀ (T t : String), T ∈ (["int", "str", "bool", "tuple", "list", "dict"] : List String) → t ∈ (["NoneType", "bool", "int", "str", "tuple", "list", "dict"] : List String) →
    PySem.W.kitOne K (.type t) (.type T) = some (decide (t = T) || (decide (t = "bool") && decide (T = "int"))) := by
  intro T t hT ht
  simp only [List.mem_cons, List.not_mem_nil, or_false] at hT ht
  rcases hT with rfl | rfl | rfl | rfl | rfl | rfl <;> rcases ht with rfl | rfl | rfl | rfl | rfl | rfl | rfl <;> rfl
theorem tyD_in {d : D} {t : String} (e : tyD d h = some t) : t ∈ (["NoneType", "bool", "int", "str", "tuple", "list", "dict"] : List String) := by
  unfold tyD at e
  cases d with
  | ref n =>
    simp only at e
    split at e <;> cases e <;> decide
  | _ => cases e; decide
theorem ed_isi {T : String} {x : Str} {a : Expr} {fa : EM} {p p2 pos : Pos} (hT : T ∈ (["int", "str", "bool", "tuple", "list", "dict"] : List String)) (ha : ED X E a fa) (hg : Gl X "isinstance") (hm : X.mg "isinstance" = none) (hgx : Gl X x) (hmx : X.mg x = none) (hv : bootBuiltins x = some (.type T))
    (hn : x ≠ "__name__" := by decide) (hd : (x == ("__debug__" : Str)) = false := by decide)
    (he : starEach [a, .Name x p2] X.env = (false, eval a X.env) :: starEach [.Name x p2] X.env := by rfl) (hpl : (backTo pos (starEach [.Name x p2] X.env)).any (·.1) = false := by rfl) : ED X E (.Call (.Name "isinstance" p) [a, .Name x p2] [] pos) (eIsi T fa) := by
  obtain ⟨ta, pa, ea⟩ := ha
  refine ⟨_, pe_callB call_isi hg hm PyProof.Rows.boot_isinstance (pa_cons pa (pa_cons (pe_bltn (v := .ty T) hgx hmx hv rfl hn hd) pa_nil) he) (by decide) (by decide) he hpl, fun env h ms σ H Q re rh p => ?_⟩
  refine ea env h ms σ H _ re rh (Pg.bind (fun d h1 ms1 H1 s1 rh1 p1 v r => ?_) p)
  unfold oIsi at p1
  split at p1
  · rename_i t et
    refine ⟨v, .ty T, .type t, .type T, _, rfl, .ty T, tyX_of (c := cm X E) rh1 r et, kit_ans X.K T t hT (tyD_in et), ?_⟩
    split at p1
    · rename_i e
      rw [decide_eq_true e]
      exact Pg.here rh1 p1 _ rv_bl
    · rename_i e1
      split at p1
      · rename_i e
        rw [decide_eq_true e.1, decide_eq_true e.2, Bool.and_self, Bool.or_true]
        exact Pg.here rh1 p1 _ rv_bl
      · rename_i e
        have z : (decide (t = T) || (decide (t = "bool") && decide (T = "int"))) = false := by
          rw [decide_eq_false e1, Bool.false_or]
          by_cases e2 : t = "bool"
          · by_cases e3 : T = "int"
            · exact absurd ⟨e2, e3⟩ e
            · rw [decide_eq_false e3, Bool.and_false]
          · rw [decide_eq_false e2, Bool.false_and]
        rw [z]
        exact Pg.here rh1 p1 _ rv_bl
  · exact p1.elim
end
/-! repr -/
def oRepr : List D → AH → R D := fun ds h => match ds with
  | [.int i] => if i.natAbs.log2 < 1920 then .ok (.str (toString i)) h else .no
  | [.str x] => if (reprText x).length ≤ sizeLine then .ok (.str (reprText x)) h else .no
  | _ => .no
def rRepr : List V → Hp → VK → Prop := fun xs H Q => (∃ i : Int, xs = [.int i] ∧ i.natAbs.log2 < 1920 ∧ Q (.str (toString i)) H) ∨ ∃ x, xs = [.str x] ∧ (reprText x).length ≤ sizeLine ∧ Q (.str (reprText x)) H
section
variable {X : Cx} {E : XK}
theorem cr_reprS : CallR X (.builtin "repr") (fun xs H Q => ∃ x, xs = [.str x] ∧ (reprText x).length ≤ sizeLine ∧ Q (.str (reprText x)) H) := fun pins s σ H xs us Q I r ⟨x, e, hz, q⟩ => by
  subst e
  obtain ⟨u, rfl, t, rfl⟩ := vals1 r
  exact P.repr_of_str (hsz := hz) ⟨.str _, H, I.tok _, ⟨_, rfl⟩, q⟩
theorem om_repr : CallR X (.builtin "repr") rRepr ∧ CalM (cm X E) rRepr oRepr := ⟨CallR.or SkE.call_repr_int cr_reprS, fun ds h ms vs H Q rh rs p => by
  unfold oRepr at p
  split at p
  · split at p
    · exact .inl ⟨_, rs.int1, ‹_›, Pg.here rh p _ rv_str⟩
    · exact p.elim
  · split at p
    · obtain ⟨v, rfl, r⟩ := rs.one
      rw [r.str]
      exact .inr ⟨_, rfl, ‹_›, Pg.here rh p _ rv_str⟩
    · exact p.elim
  · exact p.elim⟩
end
/-! ### sorted -/
def leI (a b : Int) : Bool := decide (a ≤ b)
def leS (a b : Str) : Bool := !decide (b.cps.toList < a.cps.toList)
def srtI (xs : List Int) : List Int := xs.mergeSort leI
def srtS (xs : List Str) : List Str := xs.mergeSort leS
theorem leI_sorted (l : List Int) : (srtI l).Pairwise (· ≤ ·) := by
  have h := List.pairwise_mergeSort (le := leI) (fun a b c h1 h2 => by simp only [leI, decide_eq_true_eq] at *; omega) (fun a b => by simp only [leI, Bool.or_eq_true, decide_eq_true_eq]; omega) l
  exact h.imp fun {a b} h => by simpa [leI] using h
theorem srtI_of {l m : List Int} (h : m.Perm l) (hs : m.Pairwise (· ≤ ·)) : m = srtI l :=
  List.Perm.eq_of_pairwise (fun a b _ _ h1 h2 => by omega) hs (leI_sorted l) (h.trans (List.mergeSort_perm l leI).symm)
theorem srtI_perm {l m : List Int} (h : m.Perm l) : srtI m = srtI l := srtI_of ((List.mergeSort_perm m leI).trans h) (leI_sorted m)
theorem leS_trans (a b c : Str) (h1 : leS a b = true) (h2 : leS b c = true) : leS a c = true := by
  simp only [leS, Bool.not_eq_true', decide_eq_false_iff_not] at *
  exact List.le_trans h1 h2
theorem leS_total (a b : Str) : (leS a b || leS b a) = true := by
  simp only [leS, Bool.or_eq_true, Bool.not_eq_true', decide_eq_false_iff_not]
  exact List.le_total a.cps.toList b.cps.toList
theorem leS_anti (a b : Str) (h1 : leS a b = true) (h2 : leS b a = true) : a = b := by
  simp only [leS, Bool.not_eq_true', decide_eq_false_iff_not] at *
  have e : a.cps.toList = b.cps.toList := List.le_antisymm h1 h2
  cases a with
  | mk x => cases b with
    | mk y =>
      have e2 : x = y := Array.toList_inj.mp e
      rw [e2]
theorem leS_sorted (l : List Str) : (srtS l).Pairwise (fun a b => leS a b = true) := List.pairwise_mergeSort leS_trans leS_total l
theorem rising_pw : ∀ (p : Str) (l : List Str), PyProof.Rows.risingS p l = true → (p :: l).Pairwise (fun a b => leS a b = true)
  | p, [], _ => by simp
  | p, x :: l, h => by
    rw [PyProof.Rows.risingS, Bool.and_eq_true] at h
    have ih := rising_pw x l h.2
    have h1 : leS p x = true := by
      have := h.1
      rw [PyProof.Rows.ltCps_eq] at this
      exact this
    refine List.pairwise_cons.mpr ⟨fun y hy => ?_, ih⟩
    rcases List.mem_cons.mp hy with rfl | hy
    · exact h1
    · exact leS_trans _ _ _ h1 ((List.pairwise_cons.mp ih).1 y hy)
theorem srtS_of {l m : List Str} (h : m.Perm l) (hs : PyProof.Rows.sortedS m = true) : m = srtS l := by
  have hp : m.Pairwise (fun a b => leS a b = true) := by
    cases m with
    | nil => exact .nil
    | cons x m => exact rising_pw x m hs
  exact List.Perm.eq_of_pairwise (fun a b _ _ h1 h2 => leS_anti a b h1 h2) hp (leS_sorted l) (h.trans (List.mergeSort_perm l leS).symm)
theorem srtS_perm {l m : List Str} (h : m.Perm l) : srtS m = srtS l :=
  List.Perm.eq_of_pairwise (fun a b _ _ h1 h2 => leS_anti a b h1 h2) (leS_sorted m) (leS_sorted l) ((List.mergeSort_perm m leS).trans (h.trans (List.mergeSort_perm l leS).symm))
def allI : List D → Option (List Int)
  | [] => some []
  | .int i :: r => (allI r).map (i :: ·)
  | _ => none
def allS : List D → Option (List Str)
  | [] => some []
  | .str i :: r => (allS r).map (i :: ·)
  | _ => none
theorem allI_map : ∀ l : List Int, allI (l.map .int) = some l
  | [] => rfl
  | i :: l => by rw [List.map_cons, allI, allI_map l]; rfl
theorem allS_map : ∀ l : List Str, allS (l.map .str) = some l
  | [] => rfl
  | i :: l => by rw [List.map_cons, allS, allS_map l]; rfl
theorem allI_eq : ∀ {ds : List D} {ns : List Int}, allI ds = some ns → ds = ns.map .int
  | [], ns, e => by cases e; rfl
  | d :: r, ns, e => by
    cases d with
    | int i =>
      rw [allI] at e
      obtain ⟨m, e1, rfl⟩ := Option.map_eq_some_iff.mp e
      rw [allI_eq e1]; rfl
    | _ => cases e
theorem allS_eq : ∀ {ds : List D} {ns : List Str}, allS ds = some ns → ds = ns.map .str
  | [], ns, e => by cases e; rfl
  | d :: r, ns, e => by
    cases d with
    | str i =>
      rw [allS] at e
      obtain ⟨m, e1, rfl⟩ := Option.map_eq_some_iff.mp e
      rw [allS_eq e1]; rfl
    | _ => cases e
theorem rvs_ints {K : PySem.W.Frag} {ms : List Addr} {H : Hp} : ∀ (ns : List Int) {vs : List V}, RVs K ms H (ns.map .int) vs → vs = ns.map .int
  | [], vs, r => by rw [List.map_nil, RVs] at r; rw [r]; rfl
  | n :: ns, vs, r => by
    rw [List.map_cons, RVs] at r
    obtain ⟨v, w, rfl, a, b⟩ := r
    rw [a.int, rvs_ints ns b]; rfl
theorem rvs_strs {K : PySem.W.Frag} {ms : List Addr} {H : Hp} : ∀ (ns : List Str) {vs : List V}, RVs K ms H (ns.map .str) vs → vs = ns.map .str
  | [], vs, r => by rw [List.map_nil, RVs] at r; rw [r]; rfl
  | n :: ns, vs, r => by
    rw [List.map_cons, RVs] at r
    obtain ⟨v, w, rfl, a, b⟩ := r
    rw [a.str, rvs_strs ns b]; rfl
theorem rvs_of_ints {K : PySem.W.Frag} {ms : List Addr} {H : Hp} : ∀ (ns : List Int), RVs K ms H (ns.map .int) (ns.map .int)
  | [] => .nil
  | _ :: ns => .cons rv_int (rvs_of_ints ns)
theorem rvs_of_strs {K : PySem.W.Frag} {ms : List Addr} {H : Hp} : ∀ (ns : List Str), RVs K ms H (ns.map .str) (ns.map .str)
  | [] => .nil
  | _ :: ns => .cons rv_str (rvs_of_strs ns)
/-- the two kinds of what is sorted: a list, a dict's keys (texts, or a dict: fewer than 64) -/
def lstOf : D → AH → Option (Bool × List D) := fun d h => match d with
  | .rol xs => some (true, xs)
  | .ref n => match h[n]? with
    | some (.lst xs) => some (true, xs)
    | some (.dic _ kvs) => some (false, kvs.map fun p => keyD p.1)
    | _ => none
  | _ => none
def oSorted : List D → AH → R D := fun ds h => match ds with
  | [d] => match lstOf d h with
    | some (b, xs) => match allI xs with
      | some ns => if b = true ∨ ns.length < 64 then .ok (.ref h.length) (h ++ [.lst ((srtI ns).map .int)]) else .no
      | none => match allS xs with
        | some ns => if ns.length < 64 then .ok (.ref h.length) (h ++ [.lst ((srtS ns).map .str)]) else .no
        | none => .no
    | none => .no
  | _ => .no
def rSortD : List V → Hp → VK → Prop := fun xs H Q => (∃ (a : Addr) (kvs : List (Key × V)) (ks : List Int), xs = [.ref a] ∧ Rd H a (.dK kvs) ∧ kvs.map (·.1) = ks.map Sum.inl ∧ ks.length < 64 ∧
    ∀ (ys : List Int) (p : Addr), ys.Perm ks → ys.Pairwise (· ≤ ·) → H p = none → Q (.ref p) (upd H p (.lst (ys.map V.int)))) ∨
  ∃ (a : Addr) (kvs : List (Key × V)) (ks : List Str), xs = [.ref a] ∧ Rd H a (.dK kvs) ∧ kvs.map (·.1) = ks.map Sum.inr ∧ ks.length < 64 ∧
    ∀ ys p, ys.Perm ks → PyProof.Rows.sortedS ys = true → H p = none → Q (.ref p) (upd H p (.lst (ys.map V.str)))
def rSortAll (K : PySem.W.Frag) : List V → Hp → VK → Prop := fun xs H Q => rSortedI K xs H Q ∨ rSortedS K xs H Q ∨ rSortD xs H Q
section
variable {X : Cx} {E : XK}
theorem cr_sortAll (hc : X.calm = true) : CallR X (.builtin "sorted") (rSortAll X.K) := CallR.or cr_sortedI (CallR.or cr_sortedS (CallR.or (call_sortedDI hc) (call_sortedD hc)))
theorem keys_inl : ∀ {ks : List Key} {ns : List Int}, ks.map keyD = ns.map .int → ks = ns.map Sum.inl
  | [], [], _ => rfl
  | [], _ :: _, h => by cases h
  | _ :: _, [], h => by cases h
  | k :: ks, n :: ns, h => by
    rw [List.map_cons, List.map_cons] at h
    obtain ⟨h1, h2⟩ := List.cons.inj h
    cases k with
    | inl i => cases h1; rw [keys_inl h2]; rfl
    | inr i => cases h1
theorem keys_inr : ∀ {ks : List Key} {ns : List Str}, ks.map keyD = ns.map .str → ks = ns.map Sum.inr
  | [], [], _ => rfl
  | [], _ :: _, h => by cases h
  | _ :: _, [], h => by cases h
  | k :: ks, n :: ns, h => by
    rw [List.map_cons, List.map_cons] at h
    obtain ⟨h1, h2⟩ := List.cons.inj h
    cases k with
    | inr i => cases h1; rw [keys_inr h2]; rfl
    | inl i => cases h1
theorem lstOf_ok {c : Cm} {ms : List Addr} {H : Hp} {h : AH} {d : D} {v : V} {b : Bool} {xs : List D} (rh : RH c.K c.mg ms H h) (r : RV c.K ms H d v) (e : lstOf d h = some (b, xs)) :
    ∃ a, v = .ref a ∧ ((b = true ∧ ∃ vs, SqL c.K H a vs ∧ RVs c.K ms H xs vs) ∨ (b = false ∧ ∃ (kvs : List (Key × D)) (ws : List (Key × V)), Rd H a (.dK ws) ∧ ws.map (·.1) = kvs.map (·.1) ∧ xs = (kvs.map (·.1)).map keyD)) := by
  unfold lstOf at e
  cases d with
  | rol ds =>
    cases e
    rw [RV] at r
    obtain ⟨a, vs, rfl, q, r⟩ := r
    exact ⟨a, rfl, .inl ⟨rfl, vs, q H (Stb.refl H), r⟩⟩
  | ref n =>
    obtain ⟨a, rfl, ea⟩ := r.refd
    refine ⟨a, rfl, ?_⟩
    simp only at e
    split at e
    · cases e
      obtain ⟨vs, q, r⟩ := rh.lst ‹_› ea
      exact .inl ⟨rfl, vs, .inl (.inl q), r⟩
    · rename_i lk kvs en
      cases e
      obtain ⟨ws, q, r⟩ := rh.dic en ea
      exact .inr ⟨rfl, kvs, ws, q.rd, r.keys, by rw [List.map_map]; rfl⟩
    · cases e
  | _ => cases e
theorem om_sorted (hc : X.calm = true) : CallR X (.builtin "sorted") (rSortAll X.K) ∧ CalM (cm X E) (rSortAll X.K) oSorted := ⟨cr_sortAll hc, fun ds h ms vs H Q rh rs p => by
  unfold oSorted at p
  split at p
  · obtain ⟨v, rfl, r⟩ := rs.one
    split at p
    · rename_i b xs e
      obtain ⟨a, rfl, z⟩ := lstOf_ok rh r e
      split at p
      · rename_i ns en
        have ex := allI_eq en
        split at p
        · rename_i hb
          rcases z with ⟨rfl, vs, q, rv⟩ | ⟨rfl, kvs, ws, q, ek, exs⟩
          · rw [ex] at rv
            rw [rvs_ints ns rv] at q
            refine .inl ⟨a, ns, rfl, q, fun ns' p' h1 h2 hp => ?_⟩
            rw [srtI_of h1 h2]
            exact new_lst rh (rvs_of_ints _) p p' hp
          · rw [ex] at exs
            have ek2 := keys_inl exs.symm
            refine .inr (.inr (.inl ⟨a, ws, ns, rfl, q, by rw [ek, ek2], by simpa using hb, fun ns' p' h1 h2 hp => ?_⟩))
            rw [srtI_of h1 h2]
            exact new_lst rh (rvs_of_ints _) p p' hp
        · exact p.elim
      · split at p
        · rename_i ns en
          have ex := allS_eq en
          split at p
          · rename_i hb
            rcases z with ⟨rfl, vs, q, rv⟩ | ⟨rfl, kvs, ws, q, ek, exs⟩
            · rw [ex] at rv
              rw [rvs_strs ns rv] at q
              refine .inr (.inl ⟨a, ns, rfl, q, hb, fun ns' p' h1 h2 hp => ?_⟩)
              rw [srtS_of h1 h2]
              exact new_lst rh (rvs_of_strs _) p p' hp
            · rw [ex] at exs
              have ek2 := keys_inr exs.symm
              refine .inr (.inr (.inr ⟨a, ws, ns, rfl, q, by rw [ek, ek2], hb, fun ns' p' h1 h2 hp => ?_⟩))
              rw [srtS_of h1 h2]
              exact new_lst rh (rvs_of_strs _) p p' hp
          · exact p.elim
        · exact p.elim
    · exact p.elim
  · exact p.elim⟩
end
end PM

namespace PM
open PySem L2

/-! ### methods -/
inductive Ty where
  | l | d | s
def Ty.nm : Ty → String
  | .l => "list"
  | .d => "dict"
  | .s => "str"
def tyIs (T : Ty) : D → AH → Bool := fun x h => match T, x with
  | .s, .str _ => true
  | .l, .ref n => match h[n]? with
    | some (.lst _) => true
    | _ => false
  | .d, .ref n => match h[n]? with
    | some (.dic false _) => true
    | _ => false
  | _, _ => false
def eMeth (T : Ty) (o : EM) (a : AM) (op : D → List D → AH → R D) : EM := fun env h => (o env h).bind fun x h1 => if tyIs T x h1 = true then (a env h1).bind fun ds h2 => op x ds h2 else .no
def MeM (c : Cm) (r : V → List V → Hp → VK → Prop) (op : D → List D → AH → R D) : Prop := ∀ x ds h ms vx vs H Q, RH c.K c.mg ms H h → RV c.K ms H x vx → RVs c.K ms H ds vs → Pg c ms H (PV c Q) (op x ds h) → r vx vs H Q
section
variable {X : Cx} {E : XK} {c : Cm} {ms : List Addr} {H : Hp} {h : AH}
theorem tyV_of (rh : RH c.K c.mg ms H h) {T : Ty} {x : D} {v : V} (r : RV c.K ms H x v) (e : tyIs T x h = true) : tyV c.K T.nm v H := by
  unfold tyIs at e
  split at e
  · rw [r.str]; exact rfl
  · obtain ⟨a, rfl, ea⟩ := r.refd
    split at e
    · obtain ⟨vs, q, _⟩ := rh.lst ‹_› ea
      exact .inl ⟨rfl, vs, .inl (.inl q)⟩
    · cases e
  · obtain ⟨a, rfl, ea⟩ := r.refd
    split at e
    · obtain ⟨ws, q, _⟩ := rh.dic ‹_› ea
      unfold LkD at q
      rw [if_neg Bool.false_ne_true] at q
      exact .inr (.inr (.inl ⟨rfl, .inl ⟨ws, q⟩⟩))
    · cases e
  · cases e
variable {o e : Expr} {es : List Expr} {fo : EM} {g : AM} {n : Nat} {name : Str} {apos cpos : Pos} {id : String} {r : V → List V → Hp → VK → Prop} {op : D → List D → AH → R D}
theorem ed_meth (T : Ty) (pa : PlainAttrs T.nm) (slot : PySem.Slot T.nm name id) (hty : typeOf (.builtin id) = pure (.type "method_descriptor")) (hm : MtR X id r ∧ MeM (cm X E) r op) (ho : ED X E o fo) (ha : AD X E n (e :: es) g)
    (hbase : attributeBase o name X.env (eval o X.env) = eval o X.env := by rfl)
    (hfew : ((backTo cpos (starEach (e :: es) X.env)).all (fun x => !x.1) && (backToKw cpos (keywordEach [] X.env)).all (fun x => x.1.isSome)
      && decide ((e :: es).length + ([] : List Keyword).length + (if ([] : List Keyword).isEmpty then 0 else 1) < 30)) = true := by rfl)
    (hline : (apos.endLine == cpos.line) = true := by rfl) (hs : starEach (e :: es) X.env = (false, eval e X.env) :: starEach es X.env := by rfl) (hplain : (backTo cpos (starEach es X.env)).any (·.1) = false := by rfl) :
    ED X E (.Call (.Attribute o name apos) (e :: es) [] cpos) (eMeth T fo g op) := by
  obtain ⟨to, po, eo⟩ := ho
  obtain ⟨t, pt, _, et⟩ := ha
  refine ⟨_, pe_bm pa slot hty hm.1 po pt hbase hfew hline hs hplain, fun env h ms σ H Q re rh p => eo env h ms σ H _ re rh (Pg.bind (fun x h1 ms1 H1 s1 rh1 p1 vx rx => ?_) p)⟩
  split at p1
  · rename_i ht
    exact ⟨tyV_of (c := cm X E) rh1 rx ht, et env h1 ms1 σ H1 _ (re.step s1) rh1 (Pg.bind (fun ds h2 ms2 H2 s2 rh2 p2 vs rs => hm.2 x ds h2 ms2 vx vs H2 Q rh2 (rx.step s2) rs p2) p1)⟩
  · exact p1.elim
theorem ed_meth0 (T : Ty) (pa : PlainAttrs T.nm) (slot : PySem.Slot T.nm name id) (hty : typeOf (.builtin id) = pure (.type "method_descriptor")) (hm : MtR X id r ∧ MeM (cm X E) r op) (ho : ED X E o fo)
    (hbase : attributeBase o name X.env (eval o X.env) = eval o X.env := by rfl) (hline : (apos.endLine == cpos.line) = true := by rfl) :
    ED X E (.Call (.Attribute o name apos) [] [] cpos) (eMeth T fo aNil op) := by
  obtain ⟨to, po, eo⟩ := ho
  refine ⟨_, pe_bm0 pa slot hty hm.1 po hbase hline, fun env h ms σ H Q re rh p => eo env h ms σ H _ re rh (Pg.bind (fun x h1 ms1 H1 s1 rh1 p1 vx rx => ?_) p)⟩
  split at p1
  · rename_i ht
    exact ⟨tyV_of (c := cm X E) rh1 rx ht, hm.2 x [] h1 ms1 vx [] H1 Q rh1 rx .nil p1⟩
  · exact p1.elim
/-- a list is changed -/
theorem put_lst {ys : List D} {vs ws : List V} {a : Addr} {n : Nat} {d : D} {v : V} {Q : VK} (rh : RH c.K c.mg ms H h) (ea : ms[n]? = some a) (q : H a = some (.lst vs)) (rw' : RVs c.K ms H ys ws) (rd : RV c.K ms H d v)
    (p : Pg c ms H (PV c Q) (.ok d (h.set n (.lst ys)))) : Q v (upd H a (.lst ws)) := by
  have mu : Mut (H a) := by rw [q]; exact True.intro
  obtain ⟨s3, rh3⟩ := rh.put (u := .lst ws) (o := .lst ys) ea mu ⟨ws, upd_same, RVs.stb (Stb.wr mu) rw'⟩
  exact p _ _ s3 rh3 v (rd.step s3)
def oAppend : D → List D → AH → R D := fun x ds h => match x, ds with
  | .ref n, [d] => match h[n]? with
    | some (.lst xs) => if xs.length < sizeLine then .ok .non (h.set n (.lst (xs ++ [d]))) else .no
    | _ => .no
  | _, _ => .no
theorem om_append : MtR X "list.append" rAppend ∧ MeM (cm X E) rAppend oAppend := ⟨mt_append, fun x ds h ms vx vs H Q rh rx rs p => by
  unfold oAppend at p
  split at p
  · obtain ⟨a, rfl, ea⟩ := rx.refd
    obtain ⟨v, rfl, r⟩ := rs.one
    split at p
    · split at p
      · obtain ⟨us, q, ru⟩ := rh.lst ‹_› ea
        exact ⟨a, us, v, rfl, rfl, q, by rw [ru.length]; assumption, put_lst rh ea q (ru.append (.cons r .nil)) rv_non p⟩
      · exact p.elim
    · exact p.elim
  · exact p.elim⟩
def oPop : D → List D → AH → R D := fun x ds h => match x, ds with
  | .ref n, [] => match h[n]? with
    | some (.lst xs) => match xs[xs.length - 1]? with
      | some d => .ok d (h.set n (.lst xs.dropLast))
      | none => .no
    | _ => .no
  | _, _ => .no
theorem RVs.dropLast {K : PySem.W.Frag} {ds : List D} {vs : List V} (r : RVs K ms H ds vs) : RVs K ms H ds.dropLast vs.dropLast := by
  rw [List.dropLast_eq_take, List.dropLast_eq_take, r.length]
  exact r.take _
theorem om_pop : MtR X "list.pop" rPop ∧ MeM (cm X E) rPop oPop := ⟨mt_pop, fun x ds h ms vx vs H Q rh rx rs p => by
  unfold oPop at p
  split at p
  · obtain ⟨a, rfl, ea⟩ := rx.refd
    rw [RVs] at rs
    subst rs
    split at p
    · split at p
      · rename_i d ed
        obtain ⟨us, q, ru⟩ := rh.lst ‹_› ea
        obtain ⟨v, ev, rv⟩ := ru.get ed
        exact ⟨a, us, v, rfl, rfl, q, by rw [ru.length]; exact ev, put_lst rh ea q ru.dropLast rv p⟩
      · exact p.elim
    · exact p.elim
  · exact p.elim⟩
end
end PM
namespace PMx
open PySem PySem.SeqAt
open AutoSeq1 (wpAny_loadPart' idx_int sub_tuple_tuple sub_list_list sub_tuple_list sub_list_tuple)
open MeetsSeq MeetsSeq2 MeetsSeq3 SeqRoads2
/-- a list extended by a tuple of any record -/
theorem ext_tup (l b : Addr) (u w : Array Value) (n m : Nat) (dd : Option Addr) (sl : Array (Option Value)) (h0 : ¬(!u.isEmpty && Builtin.List.listTooLong (u.size + w.size)) = true) (h1 : u.size ≤ sizeLine) (h2 : u.size + w.size ≤ sizeLine + 1) :
    Meets (Builtin.«list.extend» ⟨[.ref l, .ref b], []⟩)
      (fun _ R s => s.heap.get? l = some { cls := .type "list", dict := none, data := .seq u n, slots := #[] } ∧
        s.heap.get? b = some { cls := .type "tuple", dict := dd, data := .seq w m, slots := sl } ∧
        R (.ok (.ret Value.none)) { s with heap := s.heap.update l (Obj.mapSeq fun x => x ++ w) }) :=
  .of_wp fun prog wd A R s ⟨hl, hb, h⟩ => by
    obtain ⟨hp, g, d, tk, os⟩ := s
    have f1 := idx_int
    have f2 := sub_tuple_tuple
    have f3 := sub_list_list
    have f4 := sub_tuple_list
    have f5 := sub_list_tuple
    have hz : (u ++ w).size ≤ sizeLine + 1 := by rw [Array.size_append]; exact h2
    wp_walk using (wpAny_updateSeq hl rfl (hz := h1) (_hz' := hz)), wpAny_loadPart' hl, wpAny_loadPart' hb
    exact ⟨_, rfl, h⟩
end PMx
namespace PM
open PySem L2
section
variable {X : Cx} {E : XK} {c : Cm} {ms : List Addr} {H : Hp} {h : AH}
/-- extend by a list or a tuple -/
def oExtend : D → List D → AH → R D := fun x ds h => match x, ds with
  | .ref n, [d] => match h[n]? with
    | some (.lst xs) => match d with
      | .tup ys => if xs.length + ys.length ≤ sizeLine then .ok .non (h.set n (.lst (xs ++ ys))) else .no
      | .ref m => match h[m]? with
        | some (.lst ys) => if xs.length + ys.length ≤ sizeLine then .ok .non (h.set n (.lst (xs ++ ys))) else .no
        | _ => .no
      | _ => .no
    | _ => .no
  | _, _ => .no
def rExtT (K : PySem.W.Frag) : V → List V → Hp → VK → Prop := fun x vs H Q => ∃ l b xs zs, x = .ref l ∧ vs = [.ref b] ∧ H l = some (.lst xs) ∧ SqT K H b zs ∧ xs.length + zs.length ≤ sizeLine ∧ Q .non (upd H l (.lst (xs ++ zs)))
theorem mt_extT : MtR X "list.extend" (rExtT X.K) := fun pins s σ H x vs v us Q I rx rv ⟨l, b, xs, zs, e1, e2, hl, hb, hz, q⟩ => by
  subst e1 e2
  cases rx
  obtain ⟨u, rfl, ru⟩ := rv.one
  cases ru
  obtain ⟨_, its, n, r, len, e⟩ := I.lstM hl
  obtain ⟨its2, r2, ⟨⟨cls, dd, data, sl⟩, ho2, hcl, n2, hdt⟩, z2⟩ := I.tuple hb
  simp only at hcl hdt
  subst hcl hdt
  have len2 := r2.length
  have hsz : its.toArray.size + its2.toArray.size ≤ sizeLine := by simp only [List.size_toArray]; omega
  have hlen : its.toArray.size ≤ sizeLine := by omega
  refine call_meets PySem.F.slot_list_extend ⟨_, e, rfl⟩ PySem.F.entry_list_extend (PySem.F.args_list_extend_2 _ _)
    (PMx.ext_tup l b its.toArray its2.toArray n n2 dd sl ?_ hlen (by omega)) ⟨e, ho2, ?_⟩
  · rw [notLongL hsz]; simp
  · exact ⟨.non, _, I.lset (its' := its ++ its2) hl e (by simp) (r.append r2) (by rw [List.length_append]; omega), rfl, q⟩
def rExtA (K : PySem.W.Frag) : V → List V → Hp → VK → Prop := fun x vs H Q => rExtend x vs H Q ∨ rExtT K x vs H Q
theorem om_extend : MtR X "list.extend" (rExtA X.K) ∧ MeM (cm X E) (rExtA X.K) oExtend := ⟨MtR.or mt_extend mt_extT, fun x ds h ms vx vs H Q rh rx rs p => by
  unfold oExtend at p
  split at p
  · obtain ⟨a, rfl, ea⟩ := rx.refd
    obtain ⟨v, rfl, r⟩ := rs.one
    split at p
    · rename_i xs en
      obtain ⟨us, q, ru⟩ := rh.lst en ea
      split at p
      · split at p
        · obtain ⟨b, ws, rfl, qb, rb⟩ := r.tup
          exact .inr ⟨a, b, us, ws, rfl, rfl, q, qb, by rw [ru.length, rb.length]; assumption, put_lst rh ea q (ru.append rb) rv_non p⟩
        · exact p.elim
      · obtain ⟨b, rfl, eb⟩ := r.refd
        split at p
        · split at p
          · obtain ⟨ws, qb, rb⟩ := rh.lst ‹_› eb
            exact .inl ⟨a, b, us, ws, rfl, rfl, q, qb, by rw [ru.length, rb.length]; assumption, put_lst rh ea q (ru.append rb) rv_non p⟩
          · exact p.elim
        · exact p.elim
      · exact p.elim
    · exact p.elim
  · exact p.elim⟩
/-! ### d.setdefault(k, x) -/
def eSetd (o k d : EM) : EM := fun env h => (o env h).bind fun x h1 => if tyIs .d x h1 = true then (k env h1).bind fun y h2 => (d env h2).bind fun z h3 => match x with
  | .ref n => match h3[n]?, dKey y with
    | some (.dic false kvs), some j => match gtD kvs j with
      | some w => if kvs.length < sizeLine then .ok w h3 else .no
      | none => if kvs.length < sizeLine then .ok z (h3.set n (.dic false (ptD kvs j z))) else .no
    | _, _ => .no
  | _ => .no else .no
theorem ed_setd {o e f : Expr} {fo fe ff : EM} {apos cpos : Pos} (ho : ED X E o fo) (he : ED X E e fe) (hf : ED X E f ff) (m : M2 X o "setdefault" apos e f cpos) : ED X E (.Call (.Attribute o "setdefault" apos) [e, f] [] cpos) (eSetd fo fe ff) := by
  obtain ⟨to, po, eo⟩ := ho
  obtain ⟨te, pe, ee⟩ := he
  obtain ⟨tf, pf, ef⟩ := hf
  refine ⟨_, pe_dsetd po pe pf m, fun env h ms σ H Q re rh p => eo env h ms σ H _ re rh (Pg.bind (fun x h1 ms1 H1 s1 rh1 p1 vx rx => ?_) p)⟩
  split at p1
  · rename_i ht
    cases x with
    | ref n =>
      obtain ⟨a, rfl, ea⟩ := rx.refd
      refine ⟨a, rfl, ?_, ee env h1 ms1 σ H1 _ (re.step s1) rh1 (Pg.bind (fun y h2 ms2 H2 s2 rh2 p2 vy ry => ef env h2 ms2 σ H2 _ (re.step (s1.trans s2)) rh2 (Pg.bind (fun z h3 ms3 H3 s3 rh3 p3 vz rz => ?_) p2)) p1)⟩
      · unfold tyIs at ht
        simp only at ht
        split at ht
        · rename_i kvs en
          obtain ⟨ws, q, r⟩ := rh1.dic en ea
          exact .inl ⟨ws, q.rd⟩
        · cases ht
      · have ea3 : ms3[n]? = some a := by
          obtain ⟨t, e, _⟩ := (s2.trans s3).ext
          rw [e]; exact get_app ea
        simp only at p3
        split at p3
        · rename_i kvs j en ek
          obtain ⟨ws, q, r⟩ := rh3.dic en ea3
          unfold LkD at q
          rw [if_neg Bool.false_ne_true] at q
          have ek' := rv_dKey ek (ry.step s3)
          split at p3
          · rename_i w ew
            split at p3
            · obtain ⟨v, ev, rv⟩ := r.some ew
              refine ⟨ws, j, q, ek', by rw [r.length]; assumption, fun v' e => ?_, fun e => by rw [ev] at e; cases e⟩
              rw [ev] at e; cases e
              exact Pg.here rh3 p3 _ rv
            · exact p3.elim
          · rename_i ew
            split at p3
            · refine ⟨ws, j, q, ek', by rw [r.length]; assumption, fun v' e => (by rw [r.non ew] at e; cases e), fun e => ?_⟩
              have mu : Mut (H3 a) := by rw [q]; exact True.intro
              obtain ⟨s4, rh4⟩ := rh3.put (u := .dK (putK ws j vz)) (o := .dic false (ptD kvs j z)) ea3 mu ⟨putK ws j vz, by unfold LkD; rw [if_neg Bool.false_ne_true]; exact upd_same, RKs.stb (Stb.wr mu) (r.put rz)⟩
              exact p3 _ _ s4 rh4 _ (rz.step s4)
            · exact p3.elim
        · exact p3.elim
    | _ => cases ht
  · exact p1.elim
/-! ### list(d.items()) -/
theorem RH.pushBig {K : PySem.W.Frag} {mg : Str → Option Value} {H' : Hp} {o : Ob} {p : Addr} (r : RH K mg ms H h) (k : ∀ b u, H b = some u → H' b = some u) (hp : H p = none) (ho : RO K mg (ms ++ [p]) H' p o) : Stp ms H (ms ++ [p]) H' ∧ RH K mg (ms ++ [p]) H' (h ++ [o]) := by
  have hn := r.notin hp
  have s : Stp ms H (ms ++ [p]) H' := ⟨⟨[p], rfl, fun b hb => by rw [List.mem_singleton.mp hb]; exact ⟨hp, hn⟩⟩, fun b u e _ => k b u e, fun b u e _ => k b u e⟩
  refine ⟨s, by simp [r.len], List.nodup_append.mpr ⟨r.nd, by simp, fun a ha b hb e => hn (by rw [← List.mem_singleton.mp hb, ← e]; exact ha)⟩, fun i o' a e1 e2 => ?_⟩
  by_cases hi : i < h.length
  · rw [List.getElem?_append_left hi] at e1
    rw [List.getElem?_append_left (by rw [r.len]; exact hi)] at e2
    exact (r.ok i o' a e1 e2).step s fun w e => k a w e
  · have h1 := (List.getElem?_eq_some_iff.mp e1).1
    have hi2 : i = h.length := by rw [List.length_append, List.length_singleton] at h1; omega
    subst hi2
    have e3 : o = o' := by simpa using e1
    have e4 : p = a := by rw [← r.len] at e2; simpa using e2
    subst e3 e4
    exact ho
def eItems (o : EM) : EM := fun env h => (o env h).bind fun x h1 => match x with
  | .ref n => match h1[n]? with
    | some (.dic false kvs) => .ok (.ref h1.length) (h1 ++ [.lst (kvs.map fun p => .tup [keyD p.1, p.2])])
    | _ => .no
  | _ => .no
theorem items_rv {K : PySem.W.Frag} {H' : Hp} : ∀ {kvs : List (Key × D)} {ws : List (Key × V)} {ts : List Addr}, RKs K ms H' kvs ws → Paired (fun (t : Addr) (q : Key × V) => H' t = some (.tup [kV q.1, q.2])) ts ws →
    RVs K ms H' (kvs.map fun p => .tup [keyD p.1, p.2]) (ts.map V.ref)
  | [], ws, ts, r, p => by
    have e : ws = [] := r
    subst e
    cases p
    exact .nil
  | (j, d) :: kvs, ws, ts, r, p => by
    obtain ⟨v, w, rfl, a, b⟩ := r
    cases p with
    | cons h t => exact .cons (by rw [RV]; exact ⟨_, _, rfl, .inl (.inl h), .cons (keyD_rv j) (.cons a .nil)⟩) (items_rv b t)
theorem ed_items {e : Expr} {fe : EM} {p apos cpos pos : Pos} (hc : X.calm = true) (he : ED X E e fe) (hg : Gl X "list") (hm : X.mg "list" = none) (hv : bootBuiltins "list" = some (.type "list")) (hbase : attributeBase e "items" X.env (eval e X.env) = eval e X.env := by rfl) (hline : (apos.endLine == cpos.line) = true := by rfl)
    (hs : starEach [.Call (.Attribute e "items" apos) [] [] cpos] X.env = (false, eval (.Call (.Attribute e "items" apos) [] [] cpos) X.env) :: starEach [] X.env := by rfl) :
    ED X E (.Call (.Name "list" p) [.Call (.Attribute e "items" apos) [] [] cpos] [] pos) (eItems fe) := by
  obtain ⟨te, pe, ee⟩ := he
  refine ⟨_, LiI.pe_listItems hc pe hg hm hv hbase hline hs, fun env h ms σ H Q re rh p => ee env h ms σ H _ re rh (Pg.bind (fun x h1 ms1 H1 s1 rh1 p1 vx rx => ?_) p)⟩
  split at p1
  · rename_i n
    obtain ⟨a, rfl, ea⟩ := rx.refd
    split at p1
    · rename_i kvs en
      obtain ⟨ws, q, r⟩ := rh1.dic en ea
      unfold LkD at q
      rw [if_neg Bool.false_ne_true] at q
      refine ⟨a, ws, rfl, q, fun H' pp ts k hpn ht hpt hpl hpair => ?_⟩
      have r' : RKs (cm X E).K (ms1 ++ [pp]) H' kvs ws := RKs.mono (fun b u e _ => k b u e) _ _ r
      obtain ⟨s2, rh2⟩ := RH.pushBig (o := .lst (kvs.map fun p => .tup [keyD p.1, p.2])) rh1 k hpn ⟨ts.map V.ref, hpl, items_rv r' hpair⟩
      exact p1 _ _ s2 rh2 _ (by rw [RV]; exact ⟨pp, rfl, by rw [← rh1.len]; simp⟩)
    · exact p1.elim
  · exact p1.elim
/-! ### displays of dicts -/
def eDict0 : EM := fun _ h => .ok (.ref h.length) (h ++ [.dic false []])
theorem ed_dict0 {pos : Pos} : ED X E (.Dict [] [] pos) eDict0 := ⟨_, pe_dnewK, fun env h ms σ H Q re rh p => new_dic (kvs := []) (ws := []) rh rfl p⟩
/-- {k: v}: one pair -/
def eDict1 (a b : EM) : EM := fun env h => (a env h).bind fun x h1 => (b env h1).bind fun y h2 => match dKey x with
  | some k => .ok (.ref h2.length) (h2 ++ [.dic false [(k, y)]])
  | none => .no
theorem ed_dict1 {a b : Expr} {fa fb : EM} {pos : Pos} (ha : ED X E a fa) (hb : ED X E b fb) : ED X E (.Dict [some a] [b] pos) (eDict1 fa fb) := by
  obtain ⟨ta, pa, ea⟩ := ha
  obtain ⟨tb, pb, eb⟩ := hb
  refine ⟨_, pe_disp (pps_cons pa pb pps_nil) rfl rfl (by simp) (by simp), fun env h ms σ H Q re rh p pp hp => ?_⟩
  have s0 := Stp.new ms (o := .dK []) hp
  have rh0 := rh.new (u := .dK []) hp
  refine ea env h ms σ _ _ (re.step s0) rh0 (Pg.bindAt s0 (fun x h1 ms1 H1 s1 rh1 p1 vx rx => eb env h1 ms1 σ H1 _ (re.step (s0.trans s1)) rh1 (Pg.bindAt (s0.trans s1) (fun y h2 ms2 H2 s2 rh2 p2 vy ry => ?_) p1)) p)
  split at p2
  · rename_i k ek
    obtain ⟨n2, e2, s3⟩ := (s1.trans s2).del hp (rh.notin hp) True.intro
    have rhd := rh2.del (p := pp) (by rw [e2]; exact True.intro) n2
    refine ⟨e2, [(k, vy)], by rw [List.map_cons, List.map_nil, rv_dKey ek rx], by simp, ?_⟩
    have z := new_dic (c := cm X E) (kvs := [(k, y)]) (ws := [(k, vy)]) rhd ⟨vy, [], rfl, ry.stb (Stb.del (by rw [e2]; exact True.intro)), rfl⟩ (p2.step s3) pp del_same
    have e3 : mergeK [] [(k, vy)] = [(k, vy)] := rfl
    rw [e3]
    have e4 : upd (del H2 pp) pp (.dK [(k, vy)]) = upd H2 pp (.dK [(k, vy)]) := by
      funext b
      by_cases q : b = pp
      · rw [q, upd_same, upd_same]
      · rw [upd_ne q, upd_ne q, del_ne q]
    rw [← e4]
    exact z
  · exact p2.elim
end
end PM

namespace PM
open PySem L2

/-! ### values that lean on no object -/
mutual
def pur : D → Bool
  | .tup xs => purs xs
  | .rol xs => purs xs
  | .ref _ => false
  | _ => true
def purs : List D → Bool
  | [] => true
  | x :: xs => pur x && purs xs
end
section
variable {K : PySem.W.Frag} {ms ms' : List Addr} {H H' : Hp}
mutual
theorem RV.pur : ∀ (d : D) (v : V), pur d = true → RV K ms H d v → RV K ms' H d v
  | .non, _, _, h => by rw [RV] at h ⊢; exact h
  | .bl _, _, _, h => by rw [RV] at h ⊢; exact h
  | .int _, _, _, h => by rw [RV] at h ⊢; exact h
  | .str _, _, _, h => by rw [RV] at h ⊢; exact h
  | .tup ds, v, p, h => by
    rw [pur] at p
    rw [RV] at h ⊢
    obtain ⟨a, vs, e, q, r⟩ := h
    exact ⟨a, vs, e, q, RVs.pur ds vs p r⟩
  | .rol ds, v, p, h => by
    rw [pur] at p
    rw [RV] at h ⊢
    obtain ⟨a, vs, e, q, r⟩ := h
    exact ⟨a, vs, e, q, RVs.pur ds vs p r⟩
  | .ref i, v, p, h => by rw [pur] at p; cases p
theorem RVs.pur : ∀ (ds : List D) (vs : List V), purs ds = true → RVs K ms H ds vs → RVs K ms' H ds vs
  | [], _, _, h => by rw [RVs] at h ⊢; exact h
  | d :: ds, vs, p, h => by
    rw [purs, Bool.and_eq_true] at p
    rw [RVs] at h ⊢
    obtain ⟨v, r, e, a, b⟩ := h
    exact ⟨v, r, e, RV.pur d v p.1 a, RVs.pur ds r p.2 b⟩
end
theorem RKs.pur {κ : Type} : ∀ (ds : List (κ × D)) (vs : List (κ × V)), (ds.all fun p => pur p.2) = true → RKs K ms H ds vs → RKs K ms' H ds vs
  | [], _, _, h => h
  | (k, d) :: ds, vs, p, h => by
    rw [List.all_cons, Bool.and_eq_true] at p
    obtain ⟨v, r, e, a, b⟩ := h
    exact ⟨v, r, e, RV.pur d v p.1 a, RKs.pur ds r p.2 b⟩
end
/-! ### what a def promises -/
abbrev FM := List D → AH → R D
def spM (K : PySem.W.Frag) (mg : Str → Option Value) (n : Nat) (f : FM) : Sp := fun vs H Q E => vs.length = n ∧ ∃ ms h ds, RH K mg ms H h ∧ RVs K ms H ds vs ∧ Pg ⟨K, mg, E⟩ ms H (PV ⟨K, mg, E⟩ Q) (noX (f ds h))
def bodyM (slots : Nat) (b : SM) : FM := fun ds h => (b (ds.map some ++ List.replicate (slots - ds.length) none) h).bind fun fl h1 => match fl with
  | .rt d => .ok d h1
  | .nx _ => .ok .non h1
  | _ => .no
theorem re_start {K : PySem.W.Frag} {ms : List Addr} {H : Hp} {N : List Str} : ∀ {ds : List D} {vs : List V}, RVs K ms H ds vs → RE K ms H (ds.map some ++ List.replicate (N.length - ds.length) none) (L2.start N vs) := fun {ds vs} r => by
  have hl := r.length
  refine ⟨by simp [L2.start, hl], fun i d e => ?_⟩
  unfold L2.start
  by_cases hi : i < ds.length
  · rw [List.getElem?_append_left (by simpa using hi), List.getElem?_map] at e
    have e2 : ds[i]? = some d := by
      cases q : ds[i]? with
      | none => rw [q] at e; cases e
      | some x => rw [q] at e; cases e; rfl
    obtain ⟨v, e3, rv⟩ := r.get e2
    refine ⟨v, ?_, rv⟩
    rw [List.getElem?_append_left (by rw [List.length_map, hl]; exact hi), List.getElem?_map, e3]; rfl
  · rw [List.getElem?_append_right (by simpa using hi)] at e
    rw [List.getElem?_replicate] at e
    split at e <;> cases e
section
variable {P : Program} {w : World} {K : PySem.W.Frag} {mg : Str → Option Value} {base : Heap}
/-- a def by its body -/
theorem fn_body {x qual : Str} {st : Stmt} {f : Addr} {fd : FuncData} {N ps : List Str} {k : Nat} {m : SM} (F : Fun K x qual st f fd) (S : FnScope N ps (defScope st))
    (hb : ∀ (cdv : Value) (A : Around) (outer : List PySem.Env) (s : Shared) (H : Hp) (E : XK), Room k (A.deeper (PyProof.Rows.envOfC qual (defScope st) s.heap.objs.size f cdv)) → SDs (cxOf CX0 P w K mg base N qual (defScope st) f cdv A outer s H E).nox E0 (defBody st) m) :
    FnOk P w K mg base CX0 (k + 1) f fd ps (spM K mg ps.length (bodyM N.length m)) := by
  refine F.ok S (fun vs H Q E h => h.1) fun cdv A outer s H vs Q E hr h => ?_
  obtain ⟨t, pt, et⟩ := hb cdv A outer s H E hr
  obtain ⟨hl, ms, hh, ds, rh, rs, p⟩ := h
  refine ⟨t, pt, et _ hh ms _ H _ (re_start rs) rh ?_⟩
  have p : Pg ⟨K, mg, E0⟩ ms H (PV ⟨K, mg, E0⟩ Q) (noX (bodyM N.length m ds hh)) := by
    have := Pg.nox (E := E0) (r := noX (bodyM N.length m ds hh)) (by
      cases z : bodyM N.length m ds hh with
      | no => rw [z] at p; exact p
      | ok a b => rw [z] at p; exact p
      | ex a b => rw [z] at p; exact p)
    exact this
  have p : Pg ⟨K, mg, E0⟩ ms H (PV ⟨K, mg, E0⟩ Q) (bodyM N.length m ds hh) := Pg.nox (E := E0) p
  unfold bodyM at p
  refine Pg.bind (fun fl h1 ms1 H1 s1 rh1 p1 => ?_) p
  cases fl with
  | nx e => exact fun σ' re' => Pg.here rh1 p1 .non rv_non
  | rt d => exact fun v r => Pg.here rh1 p1 v r
  | bk e => exact p1.elim
  | ct e => exact p1.elim
/-- a def of the module under its name -/
structure DOk (P : Program) (w : World) (K : PySem.W.Frag) (mg : Str → Option Value) (base : Heap) (k : Nat) (x : Str) (n : Nat) (f : FM) : Prop where
  ex : ∃ (fa : Addr) (fd : FuncData) (ps : List Str), mg x = some (.ref fa) ∧ PySem.W.keepIn K (.ref fa) = true ∧ Binds K fd ps [] ∧ FnOk P w K mg base CX0 k fa fd ps (spM K mg n f)
theorem DOk.mono {j k : Nat} {x : Str} {n : Nat} {f : FM} (d : DOk P w K mg base j x n f) (h : j ≤ k) : DOk P w K mg base k x n f := by
  obtain ⟨fa, fd, ps, h1, h2, h3, h4⟩ := d.ex
  exact ⟨fa, fd, ps, h1, h2, h3, h4.mono h⟩
/-- a def that the text tells: under its name, its arguments bound -/
structure Told (K : PySem.W.Frag) (mg : Str → Option Value) (x : Str) (st : Stmt) (ps : List Str) : Prop where
  ex : ∃ (fa : Addr) (fd : FuncData), Fun K x x st fa fd ∧ mg x = some (.ref fa) ∧ Binds K fd ps []
theorem DOk.body {x : Str} {st : Stmt} {N ps : List Str} {k : Nat} {m : SM} (T : Told K mg x st ps) (S : FnScope N ps (defScope st))
    (hb : ∀ (f : Addr) (cdv : Value) (A : Around) (outer : List PySem.Env) (s : Shared) (H : Hp) (E : XK), Room k (A.deeper (PyProof.Rows.envOfC x (defScope st) s.heap.objs.size f cdv)) → SDs (cxOf CX0 P w K mg base N x (defScope st) f cdv A outer s H E).nox E0 (defBody st) m) :
    DOk P w K mg base (k + 1) x ps.length (bodyM N.length m) := by
  obtain ⟨fa, fd, F, hm, hb2⟩ := T.ex
  exact ⟨fa, fd, ps, hm, F.kp, hb2, fn_body F S (hb fa)⟩
/-- a def of which nothing is asked -/
theorem DOk.zero {x : Str} {st : Stmt} {ps : List Str} {k : Nat} (T : Told K mg x st ps) : DOk P w K mg base k x ps.length (fun _ _ => .no) := by
  obtain ⟨fa, fd, F, hm, hb2⟩ := T.ex
  exact ⟨fa, fd, ps, hm, F.kp, hb2, fun _ _ _ _ h => h.1, fun _ _ _ _ _ _ _ _ _ _ _ _ _ h => by
    obtain ⟨_, _, _, _, _, _, p⟩ := h
    exact p.elim⟩
end
/-! ### calls -/
def eCall (a : AM) (f : FM) : EM := fun env h => (a env h).bind fun ds h1 => noX (f ds h1)
/-- what a call made, told here -/
def impD (d : D) (h' h : AH) : R D := if pur d = true then .ok d h else match d with
  | .ref n => match h'[n]? with
    | some (.lst xs) => if purs xs = true then .ok (.ref h.length) (h ++ [.lst xs]) else .no
    | some (.dic false kvs) => if (kvs.all fun p => pur p.2) = true then .ok (.ref h.length) (h ++ [.dic false kvs]) else .no
    | _ => .no
  | _ => .no
def runP (f : FM) (ds : List D) (h : AH) : R D := if purs ds = true then match f ds [] with
  | .ok d h' => impD d h' h
  | _ => .no else .no
def eCallP (a : AM) (f : FM) : EM := fun env h => (a env h).bind fun ds h1 => runP f ds h1
section
variable {X : Cx} {E : XK} {k n : Nat} {x : Str} {f : FM} {e : Expr} {es : List Expr} {g : AM} {p pos : Pos}
theorem ed_call (d : DOk X.prog X.w X.K X.mg X.base k x n f) (hr : Room k X.A) (hg : Gl X x) (ha : AD X E n (e :: es) g) (hdb : (x == ("__debug__" : Str)) = false := by decide)
    (he : starEach (e :: es) X.env = (false, eval e X.env) :: starEach es X.env := by rfl) (hpl : (backTo pos (starEach es X.env)).any (·.1) = false := by rfl) : ED X E (.Call (.Name x p) (e :: es) [] pos) (eCall g f) := by
  obtain ⟨fa, fd, ps, h1, h2, h3, h4⟩ := d.ex
  obtain ⟨t, pt, lt, et⟩ := ha
  refine ⟨_, pe_call (E := E) h4 hr hg h1 h2 h3 .nil (fun _ _ _ _ _ _ _ h => h.elim) pt hdb he hpl, fun env h ms σ H Q re rh p => ?_⟩
  unfold eCall at p
  cases z : g env h with
  | no => rw [z] at p; exact p.elim
  | ex e' h1 => rw [z] at p; exact et env h ms σ H _ re rh (by rw [z]; exact p)
  | ok ds h1 =>
    have hl := lt env h ds h1 z
    refine et env h ms σ H _ re rh ?_
    rw [z] at p ⊢
    intro ms1 H1 s1 rh1 vs rs
    rw [List.append_nil]
    exact ⟨by rw [rs.length, hl], ms1, h1, ds, rh1, rs, Pg.step s1 p⟩
theorem RH.nil {K : PySem.W.Frag} {mg : Str → Option Value} {H : Hp} : RH K mg [] H [] := ⟨rfl, List.nodup_nil, fun i o a e => by simp at e⟩
/-- where nothing that was told has changed -/
theorem stp_of_nil {ms ms' : List Addr} {H H' : Hp} (s : Stp [] H ms' H') : Stp ms H ms H' := ⟨⟨[], by simp, fun _ h => nomatch h⟩, fun b o e _ => s.frm b o e (by simp), s.stb⟩
theorem ed_callP (d : DOk X.prog X.w X.K X.mg X.base k x n f) (hr : Room k X.A) (hg : Gl X x) (ha : AD X E n (e :: es) g) (hdb : (x == ("__debug__" : Str)) = false := by decide)
    (he : starEach (e :: es) X.env = (false, eval e X.env) :: starEach es X.env := by rfl) (hpl : (backTo pos (starEach es X.env)).any (·.1) = false := by rfl) : ED X E (.Call (.Name x p) (e :: es) [] pos) (eCallP g f) := by
  obtain ⟨fa, fd, ps, h1, h2, h3, h4⟩ := d.ex
  obtain ⟨t, pt, lt, et⟩ := ha
  refine ⟨_, pe_call (E := E) h4 hr hg h1 h2 h3 .nil (fun _ _ _ _ _ _ _ h => h.elim) pt hdb he hpl, fun env h ms σ H Q re rh p => ?_⟩
  unfold eCallP at p
  cases z : g env h with
  | no => rw [z] at p; exact p.elim
  | ex e' h1 => rw [z] at p; exact et env h ms σ H _ re rh (by rw [z]; exact p)
  | ok ds h1 =>
    have hl := lt env h ds h1 z
    refine et env h ms σ H _ re rh ?_
    rw [z] at p ⊢
    intro ms1 H1 s1 rh1 vs rs
    rw [List.append_nil]
    have p := Pg.step s1 p
    rw [R.bind_ok] at p
    unfold runP at p
    split at p
    · rename_i hp
      split at p
      · rename_i r h' ef
        refine ⟨by rw [rs.length, hl], [], [], ds, RH.nil, RVs.pur ds vs hp rs, ?_⟩
        rw [ef, noX_ok]
        intro ms2 H2 s2 rh2 v rv
        have s2' := stp_of_nil (ms := ms1) s2
        have keep : ∀ b u, H1 b = some u → H2 b = some u := fun b u e => s2.frm b u e (by simp)
        unfold impD at p
        split at p
        · exact p ms1 H2 s2' (rh1.keep s2' fun a _ u e => keep a u e) v (RV.pur r v ‹_› rv)
        · split at p
          · rename_i n
            obtain ⟨a, rfl, ea⟩ := rv.refd
            have hna : H1 a = none := by
              obtain ⟨tt, e1, ht⟩ := s2.ext
              rw [List.nil_append] at e1
              subst e1
              exact (ht a (List.mem_of_getElem? ea)).1
            have rvn : RV X.K (ms1 ++ [a]) H2 (.ref h1.length) (.ref a) := by rw [RV]; exact ⟨a, rfl, by rw [← rh1.len]; simp⟩
            split at p
            · rename_i xs en
              split at p
              · rename_i hx
                obtain ⟨us, q, ru⟩ := rh2.lst en ea
                obtain ⟨s3, rh3⟩ := RH.pushBig (o := .lst xs) rh1 keep hna ⟨us, q, RVs.pur xs us hx ru⟩
                exact p _ _ s3 rh3 _ rvn
              · exact p.elim
            · rename_i kvs en
              split at p
              · rename_i hx
                obtain ⟨us, q, ru⟩ := rh2.dic en ea
                obtain ⟨s3, rh3⟩ := RH.pushBig (o := .dic false kvs) rh1 keep hna ⟨us, q, RKs.pur kvs us hx ru⟩
                exact p _ _ s3 rh3 _ rvn
              · exact p.elim
            · exact p.elim
          · exact p.elim
      · exact p.elim
    · exact p.elim
end
end PM

namespace PM
open PySem L2

/-! ### and, or, not as values -/
def eAnd (a b : EM) : EM := fun env h => (a env h).bind fun x h1 => (oTru x h1).bind fun k h2 => if k = true then b env h2 else .ok x h2
def eOr (a b : EM) : EM := fun env h => (a env h).bind fun x h1 => (oTru x h1).bind fun k h2 => if k = true then .ok x h2 else b env h2
def eNot (a : EM) : EM := fun env h => (a env h).bind fun x h1 => (oTru x h1).bind fun k h2 => .ok (.bl (!k)) h2
theorem oTru_same {d : D} {h h1 : AH} {k : Bool} (e : oTru d h = .ok k h1) : h1 = h := by
  unfold oTru at e
  split at e
  · cases e; rfl
  · cases e; rfl
  · cases e; rfl
  · split at e
    · cases e; rfl
    · cases e
  · cases e; rfl
  · cases e; rfl
  · split at e
    · cases e; rfl
    · cases e; rfl
    · cases e
theorem oTru_cases (d : D) (h : AH) : (∃ k, oTru d h = .ok k h) ∨ oTru d h = .no := by
  cases e : oTru d h with
  | ok k h1 => rw [oTru_same e]; exact .inl ⟨k, rfl⟩
  | no => exact .inr rfl
  | ex x h1 =>
    unfold oTru at e
    split at e <;> first | cases e | (split at e <;> cases e)
section
variable {X : Cx} {E : XK} {a b : Expr} {fa fb : EM} {rest : List Expr} {pos : Pos} {c : Cm}
theorem tru_k {x : D} {vx : V} {h : AH} {ms : List Addr} {H : Hp} {k : Bool} (rh : RH c.K c.mg ms H h) (rx : RV c.K ms H x vx) (e : oTru x h = .ok k h) : TruV c.K vx H k := by
  have p : Pg c ms H (PB fun k' _ => k' = k) (oTru x h) := by rw [e]; exact fun _ _ _ _ => rfl
  obtain ⟨k', t, q⟩ := tru_m rh rx p
  subst q
  exact t
theorem ed_one {op : BoolOp} (ha : ED X E a fa) : ED X E (.BoolOp op [a] pos) fa := by
  obtain ⟨t, pt, et⟩ := ha
  exact ⟨t, pe_one pt, et⟩
theorem ed_and (ha : ED X E a fa) (hb : ED X E (.BoolOp .And (b :: rest) pos) fb) : ED X E (.BoolOp .And (a :: b :: rest) pos) (eAnd fa fb) := by
  obtain ⟨ta, pa, ea⟩ := ha
  obtain ⟨tb, pb, eb⟩ := hb
  refine ⟨_, pe_andT pa pb, fun env h ms σ H Q re rh p => ea env h ms σ H _ re rh (Pg.bind (fun x h1 ms1 H1 s1 rh1 p1 vx rx => ?_) p)⟩
  rcases oTru_cases x h1 with ⟨k, e⟩ | e
  · rw [e, R.bind_ok] at p1
    refine ⟨k, tru_k (c := cm X E) rh1 rx e, ?_⟩
    cases k with
    | true => exact eb env h1 ms1 σ H1 Q (re.step s1) rh1 p1
    | false => exact Pg.here rh1 p1 vx rx
  · rw [e] at p1; exact p1.elim
theorem ed_or (ha : ED X E a fa) (hb : ED X E (.BoolOp .Or (b :: rest) pos) fb) : ED X E (.BoolOp .Or (a :: b :: rest) pos) (eOr fa fb) := by
  obtain ⟨ta, pa, ea⟩ := ha
  obtain ⟨tb, pb, eb⟩ := hb
  refine ⟨_, pe_orT pa pb, fun env h ms σ H Q re rh p => ea env h ms σ H _ re rh (Pg.bind (fun x h1 ms1 H1 s1 rh1 p1 vx rx => ?_) p)⟩
  rcases oTru_cases x h1 with ⟨k, e⟩ | e
  · rw [e, R.bind_ok] at p1
    refine ⟨k, tru_k (c := cm X E) rh1 rx e, ?_⟩
    cases k with
    | false => exact eb env h1 ms1 σ H1 Q (re.step s1) rh1 p1
    | true => exact Pg.here rh1 p1 vx rx
  · rw [e] at p1; exact p1.elim
theorem ed_not (ha : ED X E a fa) : ED X E (.UnaryOp .Not a pos) (eNot fa) := by
  obtain ⟨ta, pa, ea⟩ := ha
  refine ⟨_, pe_notT pa, fun env h ms σ H Q re rh p => ea env h ms σ H _ re rh (Pg.bind (fun x h1 ms1 H1 s1 rh1 p1 vx rx => ?_) p)⟩
  rcases oTru_cases x h1 with ⟨k, e⟩ | e
  · rw [e, R.bind_ok] at p1
    exact ⟨k, tru_k (c := cm X E) rh1 rx e, Pg.here (P := PV (cm X E) Q) rh1 p1 _ rv_bl⟩
  · rw [e] at p1; exact p1.elim
end
/-! ### sorted(set(xs)), xs a list of texts -/
def oSortSet : D → AH → R D := fun d h => match lstOf d h with
  | some (true, xs) => match allS xs with
    | some ns => if ns.length < 64 then .ok (.ref h.length) (h ++ [.lst ((srtS ns.eraseDups).map .str)]) else .no
    | none => .no
  | _ => .no
def eSortSet (a : EM) : EM := fun env h => (a env h).bind oSortSet
end PM

namespace PM
open PySem L2 PyProof.Rows PySem.Froz
/-! ### a set of texts in the heap, and what goes into it -/
/-- the set of the texts l at a, that one can walk -/
def SetT (P : Program) (w : World) (h : Heap) (a : Addr) (l : List Str) : Prop :=
  ∃ D : PySem.Froz.SD, h.get? a = some (sObj "set" D) ∧ TxOk P w D l ∧ l.Nodup ∧ Ris D.2.2.place.toList ∧ (w.params.followText "set-order" = true ∨ D.2.2.led = true)
def addL (l : List Str) (k : Str) : List Str := if k ∈ l then l else k :: l
section
variable {P : Program} {w : World} {A : Around} {E : Value → Shared → Prop} {s : Shared} {a : Addr} {l : List Str}
theorem addTx_good (i : Int) (v : Value) {D : PySem.Froz.SD} (r : Ris D.2.2.place.toList) (hl : w.params.followText "set-order" = true ∨ D.2.2.led = true) :
    Ris (addTx i v D).2.2.place.toList ∧ (w.params.followText "set-order" = true ∨ (addTx i v D).2.2.led = true) := by
  obtain ⟨es, ep, t⟩ := D
  have r1 := layNew_ris t es i v r
  have l1 := layNew_led t es i v
  unfold addTx
  simp only
  generalize layNew t es i v = Z at r1 l1 ⊢
  have both : ∀ (u : SetTable), u.place = Z.2.1.place → u.led = Z.2.1.led → ∀ (es1 : Array (Int × Value)) (b : Bool),
      Ris (tailTx ep es1 u b).2.2.place.toList ∧ (w.params.followText "set-order" = true ∨ (tailTx ep es1 u b).2.2.led = true) := fun u e1 e2 es1 b => by
    unfold tailTx
    split
    · exact ⟨relayAll_ris _ _ _, hl.imp id fun z => by simp only; rw [relayAll_led, e2, l1]; exact z⟩
    · exact ⟨by simp only; rw [e1]; exact r1, hl.imp id fun z => by simp only; rw [e2, l1]; exact z⟩
  split
  · refine both _ ?_ ?_ _ _ <;> rfl
  · refine both _ ?_ ?_ _ _ <;> rfl
theorem found_x {D : PySem.Froz.SD} {k : Str} {u : Tok} {Q : Bool → Shared → Prop} (ho : s.heap.get? a = some (sObj "set" D)) (F : TxOk P w D l) (hk : k ∈ l) (hb : l.length < scanBound) (q : Q false s) :
    wpAny (model P w) A (setAddHashed a (.str k u) (hashStr w k)) Q E s := by
  obtain ⟨es, ep, t⟩ := D
  have hd : (sObj "set" (es, ep, t)).data = .set es ep t := rfl
  have hel : ElemsOf (strKind P w) es.toList := F.el
  have hfit : t.fits es.size = true := F.fit
  have hsize : es.size = l.length := F.sz
  unfold setAddHashed setAddHashedIn
  refine wpAny_holding ?_; refine wpAny_bind ?_; refine wpAny_setState_of ho hd hfit ?_
  dsimp only
  rw [byScan_of rfl (by omega) hel]; simp only [↓reduceIte]; unfold setAddByScan
  refine wpAny_bind ?_; refine wpAny_bind ?_; refine wpAny_rule ?_; refine wpAny_bind ?_
  refine wpAny_setScan_of (knd := strKind P w) (k := k) (is_str k u) ho hd hfit hel ?_
  cases hfi : List.findIdx? (fun e => (strKind P w).is k e.2) es.toList with
  | some j => exact wpAny_pure (wpAny_pure q)
  | none =>
    obtain ⟨e, he, z⟩ := (F.mem k).mp hk
    have c := List.findIdx?_eq_none_iff.mp hfi e he
    rw [z] at c
    cases c
theorem setT_add {k : Str} {u : Tok} {Q : Bool → Shared → Prop} (R : SetT P w s.heap a l) (hb : l.length + 1 < scanBound)
    (q : ∀ b h', (∀ c, c ≠ a → h'.get? c = s.heap.get? c) → s.heap.objs.size = h'.objs.size → SetT P w h' a (addL l k) → Q b { s with heap := h' }) :
    wpAny (model P w) A (setAddHashed a (.str k u) (hashStr w k)) Q E s := by
  obtain ⟨D, ho, F, nd, r, hl⟩ := R
  by_cases hk : k ∈ l
  · refine found_x ho F hk (by omega) ?_
    exact q false s.heap (fun _ _ => rfl) rfl ⟨D, ho, by unfold addL; rw [if_pos hk]; exact F, by unfold addL; rw [if_pos hk]; exact nd, r, hl⟩
  · refine add_x ho F hk hb ?_
    obtain ⟨r2, hl2⟩ := addTx_good (w := w) (hashStr w k) (.str k u) r hl
    refine q true _ (fun c hc => Heap.get?_update_other _ _ (Ne.symm hc)) ?_ ⟨_, get_upd _ ho rfl, by unfold addL; rw [if_neg hk]; exact add_ok u F, by unfold addL; rw [if_neg hk]; exact List.nodup_cons.mpr ⟨hk, nd⟩, r2, hl2⟩
    simp [Heap.update]
theorem setT_fresh {h : Heap} : SetT P w (h.push { cls := .type "set", dict := none, data := .set #[] 0 (.fresh 0 0 (!w.params.followText "set-order")) }) h.objs.size [] :=
  ⟨(#[], 0, .fresh 0 0 (!w.params.followText "set-order")), Heap.get?_push_size _ rfl, TxOk.nil rfl, List.nodup_nil, List.Pairwise.nil, by
    show _ ∨ (!w.params.followText "set-order") = true
    cases w.params.followText "set-order" with
    | false => exact .inr rfl
    | true => exact .inl rfl⟩
end
end PM

namespace PM
open PySem L2 PyProof.Rows PySem.Froz
/-! ### set(xs): the loop, the call -/
def firstT (val : Nat → Str) : Nat → List Str
  | 0 => []
  | i + 1 => addL (firstT val i) (val i)
theorem firstT_len (val : Nat → Str) : ∀ i, (firstT val i).length ≤ i
  | 0 => Nat.le_refl _
  | i + 1 => by
    have := firstT_len val i
    unfold firstT addL
    split
    · omega
    · rw [List.length_cons]; omega
theorem SetT.at {P : Program} {w : World} {h h' : Heap} {a : Addr} {l : List Str} (R : SetT P w h a l) (k : ∀ o, h.get? a = some o → h'.get? a = some o) : SetT P w h' a l := by
  obtain ⟨D, ho, rest⟩ := R
  exact ⟨D, k _ ho, rest⟩
section
variable {prog : Program} {w : World} {A : Around} {R : Result → Shared → Prop} {I : Addr} {fp wr : List Addr} {G : Array GenState → Array GenState → Prop} {n : Nat} {P : Nat → Value → Prop} {St : Nat → Shared → Prop}
theorem loopT (W : WalksS prog w A.in1 I fp wr G n P St) (S : Addr) (hSf : S ∉ fp) (val : Nat → Str) (hval : ∀ i v, P i v → ∃ t, v = .str (val i) t) (hb : n + 1 < scanBound) : ∀ (k i : Nat) (s : Shared), n - i = k → i ≤ n → St i s → SetT prog w s.heap S (firstT val i) →
    (∀ s', Moved (S :: wr) G s s' → SetT prog w s'.heap S (firstT val n) → R (.ok (.ret .none)) s') → codeAny (model prog w) A (.builtin "set.update.loop" ⟨[.ref S, .ref I], []⟩) R s := by
  have notw : S ∉ wr := fun h => hSf (W.sub _ h)
  have wide : ∀ b ∈ wr, b ∈ S :: wr := fun b hb => List.mem_cons_of_mem _ hb
  intro k
  induction k with
  | zero =>
    intro i s hk hi hst hS hR
    obtain rfl : i = n := by omega
    refine codeAny_builtin PyProof.Rows.F.entry_set_update_loop ?_; rw [Around.under_plainId PyProof.Rows.F.plain_set_update_loop _]
    show wpAny _ A.in1 (pyNext (.ref I) >>= _) _ _ s; refine wpAny_bind ?_
    refine W.done s _ _ hst fun s' hm => ?_
    show wpAny _ A.in1 (ret Value.none) _ _ s'; refine wpAny_pure ?_
    exact hR s' (hm.mono wide) (hS.at fun o e => hm.heap S _ notw e)
  | succ k ih =>
    intro i s hk hi hst hS hR
    have hlt : i < n := by omega
    refine codeAny_builtin PyProof.Rows.F.entry_set_update_loop ?_; rw [Around.under_plainId PyProof.Rows.F.plain_set_update_loop _]
    show wpAny _ A.in1 (pyNext (.ref I) >>= _) _ _ s; refine wpAny_bind ?_
    refine W.item i s _ _ hlt hst fun v s1 hP st1 hm => ?_
    obtain ⟨t, rfl⟩ := hval i v hP
    have S1 : SetT prog w s1.heap S (firstT val i) := hS.at fun o e => hm.heap S _ notw e
    show wpAny _ A.in1 (holding [Value.str (val i) t] (setAdd S (.str (val i) t)) >>= _) _ _ s1; refine wpAny_bind ?_; refine wpAny_holding ?_
    unfold setAdd
    refine wpAny_holding ?_; refine wpAny_bind ?_
    refine (strKind prog w).pyHash (k := val i) (is_str _ _) ?_
    refine setT_add (s := { s1 with toks := s1.toks + 1 }) S1 (by have := firstT_len val i; omega) fun b h' oth hz S2 => ?_
    refine wpAny_pure ⟨plainId_quiet PyProof.Rows.F.plain_set_update_loop _, ?_⟩
    refine ih (i + 1) _ (by omega) hlt (W.frame _ s1 _ _ st1 (Nat.le_succ _) fun b hb o e => ?_) S2 fun s2 hm2 S3 => ?_
    · rw [oth b fun z => hSf (by rw [← z]; exact hb)]; exact e
    · refine hR s2 ?_ S3
      refine Moved.trans W.gtrans ((hm.mono wide).then_heap (Nat.le_succ _) fun b o nb e => ?_) hm2
      rw [oth b fun z => nb (by rw [z]; exact List.mem_cons_self)]; exact e
end
section
variable {prog : Program} {w : World} {A : Around} {E : Value → Shared → Prop} {s : Shared}
abbrev newT (w : World) : Obj := { cls := .type "set", dict := none, data := .set #[] 0 (.fresh 0 0 (!w.params.followText "set-order")) }
theorem newT_code (a : Value) {Q₁ : Value → Shared → Prop} (h : Q₁ (.ref s.heap.objs.size) { s with heap := s.heap.push (newT w) }) :
    codeAny (model prog w) A (.call (.builtin "set.__new__") ⟨[.type "set", a], []⟩) (wants Q₁ E) s := by
  refine codeAny_of_tree ?_; show wpAny _ A.in1 (do checkBuiltinCall "set.__new__" ⟨[.type "set", a], []⟩; again (.builtin "set.__new__" ⟨[.type "set", a], []⟩)) _ _ s
  refine wpAny_bind ?_; refine wpAny_of_eq (F.newCall_set_1 a) ?_; refine wpAny_pure ⟨plainId_quiet F.plain_set_new _, ?_⟩; refine codeAny_builtin F.entry_set_new ?_
  rw [Around.under_plainId F.plain_set_new _]; unfold Builtin.«set.__new__» Builtin.Frozenset.newClass
  have sub := sub_set_self
  obtain ⟨hp, g, d, tk, os⟩ := s; dsimp only; wp_walk
  refine wpAny_askSetting ?_; refine wpAny_pure ?_; dsimp only; simp only [newObj]
  refine wpAny_bind ?_; refine wpAny_alloc ?_; refine wpAny_pure ?_; exact wpAny_pure h
end
end PM

namespace PM
open PySem L2 PyProof.Rows PySem.Froz
section
variable {prog : Program} {w : World} {A : Around} {E : Value → Shared → Prop} {s : Shared}
theorem strs_at2 : ∀ {vs : List Value} {ns : List Str}, StrsAre vs ns → ∀ (i : Nat) (v : Value), vs[i]? = some v → ∃ t, v = .str (ns.getD i ⟨#[]⟩) t
  | _, _, .nil, i, v, e => by simp at e
  | _, _, .cons x t r, 0, v, e => ⟨t, by simpa using e.symm⟩
  | _, _, .cons x t r, i + 1, v, e => by
    obtain ⟨u, q⟩ := strs_at2 r i v (by simpa using e)
    exact ⟨u, by simpa using q⟩
theorem call_setT {l : Addr} {items : Array Value} {ns : List Str} {Q : Value → Shared → Prop} (hh : A.handled = none) (hl : s.heap.IsList l items) (hi : StrsAre items.toList ns) (hb : items.size + 1 < scanBound)
    (h : ∀ (h' : Heap) (tk : Nat), SetT prog w h' s.heap.objs.size (firstT (fun i => ns.getD i ⟨#[]⟩) items.size) → (∀ b o, b < s.heap.objs.size → s.heap.get? b = some o → h'.get? b = some o) → Q (.ref s.heap.objs.size) { s with heap := h', toks := tk }) :
    wpAny (model prog w) A (call (.type "set") [.ref l]) Q E s := by
  obtain ⟨c, tl, hmro⟩ := F.called_set.mro
  have hmade := F.called_set.made
  have hsub := F.called_set.sub
  refine wpAny_call ?_; refine codeAny_of_tree ?_
  show wpAny _ _ (callAny (.type "set") _) _ _ _; refine wpAny_pure ⟨Code.quiet_builtin _ (by decide +kernel), ?_⟩
  refine codeAny_builtin F.entry_type_call ?_; rw [Around.under_plain (weight_type_call_type "set" [.ref l] []) rfl]
  have h1 := F.called_set.notType
  have h2 := F.called_set.canCreate
  have hct := F.typeCall_set_1 (.ref l)
  repeat (any_goals (first | assumption | wp_step))
  refine codeAny_mono (newT_code (.ref l) (E := E) (Q₁ := fun obj s₁ => obj = .ref s.heap.objs.size ∧ s₁ = { s with heap := s.heap.push (newT w) }) ⟨rfl, rfl⟩) fun r s₁ hr => ?_
  cases r with
  | error e => exact hr
  | ok fl =>
    cases fl with
    | ret obj =>
      obtain ⟨rfl, rfl⟩ := hr
      have hS : (s.heap.push (newT w)).get? s.heap.objs.size = some (newT w) := Heap.get?_push_size _ rfl
      have hT : Shared.TypeIs { s with heap := s.heap.push (newT w) } (.ref s.heap.objs.size) "set" := ⟨_, hS, rfl⟩
      have hli := F.called_set.init.lookup
      have hbi := F.called_set.init.bind (.ref s.heap.objs.size)
      repeat (any_goals (first | assumption | wp_step))
      refine codeAny_mono (codeAny_call_builtin (R := wants (fun r s₂ => r = .none ∧ ∃ h' tk, s₂ = { s with heap := h', toks := tk } ∧
          SetT prog w h' s.heap.objs.size (firstT (fun i => ns.getD i ⟨#[]⟩) items.size) ∧ ∀ b o, b < s.heap.objs.size → s.heap.get? b = some o → h'.get? b = some o) E) F.called_set.init.plain F.entry_set_init (check_set_init_1 hT ?_)) fun r₂ s₂ hr₂ => ?_
      · obtain ⟨ol, hol, hcl, nl, hdl⟩ := hl
        obtain ⟨ocls, odict, odata, oslots⟩ := ol
        simp only at hcl hdl
        subst hcl; subst hdl
        have hol2 : (s.heap.push (newT w)).get? l = some { cls := .type "list", dict := odict, data := .seq items nl, slots := oslots } := Heap.get?_push_of_some _ hol
        have s1 := F.sub_list_set
        have s2 := F.sub_list_frozenset
        have ne : (Value.type "list" == Value.type "dict") = false := by decide
        have hl1 : (s.heap.push (newT w)).IsList l items := ⟨_, hol2, rfl, nl, rfl⟩
        unfold Builtin.«set.__init__» noKeywords Builtin.Frozenset.updateFrom
        generalize hPI : pyIter = PI
        wp_walk
        subst hPI
        refine wpAny_pyIter_list hl1 ?_
        refine wpAny_bind ?_; refine wpAny_runValue ?_
        have lt : l < s.heap.objs.size := Heap.lt_size hol
        have hh3 : A.in1.in1.in1.handled = none := by simp [hh]
        have nI : l ≠ (s.heap.push (newT w)).objs.size := by rw [Heap.size_push]; exact Nat.ne_of_lt (Nat.lt_succ_of_lt lt)
        have nS : s.heap.objs.size ∉ [(s.heap.push (newT w)).objs.size, l] := by
          rw [Heap.size_push]; simp only [List.mem_cons, List.mem_singleton, List.not_mem_nil, or_false, not_or]; exact ⟨Nat.ne_of_lt (Nat.lt_succ_self _), Nat.ne_of_gt lt⟩
        have hval : ∀ (i : Nat) (v : Value), items[i]? = some v → ∃ t, v = .str ((fun i => ns.getD i ⟨#[]⟩) i) t := fun i v hv => strs_at2 hi i v (by rw [Array.getElem?_toList]; exact hv)
        refine loopT ((Walks.list hh3 _ l nI items).toS) s.heap.objs.size nS (fun i => ns.getD i ⟨#[]⟩) hval hb (items.size - 0) 0 _ (by omega) (Nat.zero_le _) ⟨⟨_, Heap.get?_push_size _ rfl, rfl, rfl⟩, (hl1.push _)⟩ ?hS0 ?hR
        case hS0 => exact SetT.at setT_fresh fun o e => Heap.get?_push_of_some _ e
        case hR =>
          intro s' hm hS'
          obtain ⟨h', g', d', tk', os'⟩ := s'
          obtain rfl : g' = s.gens := hm.gens
          obtain rfl : d' = s.drawn := hm.drawn
          obtain rfl : os' = s.os := hm.os
          show wpAny _ _ _ _ _ _; refine wpAny_pure ?_
          show wpAny _ _ (ret Value.none) _ _ _
          refine wpAny_pure ⟨rfl, h', tk', rfl, hS', fun b o hb e => ?_⟩
          have b1 : b ≠ s.heap.objs.size := Nat.ne_of_lt hb
          have b2 : b ≠ (s.heap.push (newT w)).objs.size := by rw [Heap.size_push]; exact Nat.ne_of_lt (Nat.lt_succ_of_lt hb)
          refine hm.heap b o (by simp only [List.mem_cons, List.mem_singleton, List.not_mem_nil, or_false, not_or]; exact ⟨b1, b2⟩) ?_
          exact Heap.get?_push_of_some _ (Heap.get?_push_of_some _ e)
      · cases r₂ with
        | error e => exact hr₂
        | ok fl₂ =>
          cases fl₂ with
          | ret r =>
            obtain ⟨rfl, h', tk, rfl, hS', hk'⟩ := hr₂
            repeat (any_goals (first | assumption | wp_step))
            exact h _ _ hS' hk'
          | _ => exact hr₂.elim
    | _ => exact hr.elim
end
end PM

namespace PM
open PySem L2 PyProof.Rows PySem.Froz
/-! ### sorted of such a set -/
def strOf : Value → Str
  | .str k _ => k
  | _ => ⟨#[]⟩
theorem perm_le {α : Type} [DecidableEq α] : ∀ {l m : List α}, l.Nodup → (∀ x ∈ l, x ∈ m) → m.length ≤ l.length → m.Perm l
  | [], m, _, _, h => by
    have : m = [] := List.eq_nil_of_length_eq_zero (by simpa using h)
    rw [this]
  | a :: l, m, nd, hs, h => by
    have nd' := List.nodup_cons.mp nd
    have ha : a ∈ m := hs a (by simp)
    have p := List.perm_cons_erase ha
    have e := perm_le (l := l) (m := m.erase a) nd'.2 (fun x hx => (List.mem_erase_of_ne (fun z => nd'.1 (by rw [← z]; exact hx))).mpr (hs x (by simp [hx]))) (by
      rw [List.length_erase_of_mem ha]; simp at h; omega)
    exact p.trans (e.cons a)
theorem strs_of : ∀ (vs : List Value), (∀ v ∈ vs, ∃ k t, v = Value.str k t) → StrsAre vs (vs.map strOf)
  | [], _ => .nil
  | v :: vs, h => by
    obtain ⟨k, t, rfl⟩ := h v (by simp)
    exact .cons k t (strs_of vs fun u hu => h u (by simp [hu]))
section
variable {P : Program} {w : World} {A : Around} {E : Value → Shared → Prop} {s : Shared} {a : Addr} {l : List Str}
theorem sorted_setT {Q : Value → Shared → Prop} (R : SetT P w s.heap a l) (hh : A.handled = none) (h64 : l.length < 64)
    (hQ : ∀ s' p (out : List Value) (c : Nat) (ys : List Str), (∀ b o, s.heap.get? b = some o → s'.heap.get? b = some o) → s'.gens = s.gens → s'.os = s.os → s.heap.objs.size ≤ p →
      s'.heap.get? p = some (seqObj "list" out.toArray c) → StrsAre out ys → ys.Perm l → sortedS ys = true → Q (.ref p) s') : wpAny (model P w) A (call (.builtin "sorted") [.ref a]) Q E s := by
  obtain ⟨⟨es, ep, t⟩, ho, F, nd, hr, hl⟩ := R
  have hsz : es.size = l.length := F.sz
  have hel : ElemsOf (strKind P w) es.toList := F.el
  have hfit : t.fits es.size = true := F.fit
  refine Calls.call_function_entry PyProof.Rows.kind_sorted PyProof.Rows.plain_sorted PyProof.Rows.entry_sorted (PyProof.Rows.args_sorted1 _) ?_; unfold Builtin.«sorted»
  refine wpAny_bind (m := checkCount "sorted" 1 1 _) ?_; refine wpAny_pure ?_; refine wpAny_bind ?_
  refine collect_set (A := A.in1) hh ⟨sObj "set" (es, ep, t), ho, rfl, rfl⟩ hfit (by rw [hsz]; unfold scanBound; omega) hr hl fun s1 vs k1 hz g1 o1 pm => ?_
  have hvl : vs.length = l.length := by rw [pm.length_eq, List.length_map, Array.length_toList, hsz]
  have each : ∀ v ∈ vs, ∃ k u, v = Value.str k u := fun v hv => by
    obtain ⟨e, he, q⟩ := List.mem_map.mp (pm.mem_iff.mp hv)
    obtain ⟨⟨k, hk, _⟩, _⟩ := hel e he
    obtain ⟨u, z⟩ := Value.isStrOf_shape (x := k) (v := e.2) hk
    exact ⟨k, u, by rw [← q]; exact z⟩
  have hI := strs_of vs each
  have pl : (vs.map strOf).Perm l := perm_le nd (fun k hk => by
    obtain ⟨e, he, z⟩ := (F.mem k).mp hk
    obtain ⟨u, z⟩ := Value.isStrOf_shape (x := k) (v := e.2) z
    exact List.mem_map.mpr ⟨e.2, pm.mem_iff.mpr (List.mem_map.mpr ⟨e, he, rfl⟩), by rw [z]; rfl⟩) (by rw [List.length_map]; omega)
  generalize vs.map strOf = ts at hI pl
  refine wpAny_bind ?_; refine wpAny_newList ?_ (by rw [hvl, sizeLine_eq]; omega)
  have hoL : (s1.heap.push (seqObj "list" vs.toArray 0)).get? s1.heap.objs.size = some (seqObj "list" vs.toArray 0) := Heap.get?_push_size _ rfl
  refine wpAny_bind ?_; refine wpAny_holding ?_
  refine wpAny_call_entry PyProof.Rows.slot_list_sort ⟨_, hoL, rfl⟩ PyProof.Rows.entry_list_sort ?_ (PyProof.Rows.args_list_sort _)
  refine list_sort_treeK strKind_oneLt hoL hI.keysOf (fun v₁ v₂ rest e => keyKind_strs (by rw [← e]; exact hI)) (by rw [hvl]; exact h64) fun st' hp hs => ⟨_, rfl, ?_⟩
  obtain ⟨ys, g1', g2, g3⟩ := sorted_out_str hI hp hs
  obtain ⟨c, hc⟩ := PyProof.Rows.sortedHeap_at (vs := vs) (out := (arrOf st').map (·.2)) hoL
  refine wpAny_pure ⟨_, rfl, ?_⟩
  refine hQ _ s1.heap.objs.size ((arrOf st').map (·.2)).toList c ys (fun b u e => ?_) g1 o1 hz (by rw [Array.toArray_toList]; exact hc) g1' (g2.trans pl) g3
  have q := k1 b u e
  have lt := Heap.lt_size q
  show (sortedHeap (s1.heap.push (seqObj "list" vs.toArray 0)) s1.heap.objs.size vs ((arrOf st').map (·.2))).get? b = some u
  rw [sortedHeap_old (Nat.ne_of_lt lt) (by rw [size_push']; exact Nat.lt_succ_of_lt lt)]; exact Heap.get?_push_of_some _ q
end
/-! ### the two calls as rules -/
def SetTO (P : Program) (w : World) (a : Addr) (l : List Str) : HO := .ext fun h => SetT P w h a l
section
variable {X : Cx}
theorem setTO_new {w : World} {P : Program} {H : Hp} {h : Heap} {a : Addr} {l : List Str} (R : SetT P w h a l) : ObjOk P w H h a (SetTO P w a l) := by
  have ⟨D, ho, _⟩ := R
  exact ⟨R, ⟨_, ho⟩, fun h1 h2 p k => SetT.at p k⟩
def rSetT (X : Cx) : List V → Hp → VK → Prop := fun xs H Q => ∃ (a : Addr) (ns : List Str), xs = [V.ref a] ∧ SqL X.K H a (ns.map V.str) ∧ ns.length < 64 ∧ ∀ p l, H p = none → l.Nodup → (∀ x, x ∈ l ↔ x ∈ ns) → Q (.ref p) (upd H p (SetTO X.prog X.w p l))
def rSortT (X : Cx) : List V → Hp → VK → Prop := fun xs H Q => ∃ (a : Addr) (l : List Str), xs = [V.ref a] ∧ H a = some (SetTO X.prog X.w a l) ∧ l.length < 64 ∧ ∀ ys p, ys.Perm l → sortedS ys = true → H p = none → Q (.ref p) (upd H p (.lst (ys.map V.str)))
theorem firstT_mem (val : Nat → Str) (x : Str) : ∀ i, x ∈ firstT val i ↔ ∃ j, j < i ∧ val j = x
  | 0 => by simp [firstT]
  | i + 1 => by
    have ih := firstT_mem val x i
    have e : x ∈ firstT val (i + 1) ↔ x ∈ firstT val i ∨ x = val i := by
      show x ∈ addL (firstT val i) (val i) ↔ _
      unfold addL
      split
      · rename_i h
        exact ⟨.inl, fun q => q.elim id fun e => e ▸ h⟩
      · rw [List.mem_cons, Or.comm]
    rw [e, ih]
    constructor
    · rintro (⟨j, h1, h2⟩ | rfl)
      · exact ⟨j, by omega, h2⟩
      · exact ⟨i, by omega, rfl⟩
    · rintro ⟨j, h1, h2⟩
      by_cases h : j = i
      · subst h; exact .inr h2.symm
      · exact .inl ⟨j, by omega, h2⟩
theorem cr_setT (hc : X.calm = true) : CallR X (.type "set") (rSetT X) := by
  intro pins s σ H vs us Q I r h
  obtain ⟨a, ns, rfl, hs, h64, q⟩ := h
  obtain ⟨its, rv, hl, _⟩ := I.list hs
  rw [Vals.ref1 r]
  have len := rv.length
  rw [List.length_map] at len
  refine call_setT (I.ok.hd hc) hl.isList (by simpa using rv.strs) (by simp; unfold scanBound; omega) fun h' tk R k => ?_
  have nd : (firstT (fun i => ns.getD i ⟨#[]⟩) its.toArray.size).Nodup := by obtain ⟨_, _, _, nd, _⟩ := R; exact nd
  have nn := I.hok.fresh (Nat.le_refl s.heap.objs.size)
  refine ⟨.ref _, upd H s.heap.objs.size (SetTO X.prog X.w s.heap.objs.size (firstT (fun i => ns.getD i ⟨#[]⟩) its.toArray.size)), I.laid (t' := tk) (fun b u e => k b u (Heap.lt_size e) e) (Nat.le_refl _) (setTO_new R), rfl, q _ _ nn nd fun x => ?_⟩
  rw [firstT_mem, List.mem_iff_getElem?]
  constructor
  · rintro ⟨j, h1, h2⟩
    have h1' : j < ns.length := by simp at h1; omega
    exact ⟨j, by rw [List.getElem?_eq_getElem h1']; simp [h1'] at h2; rw [h2]⟩
  · rintro ⟨j, h1⟩
    have h2 := (List.getElem?_eq_some_iff.mp h1).1
    exact ⟨j, by simp; omega, by simp [h1]⟩
theorem cr_sortT (hc : X.calm = true) : CallR X (.builtin "sorted") (rSortT X) := by
  intro pins s σ H vs us Q I r h
  obtain ⟨a, l, rfl, ha, h64, q⟩ := h
  have R : SetT X.prog X.w s.heap a l := (I.hok a _ ha).1
  rw [Vals.ref1 r]
  refine sorted_setT R (I.ok.hd hc) h64 fun s' p out c ys k g o hp hg hi hm hs => ?_
  have fit : (ys.map V.str).length ≤ sizeLine := by rw [List.length_map, hm.length_eq, sizeLine_eq]; omega
  have hn : H p = none := I.hok.fresh hp
  have J : Inv X pins σ (upd H p (.lst (ys.map V.str))) { s with heap := s'.heap, gens := s'.gens, drawn := s'.drawn, toks := s'.toks } := by
    refine I.call (ch := []) (Un.laid k hp hn) ?_ (by rw [g]; exact I.bare) (fun _ z => nomatch z)
    exact I.hok.laid k hp ⟨fit, out, c, vals_of_strs hi, hg⟩
  have e : s' = { s with heap := s'.heap, gens := s'.gens, drawn := s'.drawn, toks := s'.toks } := by cases s'; cases s; cases o; rfl
  rw [e]
  exact ⟨.ref p, _, J, rfl, q ys p hm hs hn⟩
end
end PM

namespace PM
open PySem L2
theorem dups_ok : ∀ (n : Nat) (xs : List Str), xs.length ≤ n → xs.eraseDups.Nodup ∧ xs.eraseDups.length ≤ xs.length
  | _, [], _ => by simp
  | n + 1, a :: as, hl => by
    have h1 := List.length_filter_le (fun b => !b == a) as
    simp only [List.length_cons] at hl
    obtain ⟨i1, i2⟩ := dups_ok n (as.filter fun b => !b == a) (by omega)
    rw [List.eraseDups_cons]
    refine ⟨List.nodup_cons.mpr ⟨fun h => ?_, i1⟩, by rw [List.length_cons, List.length_cons]; omega⟩
    have := List.mem_eraseDups.mp h
    simp at this
theorem ed_sortset {X : Cx} {E : XK} {e : Expr} {fe : EM} {p p2 pos pos2 : Pos} (hc : X.calm = true) (he : ED X E e fe) (hg : Gl X "sorted") (hm : X.mg "sorted" = none) (hg2 : Gl X "set") (hm2 : X.mg "set" = none)
    (hs : starEach [e] X.env = (false, eval e X.env) :: starEach [] X.env := by rfl) : ED X E (.Call (.Name "sorted" p) [.Call (.Name "set" p2) [e] [] pos2] [] pos) (eSortSet fe) := by
  obtain ⟨t, pt, et⟩ := he
  have inner : PE X (.Call (.Name "set" p2) [e] [] pos2) (tCB (rSetT X) (tCons t tNil)) := pe_callTy (cr_setT hc) hg2 hm2 rfl (pa_cons pt pa_nil hs) (by decide) (by decide) hs rfl
  refine ⟨_, pe_callB (cr_sortT hc) hg hm rfl (pa_cons inner pa_nil), fun env h ms σ H Q re rh p => ?_⟩
  refine et env h ms σ H _ re rh (Pg.bind (fun d h1 ms1 H1 s1 rh1 p1 v r => ?_) p)
  show rSetT X [v] H1 (fun v2 H2 => rSortT X [v2] H2 Q)
  unfold oSortSet at p1
  split at p1
  · rename_i xs e1
    obtain ⟨a, rfl, z⟩ := lstOf_ok rh1 r e1
    split at p1
    · rename_i ns en
      have ex := allS_eq en
      split at p1
      · rename_i hl
        rcases z with ⟨_, vs, q, rv⟩ | ⟨z, _⟩
        · rw [ex] at rv
          rw [rvs_strs ns rv] at q
          refine ⟨a, ns, rfl, q, hl, fun b l hb nd hm => ?_⟩
          obtain ⟨d1, d2⟩ := dups_ok _ ns (Nat.le_refl _)
          have pl : l.Perm ns.eraseDups := (List.perm_ext_iff_of_nodup nd d1).mpr fun x => (hm x).trans List.mem_eraseDups.symm
          have ll : l.length < 64 := by rw [pl.length_eq]; omega
          refine ⟨b, l, rfl, upd_same, ll, fun ys q' pm srt hq => ?_⟩
          rw [srtS_of (pm.trans pl) srt]
          exact new_lst (rh1.new hb) (rvs_of_strs _) (Pg.step (Stp.new ms1 hb) p1) q' hq
        · cases z
      · exact p1.elim
    · exact p1.elim
  · exact p1.elim
end PM

/-! the functions of data, reckoned: one equation a case -/
namespace PM
open PySem L2
section
variable {h : AH} {n m : Nat} {xs ys : List D} {i j : Int} {a b : Str} {kvs : List (Key × D)} {lk : Bool}
theorem s_atI {α : Type} (l : List α) (k : Nat) : atI l (k : Int) = l[k]? := by
  by_cases hk : k < l.length
  · have e : l[k]? = some l[k] := by simp [hk]
    rw [e]; exact atI_nat e
  · unfold atI ixN
    rw [if_pos (by omega), if_neg (by omega)]
    simp; omega
theorem s_atI0 {α : Type} (l : List α) : atI l 0 = l[0]? := s_atI l 0
theorem s_atI1 {α : Type} (l : List α) : atI l 1 = l[1]? := s_atI l 1
theorem s_atI2 {α : Type} (l : List α) : atI l 2 = l[2]? := s_atI l 2
theorem s_atI3 {α : Type} (l : List α) : atI l 3 = l[3]? := s_atI l 3
theorem s_atI4 {α : Type} (l : List α) : atI l 4 = l[4]? := s_atI l 4
theorem s_atI5 {α : Type} (l : List α) : atI l 5 = l[5]? := s_atI l 5
-- numbers
theorem s_add : oAdd (.int i) (.int j) h = .ok (.int (i + j)) h := rfl
theorem s_addT (e : xs.length + ys.length ≤ sizeLine) : oAdd (.tup xs) (.tup ys) h = .ok (.tup (xs ++ ys)) h := by show (if _ then _ else _) = _; rw [if_pos e]
theorem s_addS (e : a.length + b.length ≤ sizeLine) : oAdd (.str a) (.str b) h = .ok (.str (a ++ b)) h := by show (if _ then _ else _) = _; rw [if_pos e]
theorem s_addL (e1 : h[m]? = some (.lst xs)) (e2 : h[n]? = some (.lst ys)) (e : xs.length + ys.length ≤ sizeLine) : oAdd (.ref m) (.ref n) h = .ok (.ref h.length) (h ++ [.lst (xs ++ ys)]) := by
  show (match h[m]?, h[n]? with | some (.lst xs), some (.lst ys) => if xs.length + ys.length ≤ sizeLine then R.ok (D.ref h.length) (h ++ [Ob.lst (xs ++ ys)]) else R.no | _, _ => R.no) = _
  rw [e1, e2]; exact if_pos e
theorem s_sub : oSub (.int i) (.int j) h = .ok (.int (i - j)) h := rfl
theorem s_mul (e : (-(2 ^ 64) < i ∧ i < 2 ^ 64) ∨ (-(2 ^ 64) < j ∧ j < 2 ^ 64)) : oMul (.int i) (.int j) h = .ok (.int (i * j)) h := if_pos (by
  rw [Bool.or_eq_true]
  rcases e with e | e
  · exact .inl (Nat.ble_eq_true_of_le (by omega))
  · exact .inr (Nat.ble_eq_true_of_le (by omega)))
theorem s_fdiv (e : 0 < j ∧ j < 1073741824) : oFdiv (.int i) (.int j) h = .ok (.int (i / j)) h := if_pos (by
  rw [Bool.and_eq_true]
  exact ⟨Nat.ble_eq_true_of_le (by omega), Nat.ble_eq_true_of_le (by omega)⟩)
theorem s_mod (e : 0 < j) : oMod (.int i) (.int j) h = .ok (.int (i % j)) h := if_pos (Nat.ble_eq_true_of_le (by omega))
theorem s_pow (e : 0 ≤ j ∧ j ≤ 1000000 ∧ i.natAbs < 2 ^ 64) : oPow (.int i) (.int j) h = .ok (.int (i ^ j.toNat)) h := if_pos (by
  rw [Bool.and_eq_true, Bool.and_eq_true]
  refine ⟨⟨?_, Nat.ble_eq_true_of_le (by omega)⟩, Nat.ble_eq_true_of_le (by omega)⟩
  cases j with
  | ofNat n => rfl
  | negSucc n => exact absurd e.1 (by omega))
theorem s_lt : oLt (.int i) (.int j) h = .ok (.bl (decide (i < j))) h := rfl
theorem s_le : oLe (.int i) (.int j) h = .ok (.bl (decide (i ≤ j))) h := rfl
theorem s_gt : oGt (.int i) (.int j) h = .ok (.bl (decide (j < i))) h := rfl
theorem s_ge : oGe (.int i) (.int j) h = .ok (.bl (decide (j ≤ i))) h := rfl
-- is
variable {neg : Bool} {d : D}
theorem s_isN : oIs neg d .non h = .ok (.bl (neg != isNonD d)) h := rfl
theorem s_isB {c : Bool} : oB1 neg d (.bl c) h = .ok (.bl (neg != isBD d c)) h := rfl
-- ==
theorem s_eq_ii : oEq neg (.int i) (.int j) h = .ok (.bl (neg != (i == j))) h := rfl
theorem s_eq_ss : oEq neg (.str a) (.str b) h = .ok (.bl (neg != (a == b))) h := rfl
theorem s_eq_in : oEq neg (.int i) .non h = .ok (.bl (neg != false)) h := rfl
theorem s_eq_ni : oEq neg .non (.int i) h = .ok (.bl (neg != false)) h := rfl
theorem s_eq_nn : oEq neg .non .non h = .ok (.bl (neg != true)) h := rfl
theorem s_eq_sn : oEq neg (.str a) .non h = .ok (.bl (neg != false)) h := rfl
theorem s_eq_ns : oEq neg .non (.str a) h = .ok (.bl (neg != false)) h := rfl
theorem s_eq_bb {x y : Bool} : oEq neg (.bl x) (.bl y) h = .ok (.bl (neg != (x == y))) h := rfl
-- subscripts
theorem s_ixT {x : D} (e : atI xs i = some x) : oIx (.tup xs) (.int i) h = .ok x h := by show (match atI xs i with | some d => R.ok d h | none => R.no) = _; rw [e]
theorem s_ixR {x : D} (e : atI xs i = some x) : oIx (.rol xs) (.int i) h = .ok x h := by show (match atI xs i with | some d => R.ok d h | none => R.no) = _; rw [e]
theorem s_ixL {x : D} (e1 : h[n]? = some (.lst xs)) (e : atI xs i = some x) : oIx (.ref n) (.int i) h = .ok x h := by unfold oIx; simp only [e1, e]
theorem s_ixD {y x : D} {k : Key} (e1 : h[n]? = some (.dic lk kvs)) (e2 : dKey y = some k) (e : gtD kvs k = some x) : oIx (.ref n) y h = .ok x h := by unfold oIx; simp only [e1, e2, e]
-- len
theorem s_lenT : oLen [.tup xs] h = .ok (.int xs.length) h := rfl
theorem s_lenR : oLen [.rol xs] h = .ok (.int xs.length) h := rfl
theorem s_lenL (e : h[n]? = some (.lst xs)) : oLen [.ref n] h = .ok (.int xs.length) h := by unfold oLen; simp only [e]
theorem s_lenD (e : h[n]? = some (.dic lk kvs)) : oLen [.ref n] h = .ok (.int kvs.length) h := by unfold oLen; simp only [e]
theorem s_lenS (e : a.length ≤ sizeLine) : oLen [.str a] h = .ok (.int a.length) h := if_pos e
theorem s_int : oInt1 [.int i] h = .ok (.int i) h := rfl
-- list, tuple
theorem s_listT : oList [.tup xs] h = .ok (.ref h.length) (h ++ [.lst xs]) := rfl
theorem s_listR : oList [.rol xs] h = .ok (.ref h.length) (h ++ [.lst xs]) := rfl
theorem s_listL (e : h[n]? = some (.lst xs)) : oList [.ref n] h = .ok (.ref h.length) (h ++ [.lst xs]) := by unfold oList seqD; simp only [e]
theorem s_listD (e : h[n]? = some (.dic lk kvs)) : oList [.ref n] h = .ok (.ref h.length) (h ++ [.lst (kvs.map fun p => keyD p.1)]) := by unfold oList seqD; simp only [e]
theorem s_tupT : oTuple [.tup xs] h = .ok (.tup xs) h := rfl
theorem s_tupL (e : h[n]? = some (.lst xs)) : oTuple [.ref n] h = .ok (.tup xs) h := by unfold oTuple; simp only [e]
-- sorted
theorem s_sortI {ns : List Int} (e : h[n]? = some (.lst (ns.map .int))) : oSorted [.ref n] h = .ok (.ref h.length) (h ++ [.lst ((srtI ns).map .int)]) := by
  unfold oSorted lstOf; simp only [e, allI_map, if_pos, true_or]
theorem s_sortS {ns : List Str} (e : h[n]? = some (.lst (ns.map .str))) (hz : ns ≠ []) (hl : ns.length < 64) : oSorted [.ref n] h = .ok (.ref h.length) (h ++ [.lst ((srtS ns).map .str)]) := by
  unfold oSorted lstOf
  have z : allI (ns.map .str) = none := by cases ns with | nil => exact absurd rfl hz | cons x r => rfl
  simp only [e, z, allS_map, if_pos hl]
theorem s_sortDI {ns : List Int} (e : h[n]? = some (.dic lk kvs)) (ek : kvs.map (fun p => keyD p.1) = ns.map .int) (hl : ns.length < 64) : oSorted [.ref n] h = .ok (.ref h.length) (h ++ [.lst ((srtI ns).map .int)]) := by
  unfold oSorted lstOf; simp only [e, ek, allI_map, if_pos (Or.inr hl : false = true ∨ ns.length < 64)]
theorem s_sortDS {ns : List Str} (e : h[n]? = some (.dic lk kvs)) (ek : kvs.map (fun p => keyD p.1) = ns.map .str) (hz : ns ≠ []) (hl : ns.length < 64) : oSorted [.ref n] h = .ok (.ref h.length) (h ++ [.lst ((srtS ns).map .str)]) := by
  unfold oSorted lstOf
  have z : allI (ns.map .str) = none := by cases ns with | nil => exact absurd rfl hz | cons x r => rfl
  simp only [e, ek, z, allS_map, if_pos hl]
theorem s_sortNil (e : h[n]? = some (.lst [])) : oSorted [.ref n] h = .ok (.ref h.length) (h ++ [.lst []]) := by have z := s_sortI (ns := []) e; simpa [srtI] using z
-- truth
theorem s_truB {c : Bool} : oTru (.bl c) h = .ok c h := rfl
theorem s_truN : oTru .non h = .ok false h := rfl
theorem s_truI : oTru (.int i) h = .ok (i != 0) h := rfl
theorem s_truT : oTru (.tup xs) h = .ok (!xs.isEmpty) h := rfl
theorem s_truL (e : h[n]? = some (.lst xs)) : oTru (.ref n) h = .ok (!xs.isEmpty) h := by unfold oTru; simp only [e]
theorem s_oB {c : Bool} : oB (.bl c) h = .ok c h := rfl
-- methods
theorem s_tyL (e : h[n]? = some (.lst xs)) : tyIs .l (.ref n) h = true := by unfold tyIs; simp only [e]
theorem s_tyD (e : h[n]? = some (.dic false kvs)) : tyIs .d (.ref n) h = true := by unfold tyIs; simp only [e]
theorem s_append (e : h[n]? = some (.lst xs)) (hl : xs.length < sizeLine) : oAppend (.ref n) [d] h = .ok .non (h.set n (.lst (xs ++ [d]))) := by unfold oAppend; simp only [e, if_pos hl]
theorem s_pop (e : h[n]? = some (.lst (xs ++ [d]))) : oPop (.ref n) [] h = .ok d (h.set n (.lst xs)) := by
  unfold oPop; simp [e]
theorem s_extT (e : h[n]? = some (.lst xs)) (hl : xs.length + ys.length ≤ sizeLine) : oExtend (.ref n) [.tup ys] h = .ok .non (h.set n (.lst (xs ++ ys))) := by unfold oExtend; simp only [e, if_pos hl]
theorem s_extL (e : h[n]? = some (.lst xs)) (e2 : h[m]? = some (.lst ys)) (hl : xs.length + ys.length ≤ sizeLine) : oExtend (.ref n) [.ref m] h = .ok .non (h.set n (.lst (xs ++ ys))) := by unfold oExtend; simp only [e, e2, if_pos hl]
-- what is walked
theorem s_itT : oIt (.tup xs) h = .ok ⟨xs, fun _ => true⟩ h := rfl
theorem s_itR : oIt (.rol xs) h = .ok ⟨xs, fun _ => true⟩ h := rfl
theorem s_itL (e : h[n]? = some (.lst xs)) : oIt (.ref n) h = .ok ⟨xs, fun h' => isLst xs h'[n]?⟩ h := by unfold oIt; simp only [e]
theorem s_itD (e : h[n]? = some (.dic true kvs)) : oIt (.ref n) h = .ok ⟨kvs.map fun p => keyD p.1, fun _ => true⟩ h := by unfold oIt; simp only [e]
theorem s_isLst : isLst xs (some (.lst xs)) = true := by unfold isLst; simp
-- calls
theorem s_impP (e : pur d = true) {h' : AH} : impD d h' h = .ok d h := if_pos e
theorem s_impL {h' : AH} (e : h'[n]? = some (.lst xs)) (hp : purs xs = true) : impD (.ref n) h' h = .ok (.ref h.length) (h ++ [.lst xs]) := by
  unfold impD; simp [pur, e, hp]
theorem s_impD {h' : AH} (e : h'[n]? = some (.dic false kvs)) (hp : (kvs.all fun p => pur p.2) = true) : impD (.ref n) h' h = .ok (.ref h.length) (h ++ [.dic false kvs]) := by
  unfold impD; simp only [pur, e, hp]; simp
theorem s_run {f : FM} {h' : AH} (hp : purs xs = true) (e : f xs [] = .ok d h') : runP f xs h = impD d h' h := by unfold runP; simp only [hp, e, if_true]
theorem s_runP {f : FM} {h' : AH} (hp : purs xs = true) (e : f xs [] = .ok d h') (hd : pur d = true) : runP f xs h = .ok d h := by rw [s_run hp e, s_impP hd]
theorem s_runL {f : FM} {h' : AH} (hp : purs xs = true) (e : f xs [] = .ok (.ref n) h') (e2 : h'[n]? = some (.lst ys)) (hd : purs ys = true) : runP f xs h = .ok (.ref h.length) (h ++ [.lst ys]) := by rw [s_run hp e, s_impL e2 hd]
theorem s_runD {f : FM} {h' : AH} (hp : purs xs = true) (e : f xs [] = .ok (.ref n) h') (e2 : h'[n]? = some (.dic false kvs)) (hd : (kvs.all fun p => pur p.2) = true) : runP f xs h = .ok (.ref h.length) (h ++ [.dic false kvs]) := by rw [s_run hp e, s_impD e2 hd]
theorem purs_ints (ns : List Int) : purs (ns.map .int) = true := by induction ns with | nil => rfl | cons x r ih => simp [purs, pur, ih]
theorem purs_strs (ns : List Str) : purs (ns.map .str) = true := by induction ns with | nil => rfl | cons x r ih => simp [purs, pur, ih]
theorem purs_map {α : Type} {f : α → D} (hf : ∀ x, pur (f x) = true) (l : List α) : purs (l.map f) = true := by induction l with | nil => rfl | cons x r ih => simp [purs, hf, ih]
theorem purs_app : ∀ (l m : List D), purs (l ++ m) = (purs l && purs m)
  | [], m => by simp [purs]
  | x :: l, m => by simp [purs, purs_app l m, Bool.and_assoc]
-- in
theorem pydL_map {f : D → Option PyData} {α : Type} {g : α → D} {q : α → PyData} (hf : ∀ x, f (g x) = some (q x)) : ∀ l : List α, pydL f (l.map g) = some (l.map q)
  | [] => rfl
  | x :: l => by rw [List.map_cons, pydL, hf, pydL_map hf l]; rfl
theorem any_ints (i : Int) (ns : List Int) : ((ns.map PyData.int).any fun q => PyData.eqv q (.int i)) = decide (i ∈ ns) := by
  rw [Bool.eq_iff_iff]
  simp only [List.any_eq_true, List.mem_map, decide_eq_true_eq]
  constructor
  · rintro ⟨q, ⟨n, hn, rfl⟩, e⟩
    have : (n == i) = true := e
    rw [beq_iff_eq] at this; subst this; exact hn
  · intro hi; exact ⟨_, ⟨i, hi, rfl⟩, by show (i == i) = true; simp⟩
theorem any_strs (i : Str) (ns : List Str) : ((ns.map PyData.str).any fun q => PyData.eqv q (.str i)) = decide (i ∈ ns) := by
  rw [Bool.eq_iff_iff]
  simp only [List.any_eq_true, List.mem_map, decide_eq_true_eq]
  constructor
  · rintro ⟨q, ⟨n, hn, rfl⟩, e⟩
    have : (n == i) = true := e
    rw [beq_iff_eq] at this; subst this; exact hn
  · intro hi; exact ⟨_, ⟨i, hi, rfl⟩, by show (i == i) = true; simp⟩
theorem s_inTI {ns : List Int} : oIn neg (.int i) (.tup (ns.map .int)) h = .ok (.bl (neg != decide (i ∈ ns))) h := by
  unfold oIn; simp only [pydL_map (f := pyd h 60) (g := D.int) (q := PyData.int) (fun _ => rfl)]; rw [← any_ints]; rfl
theorem s_inLI {ns : List Int} (e : h[n]? = some (.lst (ns.map .int))) : oIn neg (.int i) (.ref n) h = .ok (.bl (neg != decide (i ∈ ns))) h := by
  unfold oIn; simp only [e, pydL_map (f := pyd h 60) (g := D.int) (q := PyData.int) (fun _ => rfl)]; rw [← any_ints]; rfl
theorem s_inTS {ns : List Str} : oIn neg (.str a) (.tup (ns.map .str)) h = .ok (.bl (neg != decide (a ∈ ns))) h := by
  unfold oIn; simp only [pydL_map (f := pyd h 60) (g := D.str) (q := PyData.str) (fun _ => rfl)]; rw [← any_strs]; rfl
theorem s_inLS {ns : List Str} (e : h[n]? = some (.lst (ns.map .str))) : oIn neg (.str a) (.ref n) h = .ok (.bl (neg != decide (a ∈ ns))) h := by
  unfold oIn; simp only [e, pydL_map (f := pyd h 60) (g := D.str) (q := PyData.str) (fun _ => rfl)]; rw [← any_strs]; rfl
theorem s_inD {x : D} {k : Key} (e : h[n]? = some (.dic lk kvs)) (ek : dKey x = some k) : oIn neg x (.ref n) h = .ok (.bl (neg != (gtD kvs k).isSome)) h := by
  unfold oIn; simp only [e, ek]
theorem s_forNil {g : GM} {b : SM} {chk : AH → Bool} {env : Env} (hc : chk h = true) : PM.forM g b chk [] env h = .ok (.nx env) h := if_pos hc
theorem s_forCons {g : GM} {b : SM} {chk : AH → Bool} {env : Env} {x : D} (hc : chk h = true) : PM.forM g b chk (x :: xs) env h = (g x env h).bind fun e1 h1 => (b e1 h1).bind (loopS (PM.forM g b chk xs)) := if_pos hc
theorem s_loopNx {s : SM} {e : Env} : loopS s (.nx e) h = s e h := rfl
theorem s_loopRt {s : SM} : loopS s (.rt d) h = .ok (.rt d) h := rfl
theorem s_loopCt {s : SM} {e : Env} : loopS s (.ct e) h = s e h := rfl
theorem s_loopBk {s : SM} {e : Env} : loopS s (.bk e) h = .ok (.nx e) h := rfl
theorem s_thenNx {s : SM} {e : Env} : thenS s (.nx e) h = s e h := rfl
theorem s_thenRt {s : SM} : thenS s (.rt d) h = .ok (.rt d) h := rfl
-- by number: what stands there decides
def inL (neg : Bool) (x : D) (ys : List D) (h : AH) : R D := match pyd h 60 x, pydL (pyd h 60) ys with
  | some p, some qs => .ok (.bl (neg != qs.any fun q => PyData.eqv q p)) h
  | _, _ => .no
def inDc (neg : Bool) (x : D) (kvs : List (Key × D)) (h : AH) : R D := match dKey x with
  | some k => .ok (.bl (neg != (gtD kvs k).isSome)) h
  | none => .no
theorem r_in {x : D} : oIn neg x (.ref n) h = (match h[n]? with
  | some (.lst ys) => inL neg x ys h
  | some (.dic _ kvs) => inDc neg x kvs h
  | _ => .no) := rfl
theorem r_inT {x : D} : oIn neg x (.tup xs) h = inL neg x xs h := rfl
theorem r_inDi : inDc neg (.int i) kvs h = .ok (.bl (neg != (gtD kvs (.inl i)).isSome)) h := rfl
theorem r_inDs : inDc neg (.str a) kvs h = .ok (.bl (neg != (gtD kvs (.inr a)).isSome)) h := rfl
theorem inL_I {ns : List Int} : inL neg (.int i) (ns.map .int) h = .ok (.bl (neg != decide (i ∈ ns))) h := s_inTI
theorem inL_S {ns : List Str} : inL neg (.str a) (ns.map .str) h = .ok (.bl (neg != decide (a ∈ ns))) h := s_inTS
def ixL (xs : List D) (y : D) (h : AH) : R D := match y with
  | .int i => match atI xs i with
    | some d => .ok d h
    | none => .no
  | _ => .no
def ixDc (kvs : List (Key × D)) (y : D) (h : AH) : R D := match dKey y with
  | some k => match gtD kvs k with
    | some d => .ok d h
    | none => .no
  | none => .no
theorem r_ixT : oIx (.tup xs) (.int i) h = (match atI xs i with
  | some d => .ok d h
  | none => .no) := rfl
theorem r_ixR : oIx (.rol xs) (.int i) h = (match atI xs i with
  | some d => .ok d h
  | none => .no) := rfl
theorem r_ixLi : ixL xs (.int i) h = (match atI xs i with
  | some d => .ok d h
  | none => .no) := rfl
theorem r_ixDi : ixDc kvs (.int i) h = (match gtD kvs (.inl i) with
  | some d => .ok d h
  | none => .no) := rfl
theorem r_ixDs : ixDc kvs (.str a) h = (match gtD kvs (.inr a) with
  | some d => .ok d h
  | none => .no) := rfl
theorem r_len : oLen [.ref n] h = (match h[n]? with
  | some (.lst xs) => .ok (.int xs.length) h
  | some (.dic _ kvs) => .ok (.int kvs.length) h
  | _ => .no) := rfl
theorem r_list : oList [.ref n] h = (match h[n]? with
  | some (.lst xs) => .ok (.ref h.length) (h ++ [.lst xs])
  | some (.dic _ kvs) => .ok (.ref h.length) (h ++ [.lst (kvs.map fun p => keyD p.1)])
  | _ => .no) := by
  unfold oList seqD
  dsimp only
  cases h[n]? with
  | none => rfl
  | some o => cases o <;> rfl
theorem r_tup : oTuple [.ref n] h = (match h[n]? with
  | some (.lst xs) => .ok (.tup xs) h
  | _ => .no) := rfl
def sortL (b : Bool) (xs : List D) (h : AH) : R D := match allI xs with
  | some ns => if b = true ∨ ns.length < 64 then .ok (.ref h.length) (h ++ [.lst ((srtI ns).map .int)]) else .no
  | none => match allS xs with
    | some ns => if ns.length < 64 then .ok (.ref h.length) (h ++ [.lst ((srtS ns).map .str)]) else .no
    | none => .no
theorem r_sort : oSorted [.ref n] h = (match h[n]? with
  | some (.lst xs) => sortL true xs h
  | some (.dic _ kvs) => sortL false (kvs.map fun p => keyD p.1) h
  | _ => .no) := by
  unfold oSorted lstOf
  dsimp only
  cases h[n]? with
  | none => rfl
  | some o => cases o <;> rfl
theorem sortL_I {b : Bool} {ns : List Int} (hl : ns.length < 64) : sortL b (ns.map .int) h = .ok (.ref h.length) (h ++ [.lst ((srtI ns).map .int)]) := by
  unfold sortL; rw [allI_map]; exact if_pos (.inr hl)
theorem sortL_S {b : Bool} {ns : List Str} (hz : ns ≠ []) (hl : ns.length < 64) : sortL b (ns.map .str) h = .ok (.ref h.length) (h ++ [.lst ((srtS ns).map .str)]) := by
  unfold sortL
  have z : allI (ns.map .str) = none := by cases ns with | nil => exact absurd rfl hz | cons x r => rfl
  rw [z, allS_map]; exact if_pos hl
theorem sortL_nil {b : Bool} : sortL b [] h = .ok (.ref h.length) (h ++ [.lst []]) := by
  have := sortL_I (h := h) (b := b) (ns := []) (by decide)
  simpa [srtI] using this
theorem r_tru : oTru (.ref n) h = (match h[n]? with
  | some (.lst xs) => .ok (!xs.isEmpty) h
  | some (.dic false kvs) => .ok (!kvs.isEmpty) h
  | _ => .no) := rfl
theorem r_tyL : tyIs .l (.ref n) h = (match h[n]? with
  | some (.lst _) => true
  | _ => false) := rfl
theorem r_tyD : tyIs .d (.ref n) h = (match h[n]? with
  | some (.dic false _) => true
  | _ => false) := rfl
theorem r_append : oAppend (.ref n) [d] h = (match h[n]? with
  | some (.lst xs) => if xs.length < sizeLine then .ok .non (h.set n (.lst (xs ++ [d]))) else .no
  | _ => .no) := rfl
theorem r_pop : oPop (.ref n) [] h = (match h[n]? with
  | some (.lst xs) => (match xs[xs.length - 1]? with
    | some d => .ok d (h.set n (.lst xs.dropLast))
    | none => .no)
  | _ => .no) := rfl
theorem r_extT : oExtend (.ref n) [.tup ys] h = (match h[n]? with
  | some (.lst xs) => if xs.length + ys.length ≤ sizeLine then .ok .non (h.set n (.lst (xs ++ ys))) else .no
  | _ => .no) := rfl
theorem r_extR : oExtend (.ref n) [.ref m] h = (match h[n]? with
  | some (.lst xs) => (match h[m]? with
    | some (.lst ys) => if xs.length + ys.length ≤ sizeLine then .ok .non (h.set n (.lst (xs ++ ys))) else .no
    | _ => .no)
  | _ => .no) := rfl
theorem r_it : oIt (.ref n) h = (match h[n]? with
  | some (.lst xs) => .ok ⟨xs, fun h' => isLst xs h'[n]?⟩ h
  | some (.dic true kvs) => .ok ⟨kvs.map fun p => keyD p.1, fun _ => true⟩ h
  | _ => .no) := rfl
theorem r_ix {y : D} : oIx (.ref n) y h = (match h[n]? with
  | some (.lst xs) => ixL xs y h
  | some (.dic _ kvs) => ixDc kvs y h
  | _ => .no) := by
  unfold oIx
  rfl
/-! ranges -/
def forR (ds : List D) (g : GM) (b : SM) (env : Env) (h : AH) : R Fl := match ds with
  | [.int j] => if okR j = true then PM.forM g b (fun _ => true) (intsD 0 j.toNat) env h else .no
  | _ => .no
theorem r_for1 {a : AM} {g : GM} {b : SM} {env : Env} : sFor (iRange1 a) g b env h = (a env h).bind fun ds h1 => forR ds g b env h1 := by
  unfold sFor iRange1
  cases a env h with
  | no => rfl
  | ex e h1 => rfl
  | ok ds h1 =>
    rw [R.bind_ok, R.bind_ok]
    rcases ds with _ | ⟨d, _ | ⟨d2, r⟩⟩
    · rfl
    · cases d with
      | int j =>
        show R.bind (if okR j = true then R.ok (⟨intsD 0 j.toNat, fun _ => true⟩ : Its) h1 else R.no) _ = if okR j = true then _ else R.no
        by_cases hj : okR j = true
        · rw [if_pos hj, if_pos hj]; rfl
        · rw [if_neg hj, if_neg hj]; rfl
      | _ => rfl
    · cases d <;> rfl
/-- small enough for a range -/
def SmN (n : Nat) : Prop := n ≤ 1000000
theorem okR_nat {n : Nat} (h : SmN n) : okR (n : Int) = true := by
  unfold SmN at h
  exact Nat.ble_eq_true_of_le (by omega)
theorem forR_nat {g : GM} {b : SM} {env : Env} {k : Nat} (hk : SmN k) : forR [.int (k : Int)] g b env h = PM.forM g b (fun _ => true) ((List.range k).map fun i => D.int ((i : Nat) : Int)) env h := by
  unfold forR
  have e : ((k : Int)).toNat = k := by omega
  have e2 : intsD 0 k = (List.range k).map fun i => D.int ((i : Nat) : Int) := by
    unfold intsD
    congr 1
    funext i
    rw [Int.zero_add]
  show (if okR (k : Int) = true then PM.forM g b (fun _ => true) (intsD 0 ((k : Int)).toNat) env h else R.no) = _
  rw [if_pos (okR_nat hk), e, e2]
theorem r_forS {a : EM} {g : GM} {b : SM} {env : Env} : sFor (iSeq a) g b env h = (a env h).bind fun d h1 => (oIt d h1).bind fun i h2 => PM.forM g b i.chk i.xs env h2 := by
  unfold sFor iSeq
  cases a env h <;> rfl
def lcR (ds : List D) (vs : List Nat) (g : GM) (t : TM) (e : EM) (env : Env) (h : AH) : R (List D) := match ds with
  | [.int j] => if okR j = true then lcM (wipeE env vs) g t e (fun _ => true) (intsD 0 j.toNat) [] h else .no
  | _ => .no
theorem r_lc1 {a : AM} {vs : List Nat} {g : GM} {t : TM} {e : EM} {env : Env} : lComp (iRange1 a) vs g t e env h = (a env h).bind fun ds h1 => lcR ds vs g t e env h1 := by
  unfold lComp iRange1
  cases a env h with
  | no => rfl
  | ex e h1 => rfl
  | ok ds h1 =>
    rw [R.bind_ok, R.bind_ok]
    rcases ds with _ | ⟨d, _ | ⟨d2, r⟩⟩
    · rfl
    · cases d with
      | int j =>
        show R.bind (if okR j = true then R.ok (⟨intsD 0 j.toNat, fun _ => true⟩ : Its) h1 else R.no) _ = if okR j = true then _ else R.no
        by_cases hj : okR j = true
        · rw [if_pos hj, if_pos hj]; rfl
        · rw [if_neg hj, if_neg hj]; rfl
      | _ => rfl
    · cases d <;> rfl
theorem lcR_nat {vs : List Nat} {g : GM} {t : TM} {e : EM} {env : Env} {k : Nat} (hk : SmN k) : lcR [.int (k : Int)] vs g t e env h = lcM (wipeE env vs) g t e (fun _ => true) ((List.range k).map fun i => D.int ((i : Nat) : Int)) [] h := by
  unfold lcR
  have e : ((k : Int)).toNat = k := by omega
  have e2 : intsD 0 k = (List.range k).map fun i => D.int ((i : Nat) : Int) := by
    unfold intsD
    congr 1
    funext i
    rw [Int.zero_add]
  show (if okR (k : Int) = true then lcM (wipeE env vs) g t _ (fun _ => true) (intsD 0 ((k : Int)).toNat) [] h else R.no) = _
  rw [if_pos (okR_nat hk), e, e2]
theorem r_lcS {a : EM} {vs : List Nat} {g : GM} {t : TM} {e : EM} {env : Env} : lComp (iSeq a) vs g t e env h = (a env h).bind fun d h1 => (oIt d h1).bind fun i h2 => lcM (wipeE env vs) g t e i.chk i.xs [] h2 := by
  unfold lComp iSeq
  cases a env h <;> rfl
theorem n_non : isNonD .non = true := rfl
theorem n_bl {c : Bool} : isNonD (.bl c) = false := rfl
theorem n_int : isNonD (.int i) = false := rfl
theorem n_str : isNonD (.str a) = false := rfl
theorem n_tup : isNonD (.tup xs) = false := rfl
theorem n_rol : isNonD (.rol xs) = false := rfl
theorem n_ref : isNonD (.ref n) = false := rfl
theorem b_non {b : Bool} : isBD .non b = false := rfl
theorem b_bl {b c : Bool} : isBD (.bl c) b = (c == b) := rfl
theorem b_int {b : Bool} : isBD (.int i) b = false := rfl
theorem b_str {b : Bool} : isBD (.str a) b = false := rfl
theorem b_tup {b : Bool} : isBD (.tup xs) b = false := rfl
theorem b_rol {b : Bool} : isBD (.rol xs) b = false := rfl
theorem b_ref {b : Bool} : isBD (.ref n) b = false := rfl
theorem seq_assoc (a b c : SM) (env : Env) (h : AH) : sSeq a (sSeq b c) env h = sSeq (sSeq a b) c env h := by
  unfold sSeq
  cases a env h with
  | no => rfl
  | ex e h1 => rfl
  | ok fl h1 =>
    rw [R.bind_ok, R.bind_ok]
    cases fl with
    | nx e => rfl
    | rt d => rfl
    | bk e => rfl
    | ct e => rfl
end
end PM

/-! what is reached: work lists and passes -/
namespace PM
open PySem L2
section
variable {α : Type}
inductive Cl (S : α → Prop) (succ : α → List α) : α → Prop where
  | base {x : α} (h : S x) : Cl S succ x
  | step {x y : α} (h : Cl S succ x) (hy : y ∈ succ x) : Cl S succ y
theorem Cl.mono {S S' : α → Prop} {s s' : α → List α} (h1 : ∀ x, S x → S' x) (h2 : ∀ x y, y ∈ s x → y ∈ s' x) {x : α} (h : Cl S s x) : Cl S' s' x := by
  induction h with
  | base h => exact .base (h1 _ h)
  | step _ hy ih => exact .step ih (h2 _ _ hy)
theorem Cl.congr {S S' : α → Prop} {s s' : α → List α} (h1 : ∀ x, S x ↔ S' x) (h2 : ∀ x y, y ∈ s x ↔ y ∈ s' x) (x : α) : Cl S s x ↔ Cl S' s' x :=
  ⟨Cl.mono (fun x => (h1 x).1) fun x y => (h2 x y).1, Cl.mono (fun x => (h1 x).2) fun x y => (h2 x y).2⟩
theorem Cl.least {S : α → Prop} {s : α → List α} {P : α → Prop} (h1 : ∀ x, S x → P x) (h2 : ∀ x y, P x → y ∈ s x → P y) {x : α} (h : Cl S s x) : P x := by
  induction h with
  | base h => exact h1 _ h
  | step _ hy ih => exact h2 _ _ ih hy
theorem perm_of {l m : List α} (hl : l.Nodup) (hm : m.Nodup) (h : ∀ x, x ∈ l ↔ x ∈ m) : l.Perm m := (List.perm_ext_iff_of_nodup hl hm).mpr h
variable [DecidableEq α]
theorem nodup_len : ∀ {l m : List α}, l.Nodup → (∀ x ∈ l, x ∈ m) → l.length ≤ m.length
  | [], m, _, _ => Nat.zero_le _
  | x :: l, m, nd, hs => by
    have hx : x ∈ m := hs x (by simp)
    have nd' := List.nodup_cons.mp nd
    have ih := nodup_len (m := m.erase x) nd'.2 fun y hy => (List.mem_erase_of_ne (fun e => nd'.1 (by rw [← e]; exact hy))).mpr (hs y (by simp [hy]))
    rw [List.length_erase_of_mem hx] at ih
    have : 0 < m.length := List.length_pos_of_mem hx
    rw [List.length_cons]; omega
theorem nodup_back {l m : List α} (nd : l.Nodup) (nm : m.Nodup) (hs : ∀ x ∈ l, x ∈ m) (hl : m.length ≤ l.length) (x : α) (hx : x ∈ m) : x ∈ l := by
  by_cases h : x ∈ l
  · exact h
  · have := nodup_len (l := x :: l) (m := m) (List.nodup_cons.mpr ⟨h, nd⟩) fun y hy => by
      rcases List.mem_cons.mp hy with rfl | hy
      · exact hx
      · exact hs y hy
    rw [List.length_cons] at this; omega
/-! ### a work list: one pops, what is new is marked and its ways are put on -/
theorem wl_run {U : List α} {succ : α → List α} {S : α → Prop} {k n0 : Nat} {t : TM} {b : SM} (St : List α → List α → Env → AH → Prop)
    (ht : ∀ f td env h, St f td env h → t env h = .ok (!td.isEmpty) h)
    (hb : ∀ f td x env h, St f (td ++ [x]) env h → f.Nodup → (∀ y ∈ f, y ∈ U) → x ∈ U → td.length + 1 < n0 → ∃ env' h', b env h = .ok (.nx env') h' ∧ if x ∈ f then St f td env' h' else St (f ++ [x]) (td ++ succ x) env' h')
    (hU : ∀ x ∈ U, ∀ y ∈ succ x, y ∈ U) (hk : ∀ x ∈ U, (succ x).length ≤ k) :
    ∀ (n : Nat) (f td : List α) (env : Env) (h : AH), n ≤ n0 → St f td env h → f.Nodup → (∀ y ∈ f, y ∈ U) → (∀ y ∈ td, y ∈ U) → (∀ x ∈ f, ∀ y ∈ succ x, y ∈ f ∨ y ∈ td) → (∀ x, S x → x ∈ f ∨ x ∈ td) → (∀ x ∈ f, Cl S succ x) → (∀ x ∈ td, Cl S succ x) →
      td.length + (U.length - f.length) * k < n → ∃ f' env' h', whileM t b n env h = .ok (.nx env') h' ∧ St f' [] env' h' ∧ f'.Nodup ∧ (∀ y ∈ f', y ∈ U) ∧ ∀ x, x ∈ f' ↔ Cl S succ x := by
  intro n
  induction n with
  | zero => intro f td env h _ _ _ _ _ _ _ _ _ hm; omega
  | succ n ih =>
    intro f td env h hn st nd fu tu cl s0 fc tc hm
    unfold whileM
    rw [ht _ _ _ _ st, R.bind_ok]
    rcases List.eq_nil_or_concat td with rfl | ⟨td, x, rfl⟩
    · refine ⟨f, env, h, rfl, st, nd, fu, fun x => ⟨fc x, fun c => ?_⟩⟩
      exact Cl.least (P := (· ∈ f)) (fun x hx => (s0 x hx).elim id fun z => (nomatch z)) (fun x y hx hy => (cl x hx y hy).elim id fun z => (nomatch z)) c
    · rw [List.concat_eq_append] at *
      have e : (!(td ++ [x]).isEmpty) = true := by simp
      rw [e, if_pos rfl]
      have xu : x ∈ U := tu x (by simp)
      obtain ⟨env', h', eb, st'⟩ := hb f td x env h st nd fu xu (by simp only [List.length_append, List.length_singleton] at hm; omega)
      rw [eb, R.bind_ok]
      show ∃ f' env'' h'', whileM t b n env' h' = .ok (.nx env'') h'' ∧ _
      by_cases hx : x ∈ f
      · rw [if_pos hx] at st'
        refine ih f td env' h' (by omega) st' nd fu (fun y hy => tu y (by simp [hy])) (fun z hz y hy => ?_) (fun z hz => ?_) fc (fun z hz => tc z (by simp [hz])) ?_
        · rcases cl z hz y hy with q | q
          · exact .inl q
          · rcases List.mem_append.mp q with q | q
            · exact .inr q
            · rw [List.mem_singleton.mp q]; exact .inl hx
        · rcases s0 z hz with q | q
          · exact .inl q
          · rcases List.mem_append.mp q with q | q
            · exact .inr q
            · rw [List.mem_singleton.mp q]; exact .inl hx
        · rw [List.length_append, List.length_singleton] at hm; omega
      · rw [if_neg hx] at st'
        have nd' : (f ++ [x]).Nodup := List.nodup_append.mpr ⟨nd, by simp, fun a ha b hb e => hx (by rw [← List.mem_singleton.mp hb, ← e]; exact ha)⟩
        have xc := tc x (by simp)
        have fu' : ∀ y ∈ f ++ [x], y ∈ U := fun y hy => by
          rcases List.mem_append.mp hy with q | q
          · exact fu y q
          · rw [List.mem_singleton.mp q]; exact xu
        refine ih (f ++ [x]) (td ++ succ x) env' h' (by omega) st' nd' fu' (fun y hy => ?_) (fun z hz y hy => ?_) (fun z hz => ?_) (fun z hz => ?_) (fun z hz => ?_) ?_
        · rcases List.mem_append.mp hy with q | q
          · exact tu y (by simp [q])
          · exact hU x xu y q
        · rcases List.mem_append.mp hz with q | q
          · rcases cl z q y hy with q | q
            · exact .inl (by simp [q])
            · rcases List.mem_append.mp q with q | q
              · exact .inr (by simp [q])
              · exact .inl (by simp [List.mem_singleton.mp q])
          · rw [List.mem_singleton.mp q] at hy
            exact .inr (by simp [hy])
        · rcases s0 z hz with q | q
          · exact .inl (by simp [q])
          · rcases List.mem_append.mp q with q | q
            · exact .inr (by simp [q])
            · exact .inl (by simp [List.mem_singleton.mp q])
        · rcases List.mem_append.mp hz with q | q
          · exact fc z q
          · rw [List.mem_singleton.mp q]; exact xc
        · rcases List.mem_append.mp hz with q | q
          · exact tc z (by simp [q])
          · exact .step xc q
        · have h1 : (f ++ [x]).length ≤ U.length := nodup_len nd' fu'
          have h2 := hk x xu
          simp only [List.length_append, List.length_singleton] at h1 hm ⊢
          have h3 : (U.length - f.length) * k = (U.length - (f.length + 1)) * k + k := by
            rw [show U.length - f.length = (U.length - (f.length + 1)) + 1 by omega, Nat.succ_mul]
          omega
/-- .. marked when put on -/
def pushN (f td : List α) : List α → List α × List α
  | [] => (f, td)
  | y :: ys => if y ∈ f then pushN f td ys else pushN (f ++ [y]) (td ++ [y]) ys
theorem pushN_spec {U : List α} {S : α → Prop} {succ : α → List α} : ∀ (ys f td : List α), f.Nodup → (∀ y ∈ f, y ∈ U) → (∀ y ∈ ys, y ∈ U) → (∀ y ∈ ys, Cl S succ y) → (∀ x ∈ f, Cl S succ x) → (∀ x ∈ td, x ∈ f) →
    (pushN f td ys).1.Nodup ∧ (∀ y ∈ (pushN f td ys).1, y ∈ U) ∧ (∀ y ∈ ys, y ∈ (pushN f td ys).1) ∧ (∀ x ∈ f, x ∈ (pushN f td ys).1) ∧ (∀ x ∈ td, x ∈ (pushN f td ys).2) ∧ (∀ x ∈ (pushN f td ys).1, x ∈ f ∨ x ∈ (pushN f td ys).2) ∧ (∀ x ∈ (pushN f td ys).1, Cl S succ x) ∧
      (∀ x ∈ (pushN f td ys).2, x ∈ (pushN f td ys).1) ∧ (pushN f td ys).2.length + f.length = td.length + (pushN f td ys).1.length
  | [], f, td, nd, fu, _, _, fc, tf => ⟨nd, fu, fun y hy => (nomatch hy), fun x hx => hx, fun x hx => hx, fun x hx => .inl hx, fc, tf, rfl⟩
  | y :: ys, f, td, nd, fu, yu, yc, fc, tf => by
    rw [pushN]
    by_cases hy : y ∈ f
    · rw [if_pos hy]
      obtain ⟨a1, a2, a3, a4, a5, a6, a7, a8, a9⟩ := pushN_spec ys f td nd fu (fun z hz => yu z (by simp [hz])) (fun z hz => yc z (by simp [hz])) fc tf
      refine ⟨a1, a2, fun z hz => ?_, a4, a5, a6, a7, a8, a9⟩
      rcases List.mem_cons.mp hz with rfl | hz
      · exact a4 _ hy
      · exact a3 z hz
    · rw [if_neg hy]
      have nd' : (f ++ [y]).Nodup := List.nodup_append.mpr ⟨nd, by simp, fun a ha b hb e => hy (by rw [← List.mem_singleton.mp hb, ← e]; exact ha)⟩
      obtain ⟨a1, a2, a3, a4, a5, a6, a7, a8, a9⟩ := pushN_spec ys (f ++ [y]) (td ++ [y]) nd' (fun z hz => by
        rcases List.mem_append.mp hz with q | q
        · exact fu z q
        · rw [List.mem_singleton.mp q]; exact yu y (by simp)) (fun z hz => yu z (by simp [hz])) (fun z hz => yc z (by simp [hz])) (fun z hz => by
        rcases List.mem_append.mp hz with q | q
        · exact fc z q
        · rw [List.mem_singleton.mp q]; exact yc y (by simp)) (fun z hz => by
        rcases List.mem_append.mp hz with q | q
        · simp [tf z q]
        · simp [List.mem_singleton.mp q])
      refine ⟨a1, a2, fun z hz => ?_, fun z hz => a4 z (by simp [hz]), fun z hz => a5 z (by simp [hz]), fun z hz => ?_, a7, a8, ?_⟩
      · rcases List.mem_cons.mp hz with rfl | hz
        · exact a4 _ (by simp)
        · exact a3 z hz
      · rcases a6 z hz with q | q
        · rcases List.mem_append.mp q with q | q
          · exact .inl q
          · exact .inr (a5 z (by simp [List.mem_singleton.mp q]))
        · exact .inr q
      · simp only [List.length_append, List.length_singleton] at a9; omega
theorem wp_run {U : List α} {succ : α → List α} {S : α → Prop} {n0 : Nat} {t : TM} {b : SM} (St : List α → List α → Env → AH → Prop)
    (ht : ∀ f td env h, St f td env h → t env h = .ok (!td.isEmpty) h)
    (hb : ∀ f td x env h, St f (td ++ [x]) env h → f.Nodup → (∀ y ∈ f, y ∈ U) → x ∈ U → td.length + 1 < n0 → ∃ env' h', b env h = .ok (.nx env') h' ∧ St (pushN f td (succ x)).1 (pushN f td (succ x)).2 env' h')
    (hU : ∀ x ∈ U, ∀ y ∈ succ x, y ∈ U) :
    ∀ (n : Nat) (f td : List α) (env : Env) (h : AH), n ≤ n0 → St f td env h → f.Nodup → (∀ y ∈ f, y ∈ U) → (∀ y ∈ td, y ∈ f) → (∀ x ∈ f, x ∈ td ∨ ∀ y ∈ succ x, y ∈ f) → (∀ x, S x → x ∈ f) → (∀ x ∈ f, Cl S succ x) →
      td.length + (U.length - f.length) < n → ∃ f' env' h', whileM t b n env h = .ok (.nx env') h' ∧ St f' [] env' h' ∧ f'.Nodup ∧ (∀ y ∈ f', y ∈ U) ∧ ∀ x, x ∈ f' ↔ Cl S succ x := by
  intro n
  induction n with
  | zero => intro f td env h _ _ _ _ _ _ _ _ hm; omega
  | succ n ih =>
    intro f td env h hn st nd fu tf cl s0 fc hm
    unfold whileM
    rw [ht _ _ _ _ st, R.bind_ok]
    rcases List.eq_nil_or_concat td with rfl | ⟨td, x, rfl⟩
    · refine ⟨f, env, h, rfl, st, nd, fu, fun x => ⟨fc x, fun c => ?_⟩⟩
      exact Cl.least (P := (· ∈ f)) s0 (fun x y hx hy => (cl x hx).elim (fun z => (nomatch z)) fun z => z y hy) c
    · rw [List.concat_eq_append] at *
      have e : (!(td ++ [x]).isEmpty) = true := by simp
      rw [e, if_pos rfl]
      have xf : x ∈ f := tf x (by simp)
      obtain ⟨env', h', eb, st'⟩ := hb f td x env h st nd fu (fu x xf) (by simp only [List.length_append, List.length_singleton] at hm; omega)
      rw [eb, R.bind_ok]
      show ∃ f' env'' h'', whileM t b n env' h' = .ok (.nx env'') h'' ∧ _
      obtain ⟨a1, a2, a3, a4, a5, a6, a7, a8, a9⟩ := pushN_spec (U := U) (S := S) (succ := succ) (succ x) f td nd fu (hU x (fu x xf)) (fun y hy => .step (fc x xf) hy) fc (fun y hy => tf y (by simp [hy]))
      refine ih _ _ env' h' (by omega) st' a1 a2 a8 (fun z hz => ?_) (fun z hz => a4 z (s0 z hz)) a7 ?_
      · rcases a6 z hz with q | q
        · rcases cl z q with q2 | q2
          · rcases List.mem_append.mp q2 with q3 | q3
            · exact .inl (a5 z q3)
            · rw [List.mem_singleton.mp q3]; exact .inr a3
          · exact .inr fun y hy => a4 y (q2 y hy)
        · exact .inl q
      · have h1 : (pushN f td (succ x)).1.length ≤ U.length := nodup_len a1 a2
        have h2 : f.length ≤ U.length := nodup_len nd fu
        simp only [List.length_append, List.length_singleton] at hm
        omega
/-! ### passes -/
theorem passes {U : List α} {S : α → Prop} {succ : α → List α} (fs : Nat → List α) (hn : ∀ i, (fs i).Nodup → (∀ y ∈ fs i, y ∈ U) → (∀ y ∈ fs i, Cl S succ y) → (fs (i + 1)).Nodup ∧ (∀ y ∈ fs (i + 1), y ∈ U) ∧ (∀ y ∈ fs (i + 1), Cl S succ y) ∧ (∀ y ∈ fs i, y ∈ fs (i + 1)) ∧ ∀ x ∈ fs i, ∀ y ∈ succ x, y ∈ fs (i + 1))
    (nd : (fs 0).Nodup) (fu : ∀ y ∈ fs 0, y ∈ U) (fc : ∀ y ∈ fs 0, Cl S succ y) (s0 : ∀ x, S x → x ∈ fs 0) {n : Nat} (hl : U.length ≤ n) : (fs n).Nodup ∧ (∀ y ∈ fs n, y ∈ U) ∧ ∀ x, x ∈ fs n ↔ Cl S succ x := by
  have all : ∀ i, (fs i).Nodup ∧ (∀ y ∈ fs i, y ∈ U) ∧ (∀ y ∈ fs i, Cl S succ y) ∧ (∀ x, S x → x ∈ fs i) := by
    intro i
    induction i with
    | zero => exact ⟨nd, fu, fc, s0⟩
    | succ i ih =>
      obtain ⟨a, b, c, d⟩ := ih
      obtain ⟨a', b', c', e, _⟩ := hn i a b c
      exact ⟨a', b', c', fun x hx => e x (d x hx)⟩
  have closedOr : ∀ i, (∀ x ∈ fs i, ∀ y ∈ succ x, y ∈ fs i) ∨ i < (fs i).length := by
    intro i
    induction i with
    | zero =>
      cases e : fs 0 with
      | nil => exact .inl fun x hx => (nomatch hx)
      | cons x r => exact .inr (by simp)
    | succ i ih =>
      obtain ⟨a, b, c, d⟩ := all i
      obtain ⟨a', b', c', e, g⟩ := hn i a b c
      have hle : (fs i).length ≤ (fs (i + 1)).length := nodup_len a e
      have same : (fs (i + 1)).length ≤ (fs i).length → ∀ x ∈ fs (i + 1), ∀ y ∈ succ x, y ∈ fs (i + 1) := fun hq x hx y hy => by
        exact g x (nodup_back a a' e hq x hx) y hy
      rcases ih with ih | ih
      · refine .inl fun x hx y hy => ?_
        have cc : ∀ z, Cl S succ z → z ∈ fs i := fun z hz => Cl.least (P := (· ∈ fs i)) d (fun x y hx hy => ih x hx y hy) hz
        exact e y (ih x (cc x (c' x hx)) y hy)
      · by_cases hq : (fs (i + 1)).length ≤ (fs i).length
        · exact .inl (same hq)
        · exact .inr (by omega)
  obtain ⟨a, b, c, d⟩ := all n
  refine ⟨a, b, fun x => ⟨c x, fun hx => ?_⟩⟩
  rcases closedOr n with q | q
  · exact Cl.least (P := (· ∈ fs n)) d (fun x y hx hy => q x hx y hy) hx
  · have := nodup_len a b
    omega
end
/-! ### loops by an invariant -/
section
variable {α : Type}
theorem for_run {xs : List α} {F : α → D} {g : GM} {b : SM} {chk : AH → Bool} (Inv : Nat → Env → AH → Prop) (hc : ∀ i env h, i ≤ xs.length → Inv i env h → chk h = true)
    (hs : ∀ i x, xs[i]? = some x → ∀ env h, Inv i env h → ∃ e1 h1 e2 h2, g (F x) env h = .ok e1 h1 ∧ b e1 h1 = .ok (.nx e2) h2 ∧ Inv (i + 1) e2 h2) {env : Env} {h : AH} (h0 : Inv 0 env h) :
    ∃ env' h', PM.forM g b chk (xs.map F) env h = .ok (.nx env') h' ∧ Inv xs.length env' h' := by
  have go : ∀ (n i : Nat) (env : Env) (h : AH), i + n = xs.length → Inv i env h → ∃ env' h', PM.forM g b chk ((xs.drop i).map F) env h = .ok (.nx env') h' ∧ Inv xs.length env' h' := by
    intro n
    induction n with
    | zero =>
      intro i env h hi iv
      have e : i = xs.length := by omega
      subst e
      refine ⟨env, h, ?_, iv⟩
      rw [List.drop_length, List.map_nil, s_forNil (hc _ _ _ (Nat.le_refl _) iv)]
    | succ n ih =>
      intro i env h hi iv
      have hlt : i < xs.length := by omega
      obtain ⟨e1, h1, e2, h2, q1, q2, iv'⟩ := hs i xs[i] (by simp [hlt]) env h iv
      obtain ⟨env', h', q3, iv''⟩ := ih (i + 1) e2 h2 (by omega) iv'
      refine ⟨env', h', ?_, iv''⟩
      rw [List.drop_eq_getElem_cons hlt, List.map_cons, s_forCons (hc _ _ _ (by omega) iv), q1, R.bind_ok, q2, R.bind_ok, s_loopNx, q3]
  have := go xs.length 0 env h (by omega) h0
  rwa [List.drop_zero] at this
theorem lc_run {xs : List α} {F G : α → D} {p : α → Bool} {env0 : Env} {g : GM} {t : TM} {e : EM} {chk : AH → Bool} (Inv : AH → Prop) (hc : ∀ h, Inv h → chk h = true)
    (hx : ∀ x ∈ xs, ∀ h, Inv h → ∃ env2 h1 h2, g (F x) env0 h = .ok env2 h1 ∧ t env2 h1 = .ok (p x) h2 ∧ (p x = false → Inv h2) ∧ (p x = true → ∃ h3, e env2 h2 = .ok (G x) h3 ∧ Inv h3)) :
    ∀ (acc : List D) (h : AH), Inv h → acc.length + xs.length ≤ 16000000 → ∃ h', lcM env0 g t e chk (xs.map F) acc h = .ok (acc ++ (xs.filter p).map G) h' ∧ Inv h' := by
  induction xs with
  | nil =>
    intro acc h iv _
    exact ⟨h, by rw [List.map_nil, lcM, if_pos (hc h iv)]; simp, iv⟩
  | cons x xs ih =>
    intro acc h iv hl
    obtain ⟨env2, h1, h2, q1, q2, q3, q4⟩ := hx x (by simp) h iv
    have ih' := ih (fun y hy => hx y (by simp [hy]))
    rw [List.length_cons] at hl
    rw [List.map_cons, lcM, if_pos (hc h iv), q1, noX_ok, R.bind_ok, q2, noX_ok, R.bind_ok]
    cases hp : p x with
    | false =>
      rw [if_neg Bool.false_ne_true]
      obtain ⟨h', z1, z2⟩ := ih' acc h2 (q3 hp) (by omega)
      exact ⟨h', by rw [z1, List.filter_cons_of_neg (by rw [hp]; exact Bool.false_ne_true)], z2⟩
    | true =>
      rw [if_pos rfl]
      obtain ⟨h3, z1, z2⟩ := q4 hp
      rw [z1, noX_ok, R.bind_ok, if_pos (by rw [sizeLine_eq]; omega)]
      obtain ⟨h', w1, w2⟩ := ih' (acc ++ [G x]) h3 z2 (by simp; omega)
      exact ⟨h', by rw [w1, List.filter_cons_of_pos hp]; simp, w2⟩
/-- where nothing is laid -/
theorem lc_pure {xs : List α} {F G : α → D} {p : α → Bool} {env0 : Env} {g : GM} {t : TM} {e : EM} {chk : AH → Bool} {h : AH} (E2 : α → Env) (hc : chk h = true) (hg : ∀ x ∈ xs, g (F x) env0 h = .ok (E2 x) h) (ht : ∀ x ∈ xs, t (E2 x) h = .ok (p x) h)
    (he : ∀ x ∈ xs, p x = true → e (E2 x) h = .ok (G x) h) (hl : xs.length ≤ 16000000) : lcM env0 g t e chk (xs.map F) [] h = .ok ((xs.filter p).map G) h := by
  obtain ⟨h', z1, z2⟩ := lc_run (G := G) (p := p) (chk := chk) (g := g) (t := t) (e := e) (env0 := env0) (F := F) (fun h2 => h2 = h) (fun h2 e => by rw [e]; exact hc) (fun x hx h' e' => ⟨E2 x, h, h, by rw [e']; exact hg x hx, ht x hx, fun _ => rfl, fun hp => ⟨h, he x hx hp, rfl⟩⟩) [] h rfl (by simpa using hl)
  rw [z1, z2, List.nil_append]
theorem dc_run {xs : List α} {F : α → D} {kf : α → Key} {env0 : Env} {g : GM} {ke ve : EM} {chk : AH → Bool} (Inv : Nat → List (Key × D) → AH → Prop) (hc : ∀ i acc h, Inv i acc h → chk h = true ∧ acc.length < sizeLine)
    (hx : ∀ i x, xs[i]? = some x → ∀ acc h, Inv i acc h → ∃ env2 h1 h2 h3 z, g (F x) env0 h = .ok env2 h1 ∧ ke env2 h1 = .ok (keyD (kf x)) h2 ∧ ve env2 h2 = .ok z h3 ∧ Inv (i + 1) (ptD acc (kf x) z) h3) {acc : List (Key × D)} {h : AH} (h0 : Inv 0 acc h) :
    ∃ acc' h', dcM env0 g mYes ke ve chk (xs.map F) acc h = .ok acc' h' ∧ Inv xs.length acc' h' := by
  have go : ∀ (n i : Nat) (acc : List (Key × D)) (h : AH), i + n = xs.length → Inv i acc h → ∃ acc' h', dcM env0 g mYes ke ve chk ((xs.drop i).map F) acc h = .ok acc' h' ∧ Inv xs.length acc' h' := by
    intro n
    induction n with
    | zero =>
      intro i acc h hi iv
      have e : i = xs.length := by omega
      subst e
      refine ⟨acc, h, ?_, iv⟩
      rw [List.drop_length, List.map_nil, dcM, if_pos (hc _ _ _ iv).1]
    | succ n ih =>
      intro i acc h hi iv
      have hlt : i < xs.length := by omega
      obtain ⟨env2, h1, h2, h3, z, q1, q2, q3, iv'⟩ := hx i xs[i] (by simp [hlt]) acc h iv
      obtain ⟨acc', h', q4, iv''⟩ := ih (i + 1) _ h3 (by omega) iv'
      refine ⟨acc', h', ?_, iv''⟩
      have ek : dKey (keyD (kf xs[i])) = some (kf xs[i]) := by cases kf xs[i] <;> rfl
      rw [List.drop_eq_getElem_cons hlt, List.map_cons, dcM, if_pos (hc _ _ _ iv).1, q1, noX_ok, R.bind_ok]
      show (noX (R.ok true h1)).bind _ = _
      rw [noX_ok, R.bind_ok, if_pos rfl, q2, noX_ok, R.bind_ok, q3, noX_ok, R.bind_ok, ek]
      show (if acc.length < sizeLine then dcM env0 g mYes ke ve chk ((xs.drop (i + 1)).map F) (ptD acc (kf xs[i]) z) h3 else R.no) = _
      rw [if_pos (hc _ _ _ iv).2, q4]
  have := go xs.length 0 acc h (by omega) h0
  rwa [List.drop_zero] at this
theorem for_fold {σ : Type} {F : α → D} {g : GM} {b : SM} {chk : AH → Bool} (step : σ → α → σ) (Rel : σ → Env → AH → Prop) (hc : ∀ s env h, Rel s env h → chk h = true) : ∀ (xs : List α),
    (∀ x ∈ xs, ∀ s env h, Rel s env h → ∃ e1 h1 e2 h2, g (F x) env h = .ok e1 h1 ∧ b e1 h1 = .ok (.nx e2) h2 ∧ Rel (step s x) e2 h2) → ∀ (s : σ) (env : Env) (h : AH), Rel s env h →
    ∃ env' h', PM.forM g b chk (xs.map F) env h = .ok (.nx env') h' ∧ Rel (xs.foldl step s) env' h'
  | [], _, s, env, h, r => ⟨env, h, by rw [List.map_nil, s_forNil (hc _ _ _ r)], r⟩
  | x :: xs, hs, s, env, h, r => by
    obtain ⟨e1, h1, e2, h2, q1, q2, r2⟩ := hs x (by simp) s env h r
    obtain ⟨env', h', q3, r3⟩ := for_fold step Rel hc xs (fun y hy => hs y (by simp [hy])) _ e2 h2 r2
    exact ⟨env', h', by rw [List.map_cons, s_forCons (hc _ _ _ r), q1, R.bind_ok, q2, R.bind_ok, s_loopNx, q3], r3⟩
theorem fold_inv {σ : Type} {step : σ → α → σ} (P : σ → Prop) {xs : List α} (h : ∀ x ∈ xs, ∀ s, P s → P (step s x)) {s : σ} (h0 : P s) : P (xs.foldl step s) := by
  induction xs generalizing s with
  | nil => exact h0
  | cons x xs ih => exact ih (fun y hy => h y (by simp [hy])) (h x (by simp) s h0)
/-- a list that grows -/
theorem fold_mem {β : Type} {step : List β → α → List β} {N : α → β → Prop} {xs : List α} (h : ∀ x ∈ xs, ∀ s y, y ∈ step s x ↔ y ∈ s ∨ N x y) (s : List β) (y : β) : y ∈ xs.foldl step s ↔ y ∈ s ∨ ∃ x ∈ xs, N x y := by
  induction xs generalizing s with
  | nil => simp
  | cons x xs ih =>
    rw [List.foldl_cons, ih (fun z hz => h z (by simp [hz])), h x (by simp)]
    constructor
    · rintro ((a | a) | ⟨z, hz, a⟩)
      · exact .inl a
      · exact .inr ⟨x, by simp, a⟩
      · exact .inr ⟨z, by simp [hz], a⟩
    · rintro (a | ⟨z, hz, a⟩)
      · exact .inl (.inl a)
      · rcases List.mem_cons.mp hz with rfl | hz
        · exact .inl (.inr a)
        · exact .inr ⟨z, hz, a⟩
theorem map_range_ints (n : Nat) : intsD 0 n = (List.range n).map fun i => D.int ((i : Nat) : Int) := by
  unfold intsD
  congr 1
  funext i
  rw [Int.zero_add]
end
end PM

/-! the laws' _law_same: what is alike is told alike -/
namespace PM
open PySem L2
/-- _law_same: 0 told, 1 due, 2 k -/
def sameM (rec : FM) : FM := bodyM 3 (sSeq (eIf (eB (eOp (oIs false) (eVar 1) (eC .non))) (sRet (eOp (oIs false) (eVar 0) (eC .non))) (sNil)) (sSeq (eIf (eB (eOp (oB1 false) (eVar 1) (eC (.bl true)))) (sRet (eOp (oB1 false) (eVar 0) (eC (.bl true)))) (sNil)) (sSeq (eIf (eB (eOp (oB1 false) (eVar 1) (eC (.bl false)))) (sRet (eOp (oB1 false) (eVar 0) (eC (.bl false)))) (sNil)) (sSeq (eIf (eTru (eIsi "str" (eVar 1))) (sRet (eAnd (eIsi "str" (eVar 0)) (eOp (oEq false) (eCallB (aCons (eVar 0) (aNil)) oRepr) (eCallB (aCons (eVar 1) (aNil)) oRepr)))) (sNil)) (sSeq (eIf (eTru (eIsi "int" (eVar 1))) (sRet (eAnd (eIsi "int" (eVar 0)) (eAnd (eNot (eIsi "bool" (eVar 0))) (eOp (oEq false) (eCallB (aCons (eVar 0) (aNil)) oRepr) (eCallB (aCons (eVar 1) (aNil)) oRepr))))) (sNil)) (sSeq (eIf (mOr (mAnd (eTru (eIsi "tuple" (eVar 1))) (mNot (eTru (eIsi "tuple" (eVar 0))))) (mAnd (eTru (eIsi "list" (eVar 1))) (mNot (eTru (eIsi "list" (eVar 0)))))) (sRet (eC (.bl false))) (sNil)) (sSeq (eIf (eB (eOp (oEq true) (eCallB (aCons (eVar 0) (aNil)) oLen) (eCallB (aCons (eVar 1) (aNil)) oLen))) (sRet (eC (.bl false))) (sNil)) (sSeq (sFor (iRange1 (aCons (eCallB (aCons (eVar 1) (aNil)) oLen) (aNil))) (gmName 2) (eIf (mNot (eTru (eCall (aCons (eOp oIx (eVar 0) (eVar 2)) (aCons (eOp oIx (eVar 1) (eVar 2)) (aNil))) rec))) (sRet (eC (.bl false))) (sNil))) (sRet (eC (.bl true)))))))))))
def sameN : Nat → FM
  | 0 => fun _ _ => .no
  | n + 1 => sameM (sameN n)
mutual
/-- no truth values, short texts, small numbers, short lists -/
def goodP : PyData → Bool
  | .none => true
  | .int i => decide (i.natAbs.log2 < 1920)
  | .str x => decide ((reprText x).length ≤ sizeLine)
  | .list xs => decide (xs.length ≤ 1000000) && goodPs xs
  | .tuple xs => decide (xs.length ≤ 1000000) && goodPs xs
  | _ => false
def goodPs : List PyData → Bool
  | [] => true
  | x :: xs => goodP x && goodPs xs
end
theorem goodPs_at : ∀ {ps : List PyData} {p : PyData}, goodPs ps = true → p ∈ ps → goodP p = true
  | [], p, _, h => nomatch h
  | q :: ps, p, g, h => by
    rw [goodPs, Bool.and_eq_true] at g
    rcases List.mem_cons.mp h with rfl | h
    · exact g.1
    · exact goodPs_at g.2 h
theorem pydL_at {f : D → Option PyData} : ∀ {xs : List D} {ps : List PyData} {k : Nat} {x : D}, pydL f xs = some ps → xs[k]? = some x → ∃ p, ps[k]? = some p ∧ f x = some p
  | [], _, k, x, _, h => by simp at h
  | y :: xs, ps, k, x, e, h => by
    rw [pydL] at e
    split at e
    · rename_i q qs e1 e2
      cases e
      cases k with
      | zero => simp at h; subst h; exact ⟨q, rfl, e1⟩
      | succ k => exact pydL_at (k := k) e2 (by simpa using h)
    · cases e
theorem pydL_len {f : D → Option PyData} : ∀ {xs : List D} {ps : List PyData}, pydL f xs = some ps → xs.length = ps.length
  | [], ps, e => by cases e; rfl
  | y :: xs, ps, e => by
    rw [pydL] at e
    split at e
    · rename_i q qs e1 e2
      cases e
      rw [List.length_cons, List.length_cons, pydL_len e2]
    · cases e
/-- a sequence, as the def asks it -/
structure SqF (h : AH) (a : D) (xs : List D) (T : String) : Prop where
  non : isNonD a = false
  bl : ∀ b, isBD a b = false
  ty : tyD a h = some T
  len : oLen [a] h = .ok (.int xs.length) h
  ix : ∀ (k : Nat) (x : D), xs[k]? = some x → oIx a (.int (k : Int)) h = .ok x h
theorem same_seq {h : AH} {a b : D} {xs ys : List D} {T : String} (hT : T = "tuple" ∨ T = "list") (A : SqF h a xs T) (B : SqF h b ys T) (hl : xs.length = ys.length) (hn : SmN ys.length) {rec : FM} (hr : ∀ (k : Nat) (x y : D), xs[k]? = some x → ys[k]? = some y → rec [x, y] h = .ok (.bl true) h) :
    sameM rec [a, b] h = .ok (.bl true) h := by
  obtain ⟨env', h', q, x2, e1, e2⟩ := for_run (xs := List.range ys.length) (F := fun i : Nat => D.int ((i : Nat) : Int)) (g := gmName 2) (b := eIf (mNot (eTru (eCall (aCons (eOp oIx (eVar 0) (eVar 2)) (aCons (eOp oIx (eVar 1) (eVar 2)) (aNil))) rec))) (sRet (eC (.bl false))) (sNil)) (chk := fun _ => true)
    (fun i env hh => ∃ x2, env = [some a, some b, x2] ∧ hh = h) (fun _ _ _ _ _ => rfl)
    (fun i k hi env hh ⟨x2, e1, e2⟩ => by
      subst e1 e2
      have hk : i < ys.length := by
        have := (List.getElem?_eq_some_iff.mp hi).1
        simpa using this
      have ek : k = i := by
        rw [List.getElem?_range hk] at hi
        exact (Option.some.inj hi).symm
      subst ek
      have hx : xs[k]? = some (xs[k]'(by omega)) := by simp [show k < xs.length by omega]
      have hy : ys[k]? = some (ys[k]'hk) := by simp [hk]
      have e1 := A.ix k _ hx
      have e2 := B.ix k _ hy
      have e3 := hr k _ _ hx hy
      exact ⟨_, _, [some a, some b, some (.int (k : Int))], hh, rfl, by simp [bodyM, sSeq, s_thenNx, s_thenRt, s_loopNx, s_loopRt, s_loopCt, s_loopBk, sAsg, sRet, sRetN, sDrop, sNil, sPar, sBrk, sCnt, eVar, eC, eOp, gmName, gmSub, eCallB, aCons, aNil, eB, eIf, eTru, mAnd, mOr, mNot, mYes, eMeth, eTup, eLst, eL, eDict0, eDict1, r_for1, forR_nat, r_forS, r_lc1, lcR_nat, r_lcS, n_non, n_bl, n_int, n_str, n_tup, n_rol, n_ref, b_non, b_bl, b_int, b_str, b_tup, b_rol, b_ref, eSetd, eItems, gmTup, gmCons, gmNil, dKey, eCall, eCallP, eDc, iSeq, wipeE, eUn, eIsi, eAnd, eOr, eNot, R.bind_ok, noX_ok, s_atI, s_atI0, s_atI1, s_atI2, s_atI3, s_atI4, s_atI5, s_add, s_sub, s_lt, s_le, s_gt, s_ge, s_isN, s_isB, s_eq_ii, s_eq_ss, s_eq_in, s_eq_ni, s_eq_nn, s_eq_sn, s_eq_ns, s_eq_bb, s_lenT, s_lenR, s_int, s_listT, s_listR, s_tupT, s_truB, s_truN, s_truI, s_truT, s_oB, s_itT, s_itR, s_inTI, s_inTS, s_isLst, r_in, r_inDi, r_inDs, inL_I, inL_S, r_ix, r_ixT, r_ixR, r_ixLi, r_ixDi, r_ixDs, r_len, r_list, r_tup, r_sort, r_tru, r_tyL, r_tyD, r_append, r_pop, r_extT, r_extR, r_it, e1, e2, e3], some (.int (k : Int)), rfl, rfl⟩)
    (env := [some a, some b, none]) (h := h) ⟨none, rfl, rfl⟩
  subst e1 e2
  have hlen := hl
  unfold sameM
  rcases hT with rfl | rfl
  · simp [bodyM, sSeq, s_thenNx, s_thenRt, s_loopNx, s_loopRt, s_loopCt, s_loopBk, sAsg, sRet, sRetN, sDrop, sNil, sPar, sBrk, sCnt, eVar, eC, eOp, gmName, gmSub, eCallB, aCons, aNil, eB, eIf, eTru, mAnd, mOr, mNot, mYes, eMeth, eTup, eLst, eL, eDict0, eDict1, r_for1, forR_nat, r_forS, r_lc1, lcR_nat, r_lcS, n_non, n_bl, n_int, n_str, n_tup, n_rol, n_ref, b_non, b_bl, b_int, b_str, b_tup, b_rol, b_ref, eSetd, eItems, gmTup, gmCons, gmNil, dKey, eCall, eCallP, eDc, iSeq, wipeE, eUn, eIsi, eAnd, eOr, eNot, R.bind_ok, noX_ok, s_atI, s_atI0, s_atI1, s_atI2, s_atI3, s_atI4, s_atI5, s_add, s_sub, s_lt, s_le, s_gt, s_ge, s_isN, s_isB, s_eq_ii, s_eq_ss, s_eq_in, s_eq_ni, s_eq_nn, s_eq_sn, s_eq_ns, s_eq_bb, s_lenT, s_lenR, s_int, s_listT, s_listR, s_tupT, s_truB, s_truN, s_truI, s_truT, s_oB, s_itT, s_itR, s_inTI, s_inTS, s_isLst, r_in, r_inDi, r_inDs, inL_I, inL_S, r_ix, r_ixT, r_ixR, r_ixLi, r_ixDi, r_ixDs, r_len, r_list, r_tup, r_sort, r_tru, r_tyL, r_tyD, r_append, r_pop, r_extT, r_extR, r_it, A.non, A.bl, B.non, B.bl, oIsi, A.ty, B.ty, A.len, B.len, hl, hn, q]
  · simp [bodyM, sSeq, s_thenNx, s_thenRt, s_loopNx, s_loopRt, s_loopCt, s_loopBk, sAsg, sRet, sRetN, sDrop, sNil, sPar, sBrk, sCnt, eVar, eC, eOp, gmName, gmSub, eCallB, aCons, aNil, eB, eIf, eTru, mAnd, mOr, mNot, mYes, eMeth, eTup, eLst, eL, eDict0, eDict1, r_for1, forR_nat, r_forS, r_lc1, lcR_nat, r_lcS, n_non, n_bl, n_int, n_str, n_tup, n_rol, n_ref, b_non, b_bl, b_int, b_str, b_tup, b_rol, b_ref, eSetd, eItems, gmTup, gmCons, gmNil, dKey, eCall, eCallP, eDc, iSeq, wipeE, eUn, eIsi, eAnd, eOr, eNot, R.bind_ok, noX_ok, s_atI, s_atI0, s_atI1, s_atI2, s_atI3, s_atI4, s_atI5, s_add, s_sub, s_lt, s_le, s_gt, s_ge, s_isN, s_isB, s_eq_ii, s_eq_ss, s_eq_in, s_eq_ni, s_eq_nn, s_eq_sn, s_eq_ns, s_eq_bb, s_lenT, s_lenR, s_int, s_listT, s_listR, s_tupT, s_truB, s_truN, s_truI, s_truT, s_oB, s_itT, s_itR, s_inTI, s_inTS, s_isLst, r_in, r_inDi, r_inDs, inL_I, inL_S, r_ix, r_ixT, r_ixR, r_ixLi, r_ixDi, r_ixDs, r_len, r_list, r_tup, r_sort, r_tru, r_tyL, r_tyD, r_append, r_pop, r_extT, r_extR, r_it, A.non, A.bl, B.non, B.bl, oIsi, A.ty, B.ty, A.len, B.len, hl, hn, q]
theorem sqf_tup {h : AH} (xs : List D) : SqF h (.tup xs) xs "tuple" := ⟨rfl, fun _ => rfl, rfl, rfl, fun k x e => s_ixT (by rw [s_atI]; exact e)⟩
theorem sqf_rol {h : AH} (xs : List D) : SqF h (.rol xs) xs "list" := ⟨rfl, fun _ => rfl, rfl, rfl, fun k x e => s_ixR (by rw [s_atI]; exact e)⟩
theorem sqf_lst {h : AH} {n : Nat} {xs : List D} (e : h[n]? = some (.lst xs)) : SqF h (.ref n) xs "list" :=
  ⟨rfl, fun _ => rfl, by unfold tyD; simp only [e], s_lenL e, fun k x ex => s_ixL e (by rw [s_atI]; exact ex)⟩
/-- what a list, a tuple reads as -/
theorem pyd_seq {h : AH} {n : Nat} {a : D} {p : PyData} (e : pyd h (n + 1) a = some p) : (p = .none ∧ a = .non) ∨ (∃ b, p = .bool b ∧ a = .bl b) ∨ (∃ i, p = .int i ∧ a = .int i) ∨ (∃ x, p = .str x ∧ a = .str x) ∨
    (∃ xs ps, p = .tuple ps ∧ SqF h a xs "tuple" ∧ pydL (pyd h n) xs = some ps) ∨ ∃ xs ps, p = .list ps ∧ SqF h a xs "list" ∧ pydL (pyd h n) xs = some ps := by
  cases a with
  | non => cases e; exact .inl ⟨rfl, rfl⟩
  | bl b => cases e; exact .inr (.inl ⟨b, rfl, rfl⟩)
  | int i => cases e; exact .inr (.inr (.inl ⟨i, rfl, rfl⟩))
  | str x => cases e; exact .inr (.inr (.inr (.inl ⟨x, rfl, rfl⟩)))
  | tup xs =>
    rw [pyd] at e
    obtain ⟨ps, e1, rfl⟩ := Option.map_eq_some_iff.mp e
    exact .inr (.inr (.inr (.inr (.inl ⟨xs, ps, rfl, sqf_tup xs, e1⟩))))
  | rol xs =>
    rw [pyd] at e
    obtain ⟨ps, e1, rfl⟩ := Option.map_eq_some_iff.mp e
    exact .inr (.inr (.inr (.inr (.inr ⟨xs, ps, rfl, sqf_rol xs, e1⟩))))
  | ref i =>
    rw [pyd] at e
    split at e
    · rename_i xs ei
      obtain ⟨ps, e1, rfl⟩ := Option.map_eq_some_iff.mp e
      exact .inr (.inr (.inr (.inr (.inr ⟨xs, ps, rfl, sqf_lst ei, e1⟩))))
    · cases e
theorem same_ok {h : AH} : ∀ (n : Nat) (a b : D) (p : PyData), pyd h n a = some p → pyd h n b = some p → goodP p = true → sameN n [a, b] h = .ok (.bl true) h
  | 0, a, b, p, e, _, _ => by cases e
  | n + 1, a, b, p, e1, e2, g => by
    show sameM (sameN n) [a, b] h = _
    rcases pyd_seq e1 with ⟨rfl, rfl⟩ | ⟨c, rfl, rfl⟩ | ⟨i, rfl, rfl⟩ | ⟨x, rfl, rfl⟩ | ⟨xs, ps, rfl, A, p1⟩ | ⟨xs, ps, rfl, A, p1⟩
    · rcases pyd_seq e2 with ⟨e, rfl⟩ | ⟨_, e, _⟩ | ⟨_, e, _⟩ | ⟨_, e, _⟩ | ⟨_, _, e, _⟩ | ⟨_, _, e, _⟩ <;> first | cases e | skip
      simp [sameM, bodyM, sSeq, s_thenNx, s_thenRt, s_loopNx, s_loopRt, s_loopCt, s_loopBk, sAsg, sRet, sRetN, sDrop, sNil, sPar, sBrk, sCnt, eVar, eC, eOp, gmName, gmSub, eCallB, aCons, aNil, eB, eIf, eTru, mAnd, mOr, mNot, mYes, eMeth, eTup, eLst, eL, eDict0, eDict1, r_for1, forR_nat, r_forS, r_lc1, lcR_nat, r_lcS, n_non, n_bl, n_int, n_str, n_tup, n_rol, n_ref, b_non, b_bl, b_int, b_str, b_tup, b_rol, b_ref, eSetd, eItems, gmTup, gmCons, gmNil, dKey, eCall, eCallP, eDc, iSeq, wipeE, eUn, eIsi, eAnd, eOr, eNot, R.bind_ok, noX_ok, s_atI, s_atI0, s_atI1, s_atI2, s_atI3, s_atI4, s_atI5, s_add, s_sub, s_lt, s_le, s_gt, s_ge, s_isN, s_isB, s_eq_ii, s_eq_ss, s_eq_in, s_eq_ni, s_eq_nn, s_eq_sn, s_eq_ns, s_eq_bb, s_lenT, s_lenR, s_int, s_listT, s_listR, s_tupT, s_truB, s_truN, s_truI, s_truT, s_oB, s_itT, s_itR, s_inTI, s_inTS, s_isLst, r_in, r_inDi, r_inDs, inL_I, inL_S, r_ix, r_ixT, r_ixR, r_ixLi, r_ixDi, r_ixDs, r_len, r_list, r_tup, r_sort, r_tru, r_tyL, r_tyD, r_append, r_pop, r_extT, r_extR, r_it]
    · cases g
    · rcases pyd_seq e2 with ⟨e, rfl⟩ | ⟨_, e, _⟩ | ⟨_, e, rfl⟩ | ⟨_, e, _⟩ | ⟨_, _, e, _⟩ | ⟨_, _, e, _⟩ <;> cases e
      have hg : i.natAbs.log2 < 1920 := of_decide_eq_true g
      simp [sameM, bodyM, sSeq, s_thenNx, s_thenRt, s_loopNx, s_loopRt, s_loopCt, s_loopBk, sAsg, sRet, sRetN, sDrop, sNil, sPar, sBrk, sCnt, eVar, eC, eOp, gmName, gmSub, eCallB, aCons, aNil, eB, eIf, eTru, mAnd, mOr, mNot, mYes, eMeth, eTup, eLst, eL, eDict0, eDict1, r_for1, forR_nat, r_forS, r_lc1, lcR_nat, r_lcS, n_non, n_bl, n_int, n_str, n_tup, n_rol, n_ref, b_non, b_bl, b_int, b_str, b_tup, b_rol, b_ref, eSetd, eItems, gmTup, gmCons, gmNil, dKey, eCall, eCallP, eDc, iSeq, wipeE, eUn, eIsi, eAnd, eOr, eNot, R.bind_ok, noX_ok, s_atI, s_atI0, s_atI1, s_atI2, s_atI3, s_atI4, s_atI5, s_add, s_sub, s_lt, s_le, s_gt, s_ge, s_isN, s_isB, s_eq_ii, s_eq_ss, s_eq_in, s_eq_ni, s_eq_nn, s_eq_sn, s_eq_ns, s_eq_bb, s_lenT, s_lenR, s_int, s_listT, s_listR, s_tupT, s_truB, s_truN, s_truI, s_truT, s_oB, s_itT, s_itR, s_inTI, s_inTS, s_isLst, r_in, r_inDi, r_inDs, inL_I, inL_S, r_ix, r_ixT, r_ixR, r_ixLi, r_ixDi, r_ixDs, r_len, r_list, r_tup, r_sort, r_tru, r_tyL, r_tyD, r_append, r_pop, r_extT, r_extR, r_it, oIsi, tyD, oRepr, hg]
    · rcases pyd_seq e2 with ⟨e, rfl⟩ | ⟨_, e, _⟩ | ⟨_, e, _⟩ | ⟨_, e, rfl⟩ | ⟨_, _, e, _⟩ | ⟨_, _, e, _⟩ <;> cases e
      have hg : (reprText x).length ≤ sizeLine := of_decide_eq_true g
      simp [sameM, bodyM, sSeq, s_thenNx, s_thenRt, s_loopNx, s_loopRt, s_loopCt, s_loopBk, sAsg, sRet, sRetN, sDrop, sNil, sPar, sBrk, sCnt, eVar, eC, eOp, gmName, gmSub, eCallB, aCons, aNil, eB, eIf, eTru, mAnd, mOr, mNot, mYes, eMeth, eTup, eLst, eL, eDict0, eDict1, r_for1, forR_nat, r_forS, r_lc1, lcR_nat, r_lcS, n_non, n_bl, n_int, n_str, n_tup, n_rol, n_ref, b_non, b_bl, b_int, b_str, b_tup, b_rol, b_ref, eSetd, eItems, gmTup, gmCons, gmNil, dKey, eCall, eCallP, eDc, iSeq, wipeE, eUn, eIsi, eAnd, eOr, eNot, R.bind_ok, noX_ok, s_atI, s_atI0, s_atI1, s_atI2, s_atI3, s_atI4, s_atI5, s_add, s_sub, s_lt, s_le, s_gt, s_ge, s_isN, s_isB, s_eq_ii, s_eq_ss, s_eq_in, s_eq_ni, s_eq_nn, s_eq_sn, s_eq_ns, s_eq_bb, s_lenT, s_lenR, s_int, s_listT, s_listR, s_tupT, s_truB, s_truN, s_truI, s_truT, s_oB, s_itT, s_itR, s_inTI, s_inTS, s_isLst, r_in, r_inDi, r_inDs, inL_I, inL_S, r_ix, r_ixT, r_ixR, r_ixLi, r_ixDi, r_ixDs, r_len, r_list, r_tup, r_sort, r_tru, r_tyL, r_tyD, r_append, r_pop, r_extT, r_extR, r_it, oIsi, tyD, oRepr, hg]
    · rcases pyd_seq e2 with ⟨e, _⟩ | ⟨_, e, _⟩ | ⟨_, e, _⟩ | ⟨_, e, _⟩ | ⟨ys, qs, e, B, p2⟩ | ⟨_, _, e, _⟩ <;> cases e
      rw [goodP, Bool.and_eq_true, decide_eq_true_eq] at g
      refine same_seq (.inl rfl) A B (by rw [pydL_len p1, pydL_len p2]) (by unfold SmN; rw [pydL_len p2]; exact g.1) fun k x y hx hy => ?_
      obtain ⟨q, eq, f1⟩ := pydL_at p1 hx
      obtain ⟨q', eq', f2⟩ := pydL_at p2 hy
      rw [eq] at eq'; cases eq'
      exact same_ok n x y q f1 f2 (goodPs_at g.2 (List.mem_of_getElem? eq))
    · rcases pyd_seq e2 with ⟨e, _⟩ | ⟨_, e, _⟩ | ⟨_, e, _⟩ | ⟨_, e, _⟩ | ⟨_, _, e, _⟩ | ⟨ys, qs, e, B, p2⟩ <;> cases e
      rw [goodP, Bool.and_eq_true, decide_eq_true_eq] at g
      refine same_seq (.inr rfl) A B (by rw [pydL_len p1, pydL_len p2]) (by unfold SmN; rw [pydL_len p2]; exact g.1) fun k x y hx hy => ?_
      obtain ⟨q, eq, f1⟩ := pydL_at p1 hx
      obtain ⟨q', eq', f2⟩ := pydL_at p2 hy
      rw [eq] at eq'; cases eq'
      exact same_ok n x y q f1 f2 (goodPs_at g.2 (List.mem_of_getElem? eq))
end PM

/-! printed by gen.py: the defs as functions of data -/
namespace K04
open PySem L2 PM
/-- _law_cell: 0 script, 1 k -/
def mLawCell : FM := bodyM 2 (sSeq (eIf (eB (eOp (oLt) (eVar 1) (eCallB (aCons (eVar 0) (aNil)) oLen))) (sRet (eOp oIx (eVar 0) (eVar 1))) (sNil)) (sRet (eC (.int 0))))
/-- _law_digits: 0 script, 1 first, 2 last, 3 digits, 4 k, 5 cell, 6 turn, 7 seed -/
def mLawDigits : FM := bodyM 8 (sSeq (sAsg (eLst (aNil)) (gmName 3)) (sSeq (sFor (iRange2 (aCons (eVar 1) (aCons (eVar 2) (aNil)))) (gmName 4) (sSeq (sAsg (eCallP (aCons (eVar 0) (aCons (eVar 4) (aNil))) mLawCell) (gmName 5)) (sSeq (eIf (eB (eOp (oLt) (eVar 5) (eC (.int 0)))) (sAsg (eOp oSub (eC (.int 1)) (eOp oMul (eC (.int 2)) (eVar 5))) (gmName 5)) (sNil)) (eIf (eB (eOp (oGe) (eVar 5) (eOp oPow (eC (.int 10)) (eC (.int 18))))) (sFor (iRange1 (aCons (eC (.int 60)) (aNil))) (gmName 6) (eIf (eB (eOp (oGt) (eVar 5) (eC (.int 0)))) (sSeq (sDrop (eMeth .l (eVar 3) (aCons (eOp oMod (eCallB (aCons (eVar 5) (aNil)) oInt1) (eC (.int 1000))) (aNil)) oAppend)) (sAsg (eOp oFdiv (eVar 5) (eC (.int 1000))) (gmName 5))) (sNil))) (sSeq (sAsg (eOp oMod (eCallB (aCons (eOp oAdd (eOp oAdd (eOp oMul (eVar 5) (eC (.int 48271))) (eOp oMul (eVar 4) (eC (.int 69621)))) (eC (.int 11))) (aNil)) oInt1) (eC (.int 2147483647))) (gmName 7)) (sFor (iRange1 (aCons (eC (.int 12)) (aNil))) (gmName 6) (sSeq (sAsg (eOp oMod (eCallB (aCons (eOp oAdd (eOp oAdd (eOp oMul (eVar 7) (eC (.int 16807))) (eOp oMul (eC (.int 7)) (eVar 6))) (eC (.int 1))) (aNil)) oInt1) (eC (.int 2147483647))) (gmName 7)) (sDrop (eMeth .l (eVar 3) (aCons (eOp oMod (eCallB (aCons (eOp oFdiv (eVar 7) (eC (.int 997))) (aNil)) oInt1) (eC (.int 1000))) (aNil)) oAppend))))))))) (sRet (eVar 3))))
/-- _law_draw: 0 box, 1 many -/
def mLawDraw : FM := bodyM 2 (sSeq (sAsg (eOp oAdd (eOp oIx (eVar 0) (eC (.int 1))) (eC (.int 1))) (gmSub (eVar 0) (eC (.int 1)))) (sSeq (eIf (eB (eOp (oGt) (eOp oIx (eVar 0) (eC (.int 1))) (eCallB (aCons (eOp oIx (eVar 0) (eC (.int 0))) (aNil)) oLen))) (sRet (eOp oMod (eCallB (aCons (eOp oAdd (eOp oMul (eOp oIx (eVar 0) (eC (.int 1))) (eC (.int 7))) (eC (.int 3))) (aNil)) oInt1) (eVar 1))) (sNil)) (sRet (eOp oMod (eCallB (aCons (eOp oIx (eOp oIx (eVar 0) (eC (.int 0))) (eOp oSub (eOp oIx (eVar 0) (eC (.int 1))) (eC (.int 1)))) (aNil)) oInt1) (eVar 1)))))
/-- _law_blocks: 0 box, 1 many, 2 blocks, 3 k, 4 kind, 5 one, 6 other, 7 end -/
def mLawBlocks : FM := bodyM 8 (sSeq (sAsg (eOp oAdd (eC (.int 1)) (eCall (aCons (eVar 0) (aCons (eC (.int 9)) (aNil))) mLawDraw)) (gmName 1)) (sSeq (sAsg (eLst (aNil)) (gmName 2)) (sSeq (sFor (iRange1 (aCons (eVar 1) (aNil))) (gmName 3) (sSeq (sAsg (eCall (aCons (eVar 0) (aCons (eC (.int 8)) (aNil))) mLawDraw) (gmName 4)) (sSeq (sPar 5 6 (aCons (eCall (aCons (eVar 0) (aCons (eVar 1) (aNil))) mLawDraw) (aCons (eCall (aCons (eVar 0) (aCons (eVar 1) (aNil))) mLawDraw) (aNil)))) (sSeq (eIf (eB (eOp (oLt) (eVar 4) (eC (.int 3)))) (sAsg (eTup (aCons (eC (.str ("go" : Str))) (aCons (eVar 5) (aCons (eTup (aNil)) (aNil))))) (gmName 7)) (sAsg (eIf (eB (eOp (oLt) (eVar 4) (eC (.int 6)))) (eTup (aCons (eC (.str ("if" : Str))) (aCons (eC (.int 0)) (aCons (eVar 5) (aCons (eTup (aNil)) (aCons (eVar 6) (aCons (eTup (aNil)) (aNil)))))))) (eIf (eB (eOp (oEq false) (eVar 4) (eC (.int 6)))) (eTup (aCons (eC (.str ("give" : Str))) (aCons (eTup (aNil)) (aNil)))) (eTup (aCons (eC (.str ("halt" : Str))) (aCons (eC (.str ("stop" : Str))) (aNil)))))) (gmName 7))) (sDrop (eMeth .l (eVar 2) (aCons (eTup (aCons (eTup (aNil)) (aCons (eTup (aCons (eTup (aCons (eC (.str ("word" : Str))) (aCons (eC (.int 1)) (aNil)))) (aNil))) (aCons (eVar 7) (aNil))))) (aNil)) oAppend)))))) (sRet (eCallB (aCons (eVar 2) (aNil)) oTuple)))))
/-- _law_ways: 0 block, 1 end -/
def mLawWays : FM := bodyM 2 (sSeq (sAsg (eOp oIx (eVar 0) (eC (.int 2))) (gmName 1)) (sSeq (eIf (eB (eOp (oEq false) (eOp oIx (eVar 1) (eC (.int 0))) (eC (.str ("go" : Str))))) (sRet (eLst (aCons (eOp oIx (eVar 1) (eC (.int 1))) (aNil)))) (sNil)) (sRet (eIf (eB (eOp (oEq false) (eOp oIx (eVar 1) (eC (.int 0))) (eC (.str ("if" : Str))))) (eLst (aCons (eOp oIx (eVar 1) (eC (.int 2))) (aCons (eOp oIx (eVar 1) (eC (.int 4))) (aNil)))) (eLst (aNil))))))
/-- _law_met: 0 blocks, 1 gone, 2 found, 3 turn, 4 label, 5 other -/
def mLawMet : FM := bodyM 6 (sSeq (sAsg (eIf (eB (eOp (oEq true) (eVar 1) (eC (.int 0)))) (eLst (aCons (eC (.int 0)) (aNil))) (eLst (aNil))) (gmName 2)) (sSeq (sFor (iRange1 (aCons (eCallB (aCons (eVar 0) (aNil)) oLen) (aNil))) (gmName 3) (sFor (iSeq (eCallB (aCons (eVar 2) (aNil)) oList)) (gmName 4) (sFor (iSeq (eCallP (aCons (eOp oIx (eVar 0) (eVar 4)) (aNil)) mLawWays)) (gmName 5) (eIf (mAnd (eB (eOp (oEq true) (eVar 5) (eVar 1))) (eB (eOp (oIn true) (eVar 5) (eVar 2)))) (sDrop (eMeth .l (eVar 2) (aCons (eVar 5) (aNil)) oAppend)) (sNil))))) (sRet (eCallB (aCons (eVar 2) (aNil)) oSorted))))
/-- _law_same: 0 told, 1 due, 2 k -/
def mLawSame (rec : FM) : FM := bodyM 3 (sSeq (eIf (eB (eOp (oIs false) (eVar 1) (eC .non))) (sRet (eOp (oIs false) (eVar 0) (eC .non))) (sNil)) (sSeq (eIf (eB (eOp (oB1 false) (eVar 1) (eC (.bl true)))) (sRet (eOp (oB1 false) (eVar 0) (eC (.bl true)))) (sNil)) (sSeq (eIf (eB (eOp (oB1 false) (eVar 1) (eC (.bl false)))) (sRet (eOp (oB1 false) (eVar 0) (eC (.bl false)))) (sNil)) (sSeq (eIf (eTru (eIsi "str" (eVar 1))) (sRet (eAnd (eIsi "str" (eVar 0)) (eOp (oEq false) (eCallB (aCons (eVar 0) (aNil)) oRepr) (eCallB (aCons (eVar 1) (aNil)) oRepr)))) (sNil)) (sSeq (eIf (eTru (eIsi "int" (eVar 1))) (sRet (eAnd (eIsi "int" (eVar 0)) (eAnd (eNot (eIsi "bool" (eVar 0))) (eOp (oEq false) (eCallB (aCons (eVar 0) (aNil)) oRepr) (eCallB (aCons (eVar 1) (aNil)) oRepr))))) (sNil)) (sSeq (eIf (mOr (mAnd (eTru (eIsi "tuple" (eVar 1))) (mNot (eTru (eIsi "tuple" (eVar 0))))) (mAnd (eTru (eIsi "list" (eVar 1))) (mNot (eTru (eIsi "list" (eVar 0)))))) (sRet (eC (.bl false))) (sNil)) (sSeq (eIf (eB (eOp (oEq true) (eCallB (aCons (eVar 0) (aNil)) oLen) (eCallB (aCons (eVar 1) (aNil)) oLen))) (sRet (eC (.bl false))) (sNil)) (sSeq (sFor (iRange1 (aCons (eCallB (aCons (eVar 1) (aNil)) oLen) (aNil))) (gmName 2) (eIf (mNot (eTru (eCall (aCons (eOp oIx (eVar 0) (eVar 2)) (aCons (eOp oIx (eVar 1) (eVar 2)) (aNil))) rec))) (sRet (eC (.bl false))) (sNil))) (sRet (eC (.bl true)))))))))))
def mLawSameN : Nat → FM
  | 0 => fun _ _ => .no
  | n + 1 => mLawSame (mLawSameN n)
/-- ways_of: 0 block, 1 end -/
def mWaysOf : FM := bodyM 2 (sSeq (sAsg (eOp oIx (eVar 0) (eC (.int 2))) (gmName 1)) (sSeq (eIf (eB (eOp (oEq false) (eOp oIx (eVar 1) (eC (.int 0))) (eC (.str ("go" : Str))))) (sRet (eLst (aCons (eOp oIx (eVar 1) (eC (.int 1))) (aNil)))) (sNil)) (sRet (eIf (eB (eOp (oEq false) (eOp oIx (eVar 1) (eC (.int 0))) (eC (.str ("if" : Str))))) (eLst (aCons (eOp oIx (eVar 1) (eC (.int 2))) (aCons (eOp oIx (eVar 1) (eC (.int 4))) (aNil)))) (eLst (aNil))))))
/-- reach: 0 blocks, 1 found, 2 todo, 3 label -/
def mReach : FM := bodyM 4 (sSeq (sPar 1 2 (aCons (eDict1 (eC (.int 0)) (eC (.bl true))) (aCons (eLst (aCons (eC (.int 0)) (aNil))) (aNil)))) (sSeq (whileM (eTru (eVar 2)) (sFor (iSeq (eCallP (aCons (eOp oIx (eVar 0) (eMeth .l (eVar 2) aNil oPop)) (aNil)) mWaysOf)) (gmName 3) (eIf (eB (eOp (oIn true) (eVar 3) (eVar 1))) (sSeq (sAsg (eC (.bl true)) (gmSub (eVar 1) (eVar 3))) (sDrop (eMeth .l (eVar 2) (aCons (eVar 3) (aNil)) oAppend))) (sNil))) 1000) (sRet (eCallB (aCons (eCallB (aCons (eVar 1) (aNil)) oSorted) (aNil)) oTuple))))
/-- arrows: 0 blocks, 1 found, 2 label, 3 other -/
def mArrows : FM := bodyM 4 (sSeq (sAsg (eLst (aNil)) (gmName 1)) (sSeq (sFor (iSeq (eCallP (aCons (eVar 0) (aNil)) mReach)) (gmName 2) (sFor (iSeq (eCallP (aCons (eOp oIx (eVar 0) (eVar 2)) (aNil)) mWaysOf)) (gmName 3) (eIf (eB (eOp (oIn true) (eTup (aCons (eVar 2) (aCons (eVar 3) (aNil)))) (eVar 1))) (sDrop (eMeth .l (eVar 1) (aCons (eTup (aCons (eVar 2) (aCons (eVar 3) (aNil)))) (aNil)) oAppend)) (sNil)))) (sRet (eVar 1))))
/-- met_without: 0 blocks, 1 gone, 2 found, 3 todo, 4 here, 5 label -/
def mMetWithout : FM := bodyM 6 (sSeq (sPar 2 3 (aCons (eDict0) (aCons (eIf (eB (eOp (oEq true) (eVar 1) (eC (.int 0)))) (eLst (aCons (eC (.int 0)) (aNil))) (eLst (aNil))) (aNil)))) (sSeq (whileM (eTru (eVar 3)) (sSeq (sAsg (eMeth .l (eVar 3) aNil oPop) (gmName 4)) (eIf (eB (eOp (oIn true) (eVar 4) (eVar 2))) (sSeq (sAsg (eC (.bl true)) (gmSub (eVar 2) (eVar 4))) (sDrop (eMeth .l (eVar 3) (aCons (eL (lComp (iSeq (eCallP (aCons (eOp oIx (eVar 0) (eVar 4)) (aNil)) mWaysOf)) [5] (gmName 5) (eB (eOp (oEq true) (eVar 5) (eVar 1))) (eVar 5))) (aNil)) oExtend))) (sNil))) 1000) (sRet (eCallB (aCons (eCallB (aCons (eVar 2) (aNil)) oSorted) (aNil)) oTuple))))
/-- over: 0 blocks, 1 met, 2 found, 3 gone, 4 left, 5 label -/
def mOver : FM := bodyM 6 (sSeq (sAsg (eCallP (aCons (eVar 0) (aNil)) mReach) (gmName 1)) (sSeq (sAsg (eDc (iSeq (eVar 1)) [5] (gmName 5) (mYes) (eVar 5) (eLst (aNil))) (gmName 2)) (sSeq (sFor (iSeq (eVar 1)) (gmName 3) (sSeq (sAsg (eCallP (aCons (eVar 0) (aCons (eVar 3) (aNil))) mMetWithout) (gmName 4)) (sFor (iSeq (eVar 1)) (gmName 5) (eIf (mAnd (eB (eOp (oEq true) (eVar 5) (eVar 3))) (eB (eOp (oIn true) (eVar 5) (eVar 4)))) (sDrop (eMeth .l (eOp oIx (eVar 2) (eVar 5)) (aCons (eVar 3) (aNil)) oAppend)) (sNil))))) (sRet (eDc (iSeq (eVar 1)) [5] (gmName 5) (mYes) (eVar 5) (eCallB (aCons (eOp oIx (eVar 2) (eVar 5)) (aNil)) oTuple))))))
/-- within: 0 blocks, 1 head, 2 ends, 3 found, 4 todo, 5 rows, 6 here, 7 label, 8 other -/
def mWithin : FM := bodyM 9 (sSeq (sPar 3 4 (aCons (eDict1 (eVar 1) (eC (.bl true))) (aCons (eCallB (aCons (eVar 2) (aNil)) oList) (aNil)))) (sSeq (sAsg (eCallP (aCons (eVar 0) (aNil)) mArrows) (gmName 5)) (sSeq (whileM (eTru (eVar 4)) (sSeq (sAsg (eMeth .l (eVar 4) aNil oPop) (gmName 6)) (eIf (eB (eOp (oIn true) (eVar 6) (eVar 3))) (sSeq (sAsg (eC (.bl true)) (gmSub (eVar 3) (eVar 6))) (sDrop (eMeth .l (eVar 4) (aCons (eL (lComp (iSeq (eVar 5)) [7, 8] (gmTup 2 (gmCons (gmName 7) (gmCons (gmName 8) (gmNil)))) (eB (eOp (oEq false) (eVar 8) (eVar 6))) (eVar 7))) (aNil)) oExtend))) (sNil))) 1000) (sRet (eCallB (aCons (eCallB (aCons (eVar 3) (aNil)) oSorted) (aNil)) oTuple)))))
/-- loops: 0 blocks, 1 told, 2 backs, 3 label, 4 head -/
def mLoops : FM := bodyM 5 (sSeq (sAsg (eCallP (aCons (eVar 0) (aNil)) mOver) (gmName 1)) (sSeq (sAsg (eDict0) (gmName 2)) (sSeq (sFor (iSeq (eCallP (aCons (eVar 0) (aNil)) mArrows)) (gmTup 2 (gmCons (gmName 3) (gmCons (gmName 4) (gmNil)))) (eIf (mOr (eB (eOp (oEq false) (eVar 4) (eVar 3))) (eB (eOp (oIn false) (eVar 4) (eOp oIx (eVar 1) (eVar 3))))) (sDrop (eMeth .l (eSetd (eVar 2) (eVar 4) (eLst (aNil))) (aCons (eVar 3) (aNil)) oAppend)) (sNil))) (sRet (eCallB (aCons (eL (lComp (iSeq (eCallB (aCons (eVar 2) (aNil)) oSorted)) [4] (gmName 4) (mYes) (eTup (aCons (eVar 4) (aCons (eCall (aCons (eVar 0) (aCons (eVar 4) (aCons (eOp oIx (eVar 2) (eVar 4)) (aNil)))) mWithin) (aNil)))))) (aNil)) oTuple)))))
/-- _law_loops: 0 blocks, 1 above, 2 met, 3 found, 4 head, 5 ends, 6 rows, 7 turn, 8 label, 9 other -/
def mLawLoops : FM := bodyM 10 (sSeq (sAsg (eCallP (aCons (eVar 0) (aCons (eC .non) (aNil))) mLawMet) (gmName 2)) (sSeq (sAsg (eLst (aNil)) (gmName 3)) (sSeq (sFor (iSeq (eVar 2)) (gmName 4) (sSeq (sAsg (eL (lComp (iSeq (eVar 2)) [8] (gmName 8) (mAnd (eB (eOp (oIn false) (eVar 4) (eCallP (aCons (eOp oIx (eVar 0) (eVar 8)) (aNil)) mLawWays))) (mOr (eB (eOp (oEq false) (eVar 4) (eVar 8))) (eB (eOp (oIn false) (eVar 4) (eOp oIx (eVar 1) (eVar 8)))))) (eVar 8))) (gmName 5)) (eIf (eB (eOp (oEq true) (eVar 5) (eLst (aNil)))) (sSeq (sAsg (eOp oAdd (eLst (aCons (eVar 4) (aNil))) (eL (lComp (iSeq (eVar 5)) [8] (gmName 8) (eB (eOp (oEq true) (eVar 8) (eVar 4))) (eVar 8)))) (gmName 6)) (sSeq (sFor (iRange1 (aCons (eCallB (aCons (eVar 0) (aNil)) oLen) (aNil))) (gmName 7) (sFor (iSeq (eVar 2)) (gmName 8) (eIf (mAnd (eB (eOp (oIn true) (eVar 8) (eVar 6))) (eB (eOp (oEq true) (eL (lComp (iSeq (eCallP (aCons (eOp oIx (eVar 0) (eVar 8)) (aNil)) mLawWays)) [9] (gmName 9) (mAnd (eB (eOp (oIn false) (eVar 9) (eVar 6))) (eB (eOp (oEq true) (eVar 9) (eVar 4)))) (eVar 9))) (eLst (aNil))))) (sDrop (eMeth .l (eVar 6) (aCons (eVar 8) (aNil)) oAppend)) (sNil)))) (sDrop (eMeth .l (eVar 3) (aCons (eTup (aCons (eVar 4) (aCons (eCallB (aCons (eCallB (aCons (eVar 6) (aNil)) oSorted) (aNil)) oTuple) (aNil)))) (aNil)) oAppend)))) (sNil)))) (sRet (eCallB (aCons (eVar 3) (aNil)) oTuple)))))
/-- dominators: 0 blocks, 1 told, 2 found, 3 label, 4 nearest, 5 one -/
def mDominators : FM := bodyM 6 (sSeq (sAsg (eCallP (aCons (eVar 0) (aNil)) mOver) (gmName 1)) (sSeq (sAsg (eDict0) (gmName 2)) (sSeq (sLock 1 (sFor (iSeq (eVar 1)) (gmName 3) (sSeq (sAsg (eL (lComp (iSeq (eOp oIx (eVar 1) (eVar 3))) [5] (gmName 5) (eB (eOp (oEq false) (eCallB (aCons (eOp oIx (eVar 1) (eVar 5)) (aNil)) oLen) (eOp oSub (eCallB (aCons (eOp oIx (eVar 1) (eVar 3)) (aNil)) oLen) (eC (.int 1))))) (eVar 5))) (gmName 4)) (sAsg (eIf (eTru (eVar 4)) (eOp oIx (eVar 4) (eC (.int 0))) (eC .non)) (gmSub (eVar 2) (eVar 3)))))) (sRet (eVar 2)))))
/-- _law_pick: 0 box, 1 row -/
def mLawPick : FM := bodyM 2 (sRet (eOp oIx (eVar 1) (eOp oMod (eCallB (aCons (eCall (aCons (eVar 0) (aCons (eC (.int 1000)) (aNil))) mLawDraw) (aNil)) oInt1) (eCallB (aCons (eVar 1) (aNil)) oLen))))
/-- calls_of: 0 function, 1 found, 2 block, 3 step -/
def mCallsOf : FM := bodyM 4 (sSeq (sAsg (eDict0) (gmName 1)) (sSeq (sFor (iSeq (eOp oIx (eVar 0) (eC (.int 3)))) (gmName 2) (sFor (iSeq (eOp oIx (eVar 2) (eC (.int 1)))) (gmName 3) (eIf (eB (eOp (oEq false) (eOp oIx (eVar 3) (eC (.int 0))) (eC (.str ("call" : Str))))) (sAsg (eC (.bl true)) (gmSub (eVar 1) (eOp oIx (eVar 3) (eC (.int 1))))) (sNil)))) (sRet (eCallB (aCons (eCallB (aCons (eVar 1) (aNil)) oSorted) (aNil)) oTuple))))
/-- callers: 0 code, 1 found, 2 function, 3 name -/
def mCallers : FM := bodyM 4 (sSeq (sAsg (eDc (iSeq (eOp oIx (eVar 0) (eC (.int 2)))) [2] (gmName 2) (mYes) (eOp oIx (eVar 2) (eC (.int 0))) (eLst (aNil))) (gmName 1)) (sSeq (sFor (iSeq (eOp oIx (eVar 0) (eC (.int 2)))) (gmName 2) (sFor (iSeq (eCallP (aCons (eVar 2) (aNil)) mCallsOf)) (gmName 3) (sDrop (eMeth .l (eOp oIx (eVar 1) (eVar 3)) (aCons (eOp oIx (eVar 2) (eC (.int 0))) (aNil)) oAppend)))) (sRet (eLock 1 (eDc (iSeq (eVar 1)) [3] (gmName 3) (mYes) (eVar 3) (eCallB (aCons (eCallB (aCons (eOp oIx (eVar 1) (eVar 3)) (aNil)) oSorted) (aNil)) oTuple))))))
/-- function_named: 0 code, 1 name, 2 function -/
def mFunctionNamed : FM := bodyM 3 (sSeq (sFor (iSeq (eOp oIx (eVar 0) (eC (.int 2)))) (gmName 2) (eIf (eB (eOp (oEq false) (eOp oIx (eVar 2) (eC (.int 0))) (eVar 1))) (sRet (eVar 2)) (sNil))) (sNo))
/-- calls_far: 0 code, 1 name, 2 found, 3 todo, 4 here -/
def mCallsFar : FM := bodyM 5 (sSeq (sPar 2 3 (aCons (eDict0) (aCons (eCallB (aCons (eCallP (aCons (eCallP (aCons (eVar 0) (aCons (eVar 1) (aNil))) mFunctionNamed) (aNil)) mCallsOf) (aNil)) oList) (aNil)))) (sSeq (whileM (eTru (eVar 3)) (sSeq (sAsg (eMeth .l (eVar 3) aNil oPop) (gmName 4)) (eIf (eB (eOp (oIn true) (eVar 4) (eVar 2))) (sSeq (sAsg (eC (.bl true)) (gmSub (eVar 2) (eVar 4))) (sDrop (eMeth .l (eVar 3) (aCons (eCallP (aCons (eCallP (aCons (eVar 0) (aCons (eVar 4) (aNil))) mFunctionNamed) (aNil)) mCallsOf) (aNil)) oExtend))) (sNil))) 1000) (sRet (eCallB (aCons (eCallB (aCons (eVar 2) (aNil)) oSorted) (aNil)) oTuple))))
/-- _law_far: 0 table, 1 name, 2 found, 3 turn, 4 other, 5 far -/
def mLawFar : FM := bodyM 6 (sSeq (sAsg (eCallB (aCons (eOp oIx (eVar 0) (eVar 1)) (aNil)) oList) (gmName 2)) (sSeq (sFor (iRange1 (aCons (eCallB (aCons (eVar 0) (aNil)) oLen) (aNil))) (gmName 3) (sFor (iSeq (eCallB (aCons (eVar 2) (aNil)) oList)) (gmName 4) (sAsg (eOp oAdd (eVar 2) (eL (lComp (iSeq (eOp oIx (eVar 0) (eVar 4))) [5] (gmName 5) (eB (eOp (oIn true) (eVar 5) (eVar 2))) (eVar 5)))) (gmName 2)))) (sRet (eCallB (aCons (eSortSet (eVar 2)) (aNil)) oTuple))))
/-- law: 0 script, 1 box, 2 turn, 3 blocks, 4 met, 5 above, 6 nearest, 7 label, 8 rows, 9 due, 10 names, 11 table, 12 name, 13 called, 14 code, 15 k, 16 far, 17 other -/
def mLaw : FM := bodyM 18 (sSeq (sAsg (eLst (aCons (eCallP (aCons (eVar 0) (aCons (eC (.int 0)) (aCons (eC (.int 30)) (aNil)))) mLawDigits) (aCons (eC (.int 0)) (aNil)))) (gmName 1)) (sSeq (sFor (iRange1 (aCons (eC (.int 3)) (aNil))) (gmName 2) (sSeq (sAsg (eCall (aCons (eVar 1) (aNil)) mLawBlocks) (gmName 3)) (sSeq (sAsg (eCallP (aCons (eVar 3) (aCons (eC .non) (aNil))) mLawMet) (gmName 4)) (sSeq (eIf (mNot (eTru (eCall (aCons (eCallP (aCons (eVar 3) (aNil)) mReach) (aCons (eCallB (aCons (eVar 4) (aNil)) oTuple) (aNil))) (mLawSameN 8)))) (sRet (eC (.bl false))) (sNil)) (sSeq (sAsg (eL (lComp (iRange1 (aCons (eCallB (aCons (eVar 3) (aNil)) oLen) (aNil))) [7] (gmName 7) (mYes) (eCallB (aCons (eL (lComp (iSeq (eVar 4)) [16] (gmName 16) (mAnd (eB (eOp (oEq true) (eVar 16) (eVar 7))) (eB (eOp (oIn true) (eVar 7) (eCallP (aCons (eVar 3) (aCons (eVar 16) (aNil))) mLawMet)))) (eVar 16))) (aNil)) oTuple))) (gmName 5)) (sSeq (eIf (mNot (eTru (eCall (aCons (eItems (eCallP (aCons (eVar 3) (aNil)) mOver)) (aCons (eL (lComp (iSeq (eVar 4)) [7] (gmName 7) (mYes) (eTup (aCons (eVar 7) (aCons (eOp oIx (eVar 5) (eVar 7)) (aNil)))))) (aNil))) (mLawSameN 8)))) (sRet (eC (.bl false))) (sNil)) (sSeq (sAsg (eLst (aNil)) (gmName 6)) (sSeq (sFor (iSeq (eVar 4)) (gmName 7) (sSeq (sAsg (eL (lComp (iSeq (eOp oIx (eVar 5) (eVar 7))) [16] (gmName 16) (eB (eOp (oEq false) (eCallB (aCons (eOp oIx (eVar 5) (eVar 16)) (aNil)) oLen) (eOp oSub (eCallB (aCons (eOp oIx (eVar 5) (eVar 7)) (aNil)) oLen) (eC (.int 1))))) (eVar 16))) (gmName 8)) (sDrop (eMeth .l (eVar 6) (aCons (eTup (aCons (eVar 7) (aCons (eIf (eB (eOp (oEq true) (eVar 8) (eLst (aNil)))) (eOp oIx (eVar 8) (eC (.int 0))) (eC .non)) (aNil)))) (aNil)) oAppend)))) (sSeq (eIf (mOr (mNot (eTru (eCall (aCons (eItems (eCallP (aCons (eVar 3) (aNil)) mDominators)) (aCons (eVar 6) (aNil))) (mLawSameN 8)))) (mNot (eTru (eCall (aCons (eCallP (aCons (eVar 3) (aNil)) mLoops) (aCons (eCall (aCons (eVar 3) (aCons (eVar 5) (aNil))) mLawLoops) (aNil))) (mLawSameN 8))))) (sRet (eC (.bl false))) (sNil)) (sSeq (sAsg (eLst (aNil)) (gmName 9)) (sSeq (sFor (iSeq (eVar 4)) (gmName 7) (sAsg (eOp oAdd (eVar 9) (eL (lComp (iSeq (eCallP (aCons (eOp oIx (eVar 3) (eVar 7)) (aNil)) mLawWays)) [17] (gmName 17) (mYes) (eTup (aCons (eVar 7) (aCons (eVar 17) (aNil))))))) (gmName 9))) (eIf (mNot (eTru (eCall (aCons (eCallP (aCons (eVar 3) (aNil)) mArrows) (aCons (eL (lComp (iRange1 (aCons (eCallB (aCons (eVar 9) (aNil)) oLen) (aNil))) [15] (gmName 15) (eB (eOp (oIn true) (eOp oIx (eVar 9) (eVar 15)) (eSl (eVar 9) (oNone) (oSome (eVar 15))))) (eOp oIx (eVar 9) (eVar 15)))) (aNil))) (mLawSameN 8)))) (sRet (eC (.bl false))) (sNil))))))))))))) (sSeq (sAsg (eSl (eLst (aCons (eC (.str ("m.a" : Str))) (aCons (eC (.str ("m.b" : Str))) (aCons (eC (.str ("n.c" : Str))) (aCons (eC (.str ("n.d" : Str))) (aCons (eC (.str ("m.e" : Str))) (aCons (eC (.str ("n.f" : Str))) (aNil)))))))) (oNone) (oSome (eOp oAdd (eC (.int 1)) (eCall (aCons (eVar 1) (aCons (eC (.int 6)) (aNil))) mLawDraw)))) (gmName 10)) (sSeq (sAsg (eTup (aCons (eLst (aNil)) (aCons (eDict0) (aNil)))) (gmTup 2 (gmCons (gmName 8) (gmCons (gmName 11) (gmNil))))) (sSeq (sFor (iSeq (eVar 10)) (gmName 12) (sSeq (sAsg (eL (lComp (iRange1 (aCons (eCall (aCons (eVar 1) (aCons (eC (.int 3)) (aNil))) mLawDraw) (aNil))) [2] (gmName 2) (mYes) (eCall (aCons (eVar 1) (aCons (eVar 10) (aNil))) mLawPick))) (gmName 13)) (sSeq (sDrop (eMeth .l (eVar 8) (aCons (eTup (aCons (eVar 12) (aCons (eTup (aNil)) (aCons (eTup (aNil)) (aCons (eTup (aCons (eTup (aCons (eTup (aNil)) (aCons (eCallB (aCons (eL (lComp (iSeq (eVar 13)) [17] (gmName 17) (mYes) (eTup (aCons (eC (.str ("call" : Str))) (aCons (eVar 17) (aCons (eTup (aNil)) (aNil))))))) (aNil)) oTuple) (aCons (eTup (aCons (eC (.str ("give" : Str))) (aCons (eTup (aNil)) (aNil)))) (aNil))))) (aNil))) (aNil)))))) (aNil)) oAppend)) (sAsg (eSortSet (eVar 13)) (gmSub (eVar 11) (eVar 12)))))) (sSeq (sAsg (eTup (aCons (eC (.str ("code" : Str))) (aCons (eTup (aNil)) (aCons (eCallB (aCons (eVar 8) (aNil)) oTuple) (aNil))))) (gmName 14)) (sSeq (sAsg (eL (lComp (iSeq (eVar 10)) [12] (gmName 12) (mYes) (eTup (aCons (eVar 12) (aCons (eCallB (aCons (eCallB (aCons (eL (lComp (iSeq (eVar 10)) [17] (gmName 17) (eB (eOp (oIn false) (eVar 12) (eOp oIx (eVar 11) (eVar 17)))) (eVar 17))) (aNil)) oSorted) (aNil)) oTuple) (aNil)))))) (gmName 9)) (sSeq (eIf (mNot (eTru (eCall (aCons (eItems (eCallP (aCons (eVar 14) (aNil)) mCallers)) (aCons (eVar 9) (aNil))) (mLawSameN 8)))) (sRet (eC (.bl false))) (sNil)) (sSeq (sFor (iRange1 (aCons (eCallB (aCons (eVar 10) (aNil)) oLen) (aNil))) (gmName 15) (eIf (mOr (mNot (eTru (eCall (aCons (eCallP (aCons (eOp oIx (eVar 8) (eVar 15)) (aNil)) mCallsOf) (aCons (eCallB (aCons (eOp oIx (eVar 11) (eOp oIx (eVar 10) (eVar 15))) (aNil)) oTuple) (aNil))) (mLawSameN 8)))) (mNot (eTru (eCall (aCons (eCallP (aCons (eVar 14) (aCons (eOp oIx (eVar 10) (eVar 15)) (aNil))) mCallsFar) (aCons (eCall (aCons (eVar 11) (aCons (eOp oIx (eVar 10) (eVar 15)) (aNil))) mLawFar) (aNil))) (mLawSameN 8))))) (sRet (eC (.bl false))) (sNil))) (sRet (eC (.bl true))))))))))))
end K04

/-! printed by gen.py: each def keeps its function -/
namespace K04
open PySem L2 PM
def topS (i : Nat) : Stmt := PySem.Challenge.pw_stairwright_k04_whole_ways_between_block.main.body.getD i (.Pass ⟨0, 0, 0, 0⟩)
abbrev s__law_cell : Stmt := topS 18
abbrev s__law_digits : Stmt := topS 19
abbrev s__law_draw : Stmt := topS 20
abbrev s__law_blocks : Stmt := topS 23
abbrev s__law_ways : Stmt := topS 24
abbrev s__law_met : Stmt := topS 25
abbrev s__law_same : Stmt := topS 22
abbrev s_ways_of : Stmt := topS 6
abbrev s_reach : Stmt := topS 7
abbrev s_arrows : Stmt := topS 11
abbrev s_met_without : Stmt := topS 8
abbrev s_over : Stmt := topS 9
abbrev s_within : Stmt := topS 13
abbrev s_loops : Stmt := topS 12
abbrev s__law_loops : Stmt := topS 26
abbrev s_dominators : Stmt := topS 10
abbrev s__law_pick : Stmt := topS 21
abbrev s_calls_of : Stmt := topS 14
abbrev s_callers : Stmt := topS 15
abbrev s_function_named : Stmt := topS 4
abbrev s_calls_far : Stmt := topS 16
abbrev s__law_far : Stmt := topS 27
abbrev s_law : Stmt := topS 28
structure Bn (mg : Str → Option Value) : Prop where
  h_bool : mg "bool" = none
  h_int : mg "int" = none
  h_isinstance : mg "isinstance" = none
  h_len : mg "len" = none
  h_list : mg "list" = none
  h_range : mg "range" = none
  h_repr : mg "repr" = none
  h_set : mg "set" = none
  h_sorted : mg "sorted" = none
  h_str : mg "str" = none
  h_tuple : mg "tuple" = none
section
variable {P : Program} {w : World} {K : PySem.W.Frag} {mg : Str → Option Value} {base : Heap}
theorem sc__law_cell : FnScope ["script", "k"] ["script", "k"] (defScope s__law_cell) := ⟨rfl, rfl, rfl, by decide +kernel, rfl, by decide +kernel, by decide +kernel⟩
theorem ok__law_cell (B : Bn mg) (T : Told K mg "_law_cell" s__law_cell ["script", "k"])  : DOk P w K mg base 1 "_law_cell" 2 mLawCell :=
  DOk.body (N := ["script", "k"]) T sc__law_cell fun f cdv A outer s H E hr =>
    have hu := hr.units
    have nd := sc__law_cell.nd
    sds_cons (sd_if (td_cmp om_lt (ed_var 1) (ed_callB om_len (by rfl) B.h_len (by decide +kernel) (ad_cons (ed_var 0) (ad_nil))) (by rfl)) (sds_one (sd_ret (ed_ix hu (ed_var 0) (ed_var 1) (fun _ _ => rfl)))) (sds_nil)) (sds_one (sd_ret (ed_int)))
theorem sc__law_digits : FnScope ["script", "first", "last", "digits", "k", "cell", "turn", "seed"] ["script", "first", "last"] (defScope s__law_digits) := ⟨rfl, rfl, rfl, by decide +kernel, rfl, by decide +kernel, by decide +kernel⟩
theorem ok__law_digits (B : Bn mg) (T : Told K mg "_law_digits" s__law_digits ["script", "first", "last"]) (d__law_cell : DOk P w K mg base 1 "_law_cell" 2 mLawCell) : DOk P w K mg base 2 "_law_digits" 3 mLawDigits :=
  DOk.body (N := ["script", "first", "last", "digits", "k", "cell", "turn", "seed"]) T sc__law_digits fun f cdv A outer s H E hr =>
    have hu := hr.units
    have nd := sc__law_digits.nd
    sds_cons (sd_set 3 nd (ed_lst (ad_nil))) (sds_cons (sd_for PassesOwn.never rfl (id_range2 (by rfl) B.h_range (ad_cons (ed_var 1) (ad_cons (ed_var 2) (ad_nil)))) (gd_name nd (i := 4)) (sds_cons (sd_set 5 nd (ed_callP (d__law_cell.mono (by decide)) hr (by rfl) (ad_cons (ed_var 0) (ad_cons (ed_var 4) (ad_nil))))) (sds_cons (sd_if (td_cmp om_lt (ed_var 5) (ed_int) (by rfl)) (sds_one (sd_set 5 nd (ed_op om_sub (ed_int) (ed_op om_mul (ed_int) (ed_var 5))))) (sds_nil)) (sds_one (sd_if (td_cmp om_ge (ed_var 5) (ed_op om_pow (ed_int) (ed_int)) (by rfl)) (sds_one (sd_for PassesOwn.never rfl (id_range1 (by rfl) B.h_range (ad_cons (ed_int) (ad_nil))) (gd_name nd (i := 6)) (sds_one (sd_if (td_cmp om_gt (ed_var 5) (ed_int) (by rfl)) (sds_cons (sd_expr (ed_meth .l PySem.F.plainAttrs_list PySem.F.slot_list_append PySem.F.type_list_append om_append (ed_var 3) (ad_cons (ed_op om_mod (ed_callT om_int (by rfl) B.h_int (by decide +kernel) (ad_cons (ed_var 5) (ad_nil))) (ed_int)) (ad_nil)))) (sds_one (sd_set 5 nd (ed_op om_fdiv (ed_var 5) (ed_int))))) (sds_nil))))) (sds_cons (sd_set 7 nd (ed_op om_mod (ed_callT om_int (by rfl) B.h_int (by decide +kernel) (ad_cons (ed_op om_add (ed_op om_add (ed_op om_mul (ed_var 5) (ed_int)) (ed_op om_mul (ed_var 4) (ed_int))) (ed_int)) (ad_nil))) (ed_int))) (sds_one (sd_for PassesOwn.never rfl (id_range1 (by rfl) B.h_range (ad_cons (ed_int) (ad_nil))) (gd_name nd (i := 6)) (sds_cons (sd_set 7 nd (ed_op om_mod (ed_callT om_int (by rfl) B.h_int (by decide +kernel) (ad_cons (ed_op om_add (ed_op om_add (ed_op om_mul (ed_var 7) (ed_int)) (ed_op om_mul (ed_int) (ed_var 6))) (ed_int)) (ad_nil))) (ed_int))) (sds_one (sd_expr (ed_meth .l PySem.F.plainAttrs_list PySem.F.slot_list_append PySem.F.type_list_append om_append (ed_var 3) (ad_cons (ed_op om_mod (ed_callT om_int (by rfl) B.h_int (by decide +kernel) (ad_cons (ed_op om_fdiv (ed_var 7) (ed_int)) (ad_nil))) (ed_int)) (ad_nil)))))))))))))) (sds_one (sd_ret (ed_var 3))))
theorem sc__law_draw : FnScope ["box", "many"] ["box", "many"] (defScope s__law_draw) := ⟨rfl, rfl, rfl, by decide +kernel, rfl, by decide +kernel, by decide +kernel⟩
theorem ok__law_draw (B : Bn mg) (T : Told K mg "_law_draw" s__law_draw ["box", "many"])  : DOk P w K mg base 1 "_law_draw" 2 mLawDraw :=
  DOk.body (N := ["box", "many"]) T sc__law_draw fun f cdv A outer s H E hr =>
    have hu := hr.units
    have nd := sc__law_draw.nd
    sds_cons (sd_asg (ed_op om_add (ed_ix hu (ed_var 0) (ed_int) (fun _ _ => rfl)) (ed_int)) (gd_sub hu (ed_var 0) (ed_int))) (sds_cons (sd_if (td_cmp om_gt (ed_ix hu (ed_var 0) (ed_int) (fun _ _ => rfl)) (ed_callB om_len (by rfl) B.h_len (by decide +kernel) (ad_cons (ed_ix hu (ed_var 0) (ed_int) (fun _ _ => rfl)) (ad_nil))) (by rfl)) (sds_one (sd_ret (ed_op om_mod (ed_callT om_int (by rfl) B.h_int (by decide +kernel) (ad_cons (ed_op om_add (ed_op om_mul (ed_ix hu (ed_var 0) (ed_int) (fun _ _ => rfl)) (ed_int)) (ed_int)) (ad_nil))) (ed_var 1)))) (sds_nil)) (sds_one (sd_ret (ed_op om_mod (ed_callT om_int (by rfl) B.h_int (by decide +kernel) (ad_cons (ed_ix hu (ed_ix hu (ed_var 0) (ed_int) (fun _ _ => rfl)) (ed_op om_sub (ed_ix hu (ed_var 0) (ed_int) (fun _ _ => rfl)) (ed_int)) (fun _ _ => rfl)) (ad_nil))) (ed_var 1)))))
theorem sc__law_blocks : FnScope ["box", "many", "blocks", "k", "kind", "one", "other", "end"] ["box"] (defScope s__law_blocks) := ⟨rfl, rfl, rfl, by decide +kernel, rfl, by decide +kernel, by decide +kernel⟩
theorem ok__law_blocks (B : Bn mg) (T : Told K mg "_law_blocks" s__law_blocks ["box"]) (d__law_draw : DOk P w K mg base 1 "_law_draw" 2 mLawDraw) : DOk P w K mg base 2 "_law_blocks" 1 mLawBlocks :=
  DOk.body (N := ["box", "many", "blocks", "k", "kind", "one", "other", "end"]) T sc__law_blocks fun f cdv A outer s H E hr =>
    have hu := hr.units
    have nd := sc__law_blocks.nd
    sds_cons (sd_set 1 nd (ed_op om_add (ed_int) (ed_call (d__law_draw.mono (by decide)) hr (by rfl) (ad_cons (ed_var 0) (ad_cons (ed_int) (ad_nil)))))) (sds_cons (sd_set 2 nd (ed_lst (ad_nil))) (sds_cons (sd_for PassesOwn.never rfl (id_range1 (by rfl) B.h_range (ad_cons (ed_var 1) (ad_nil))) (gd_name nd (i := 3)) (sds_cons (sd_set 4 nd (ed_call (d__law_draw.mono (by decide)) hr (by rfl) (ad_cons (ed_var 0) (ad_cons (ed_int) (ad_nil))))) (sds_cons (sd_par 5 6 rfl nd (ad_cons (ed_call (d__law_draw.mono (by decide)) hr (by rfl) (ad_cons (ed_var 0) (ad_cons (ed_var 1) (ad_nil)))) (ad_cons (ed_call (d__law_draw.mono (by decide)) hr (by rfl) (ad_cons (ed_var 0) (ad_cons (ed_var 1) (ad_nil)))) (ad_nil)))) (sds_cons (sd_if (td_cmp om_lt (ed_var 4) (ed_int) (by rfl)) (sds_one (sd_set 7 nd (ed_tup (ad_cons (ed_str) (ad_cons (ed_var 5) (ad_cons (ed_tup (ad_nil)) (ad_nil))))))) (sds_one (sd_set 7 nd (ed_if (td_cmp om_lt (ed_var 4) (ed_int) (by rfl)) (ed_tup (ad_cons (ed_str) (ad_cons (ed_int) (ad_cons (ed_var 5) (ad_cons (ed_tup (ad_nil)) (ad_cons (ed_var 6) (ad_cons (ed_tup (ad_nil)) (ad_nil)))))))) (ed_if (td_cmp (om_eq hu) (ed_var 4) (ed_int) (by rfl)) (ed_tup (ad_cons (ed_str) (ad_cons (ed_tup (ad_nil)) (ad_nil)))) (ed_tup (ad_cons (ed_str) (ad_cons (ed_str) (ad_nil))))))))) (sds_one (sd_expr (ed_meth .l PySem.F.plainAttrs_list PySem.F.slot_list_append PySem.F.type_list_append om_append (ed_var 2) (ad_cons (ed_tup (ad_cons (ed_tup (ad_nil)) (ad_cons (ed_tup (ad_cons (ed_tup (ad_cons (ed_str) (ad_cons (ed_int) (ad_nil)))) (ad_nil))) (ad_cons (ed_var 7) (ad_nil))))) (ad_nil))))))))) (sds_one (sd_ret (ed_callT om_tuple (by rfl) B.h_tuple (by decide +kernel) (ad_cons (ed_var 2) (ad_nil)))))))
theorem sc__law_ways : FnScope ["block", "end"] ["block"] (defScope s__law_ways) := ⟨rfl, rfl, rfl, by decide +kernel, rfl, by decide +kernel, by decide +kernel⟩
theorem ok__law_ways (B : Bn mg) (T : Told K mg "_law_ways" s__law_ways ["block"])  : DOk P w K mg base 1 "_law_ways" 1 mLawWays :=
  DOk.body (N := ["block", "end"]) T sc__law_ways fun f cdv A outer s H E hr =>
    have hu := hr.units
    have nd := sc__law_ways.nd
    sds_cons (sd_set 1 nd (ed_ix hu (ed_var 0) (ed_int) (fun _ _ => rfl))) (sds_cons (sd_if (td_cmp (om_eq hu) (ed_ix hu (ed_var 1) (ed_int) (fun _ _ => rfl)) (ed_str) (by rfl)) (sds_one (sd_ret (ed_lst (ad_cons (ed_ix hu (ed_var 1) (ed_int) (fun _ _ => rfl)) (ad_nil))))) (sds_nil)) (sds_one (sd_ret (ed_if (td_cmp (om_eq hu) (ed_ix hu (ed_var 1) (ed_int) (fun _ _ => rfl)) (ed_str) (by rfl)) (ed_lst (ad_cons (ed_ix hu (ed_var 1) (ed_int) (fun _ _ => rfl)) (ad_cons (ed_ix hu (ed_var 1) (ed_int) (fun _ _ => rfl)) (ad_nil)))) (ed_lst (ad_nil))))))
theorem sc__law_met : FnScope ["blocks", "gone", "found", "turn", "label", "other"] ["blocks", "gone"] (defScope s__law_met) := ⟨rfl, rfl, rfl, by decide +kernel, rfl, by decide +kernel, by decide +kernel⟩
theorem ok__law_met (B : Bn mg) (T : Told K mg "_law_met" s__law_met ["blocks", "gone"]) (d__law_ways : DOk P w K mg base 1 "_law_ways" 1 mLawWays) : DOk P w K mg base 2 "_law_met" 2 mLawMet :=
  DOk.body (N := ["blocks", "gone", "found", "turn", "label", "other"]) T sc__law_met fun f cdv A outer s H E hr =>
    have hu := hr.units
    have nd := sc__law_met.nd
    sds_cons (sd_set 2 nd (ed_if (td_cmp (om_ne hu) (ed_var 1) (ed_int) (by rfl)) (ed_lst (ad_cons (ed_int) (ad_nil))) (ed_lst (ad_nil)))) (sds_cons (sd_for PassesOwn.never rfl (id_range1 (by rfl) B.h_range (ad_cons (ed_callB om_len (by rfl) B.h_len (by decide +kernel) (ad_cons (ed_var 0) (ad_nil))) (ad_nil))) (gd_name nd (i := 3)) (sds_one (sd_for PassesOwn.never rfl (id_seq (ed_callT (om_list rfl) (by rfl) B.h_list (by decide +kernel) (ad_cons (ed_var 2) (ad_nil)))) (gd_name nd (i := 4)) (sds_one (sd_for PassesOwn.never rfl (id_seq (ed_callP (d__law_ways.mono (by decide)) hr (by rfl) (ad_cons (ed_ix hu (ed_var 0) (ed_var 4) (fun _ _ => rfl)) (ad_nil)))) (gd_name nd (i := 5)) (sds_one (sd_if (WD.td (wd_and (td_cmp (om_ne hu) (ed_var 5) (ed_var 1) (by rfl)) (wd_and1 (td_cmp (om_notin hu) (ed_var 5) (ed_var 2) (by rfl))))) (sds_one (sd_expr (ed_meth .l PySem.F.plainAttrs_list PySem.F.slot_list_append PySem.F.type_list_append om_append (ed_var 2) (ad_cons (ed_var 5) (ad_nil))))) (sds_nil)))))))) (sds_one (sd_ret (ed_callB (om_sorted rfl) (by rfl) B.h_sorted (by decide +kernel) (ad_cons (ed_var 2) (ad_nil))))))
theorem sc__law_same : FnScope ["told", "due", "k"] ["told", "due"] (defScope s__law_same) := ⟨rfl, rfl, rfl, by decide +kernel, rfl, by decide +kernel, by decide +kernel⟩
theorem st__law_same {k : Nat} {rec : FM} (B : Bn mg) (T : Told K mg "_law_same" s__law_same ["told", "due"]) (dRec : DOk P w K mg base k "_law_same" 2 rec) : DOk P w K mg base (k + 1) "_law_same" 2 (mLawSame rec) :=
  DOk.body (N := ["told", "due", "k"]) T sc__law_same fun f cdv A outer s H E hr =>
    have hu := hr.units
    have nd := sc__law_same.nd
    sds_cons (sd_if (td_cmp om_is (ed_var 1) (ed_non) (by rfl)) (sds_one (sd_ret (ed_cmp om_is (ed_var 0) (ed_non) (by rfl)))) (sds_nil)) (sds_cons (sd_if (td_cmp om_isB (ed_var 1) (ed_bl) (by rfl)) (sds_one (sd_ret (ed_cmp om_isB (ed_var 0) (ed_bl) (by rfl)))) (sds_nil)) (sds_cons (sd_if (td_cmp om_isB (ed_var 1) (ed_bl) (by rfl)) (sds_one (sd_ret (ed_cmp om_isB (ed_var 0) (ed_bl) (by rfl)))) (sds_nil)) (sds_cons (sd_if (td_tru (ed_isi (T := "str") (by decide) (ed_var 1) (by rfl) B.h_isinstance (by rfl) B.h_str (by decide +kernel))) (sds_one (sd_ret (ed_and (ed_isi (T := "str") (by decide) (ed_var 0) (by rfl) B.h_isinstance (by rfl) B.h_str (by decide +kernel)) (ed_one (ed_cmp (om_eq hu) (ed_callB om_repr (by rfl) B.h_repr (by decide +kernel) (ad_cons (ed_var 0) (ad_nil))) (ed_callB om_repr (by rfl) B.h_repr (by decide +kernel) (ad_cons (ed_var 1) (ad_nil))) (by rfl)))))) (sds_nil)) (sds_cons (sd_if (td_tru (ed_isi (T := "int") (by decide) (ed_var 1) (by rfl) B.h_isinstance (by rfl) B.h_int (by decide +kernel))) (sds_one (sd_ret (ed_and (ed_isi (T := "int") (by decide) (ed_var 0) (by rfl) B.h_isinstance (by rfl) B.h_int (by decide +kernel)) (ed_and (ed_not (ed_isi (T := "bool") (by decide) (ed_var 0) (by rfl) B.h_isinstance (by rfl) B.h_bool (by decide +kernel))) (ed_one (ed_cmp (om_eq hu) (ed_callB om_repr (by rfl) B.h_repr (by decide +kernel) (ad_cons (ed_var 0) (ad_nil))) (ed_callB om_repr (by rfl) B.h_repr (by decide +kernel) (ad_cons (ed_var 1) (ad_nil))) (by rfl))))))) (sds_nil)) (sds_cons (sd_if (WD.td (wd_or (WD.td (wd_and (td_tru (ed_isi (T := "tuple") (by decide) (ed_var 1) (by rfl) B.h_isinstance (by rfl) B.h_tuple (by decide +kernel))) (wd_and1 (td_not (td_tru (ed_isi (T := "tuple") (by decide) (ed_var 0) (by rfl) B.h_isinstance (by rfl) B.h_tuple (by decide +kernel))))))) (wd_or1 (WD.td (wd_and (td_tru (ed_isi (T := "list") (by decide) (ed_var 1) (by rfl) B.h_isinstance (by rfl) B.h_list (by decide +kernel))) (wd_and1 (td_not (td_tru (ed_isi (T := "list") (by decide) (ed_var 0) (by rfl) B.h_isinstance (by rfl) B.h_list (by decide +kernel)))))))))) (sds_one (sd_ret (ed_bl))) (sds_nil)) (sds_cons (sd_if (td_cmp (om_ne hu) (ed_callB om_len (by rfl) B.h_len (by decide +kernel) (ad_cons (ed_var 0) (ad_nil))) (ed_callB om_len (by rfl) B.h_len (by decide +kernel) (ad_cons (ed_var 1) (ad_nil))) (by rfl)) (sds_one (sd_ret (ed_bl))) (sds_nil)) (sds_cons (sd_for PassesOwn.never rfl (id_range1 (by rfl) B.h_range (ad_cons (ed_callB om_len (by rfl) B.h_len (by decide +kernel) (ad_cons (ed_var 1) (ad_nil))) (ad_nil))) (gd_name nd (i := 2)) (sds_one (sd_if (td_not (td_tru (ed_call dRec hr (by rfl) (ad_cons (ed_ix hu (ed_var 0) (ed_var 2) (fun _ _ => rfl)) (ad_cons (ed_ix hu (ed_var 1) (ed_var 2) (fun _ _ => rfl)) (ad_nil)))))) (sds_one (sd_ret (ed_bl))) (sds_nil)))) (sds_one (sd_ret (ed_bl))))))))))
theorem ok__law_same (B : Bn mg) (T : Told K mg "_law_same" s__law_same ["told", "due"]) : ∀ n, DOk P w K mg base (n + 0) "_law_same" 2 (mLawSameN n)
  | 0 => DOk.zero T
  | n + 1 => by
    have h := st__law_same B T (ok__law_same B T n)
    rw [show n + 1 + 0 = n + 0 + 1 from by omega]
    exact h
theorem sc_ways_of : FnScope ["block", "end"] ["block"] (defScope s_ways_of) := ⟨rfl, rfl, rfl, by decide +kernel, rfl, by decide +kernel, by decide +kernel⟩
theorem ok_ways_of (B : Bn mg) (T : Told K mg "ways_of" s_ways_of ["block"])  : DOk P w K mg base 1 "ways_of" 1 mWaysOf :=
  DOk.body (N := ["block", "end"]) T sc_ways_of fun f cdv A outer s H E hr =>
    have hu := hr.units
    have nd := sc_ways_of.nd
    sds_cons (sd_set 1 nd (ed_ix hu (ed_var 0) (ed_int) (fun _ _ => rfl))) (sds_cons (sd_if (td_cmp (om_eq hu) (ed_ix hu (ed_var 1) (ed_int) (fun _ _ => rfl)) (ed_str) (by rfl)) (sds_one (sd_ret (ed_lst (ad_cons (ed_ix hu (ed_var 1) (ed_int) (fun _ _ => rfl)) (ad_nil))))) (sds_nil)) (sds_one (sd_ret (ed_if (td_cmp (om_eq hu) (ed_ix hu (ed_var 1) (ed_int) (fun _ _ => rfl)) (ed_str) (by rfl)) (ed_lst (ad_cons (ed_ix hu (ed_var 1) (ed_int) (fun _ _ => rfl)) (ad_cons (ed_ix hu (ed_var 1) (ed_int) (fun _ _ => rfl)) (ad_nil)))) (ed_lst (ad_nil))))))
theorem sc_reach : FnScope ["blocks", "found", "todo", "label"] ["blocks"] (defScope s_reach) := ⟨rfl, rfl, rfl, by decide +kernel, rfl, by decide +kernel, by decide +kernel⟩
theorem ok_reach (B : Bn mg) (T : Told K mg "reach" s_reach ["blocks"]) (d_ways_of : DOk P w K mg base 1 "ways_of" 1 mWaysOf) : DOk P w K mg base 2 "reach" 1 mReach :=
  DOk.body (N := ["blocks", "found", "todo", "label"]) T sc_reach fun f cdv A outer s H E hr =>
    have hu := hr.units
    have nd := sc_reach.nd
    sds_cons (sd_par 1 2 rfl nd (ad_cons (ed_dict1 (ed_int) (ed_bl)) (ad_cons (ed_lst (ad_cons (ed_int) (ad_nil))) (ad_nil)))) (sds_cons (sd_while 1000 PassesOwn.never (td_tru (ed_var 2)) (sds_one (sd_for PassesOwn.never rfl (id_seq (ed_callP (d_ways_of.mono (by decide)) hr (by rfl) (ad_cons (ed_ix hu (ed_var 0) (ed_meth0 .l PySem.F.plainAttrs_list PySem.F.slot_list_pop PySem.F.type_list_pop om_pop (ed_var 2)) (fun _ _ => rfl)) (ad_nil)))) (gd_name nd (i := 3)) (sds_one (sd_if (td_cmp (om_notin hu) (ed_var 3) (ed_var 1) (by rfl)) (sds_cons (sd_asg (ed_bl) (gd_sub hu (ed_var 1) (ed_var 3))) (sds_one (sd_expr (ed_meth .l PySem.F.plainAttrs_list PySem.F.slot_list_append PySem.F.type_list_append om_append (ed_var 2) (ad_cons (ed_var 3) (ad_nil)))))) (sds_nil)))))) (sds_one (sd_ret (ed_callT om_tuple (by rfl) B.h_tuple (by decide +kernel) (ad_cons (ed_callB (om_sorted rfl) (by rfl) B.h_sorted (by decide +kernel) (ad_cons (ed_var 1) (ad_nil))) (ad_nil))))))
theorem sc_arrows : FnScope ["blocks", "found", "label", "other"] ["blocks"] (defScope s_arrows) := ⟨rfl, rfl, rfl, by decide +kernel, rfl, by decide +kernel, by decide +kernel⟩
theorem ok_arrows (B : Bn mg) (T : Told K mg "arrows" s_arrows ["blocks"]) (d_reach : DOk P w K mg base 2 "reach" 1 mReach) (d_ways_of : DOk P w K mg base 1 "ways_of" 1 mWaysOf) : DOk P w K mg base 3 "arrows" 1 mArrows :=
  DOk.body (N := ["blocks", "found", "label", "other"]) T sc_arrows fun f cdv A outer s H E hr =>
    have hu := hr.units
    have nd := sc_arrows.nd
    sds_cons (sd_set 1 nd (ed_lst (ad_nil))) (sds_cons (sd_for PassesOwn.never rfl (id_seq (ed_callP (d_reach.mono (by decide)) hr (by rfl) (ad_cons (ed_var 0) (ad_nil)))) (gd_name nd (i := 2)) (sds_one (sd_for PassesOwn.never rfl (id_seq (ed_callP (d_ways_of.mono (by decide)) hr (by rfl) (ad_cons (ed_ix hu (ed_var 0) (ed_var 2) (fun _ _ => rfl)) (ad_nil)))) (gd_name nd (i := 3)) (sds_one (sd_if (td_cmp (om_notin hu) (ed_tup (ad_cons (ed_var 2) (ad_cons (ed_var 3) (ad_nil)))) (ed_var 1) (by rfl)) (sds_one (sd_expr (ed_meth .l PySem.F.plainAttrs_list PySem.F.slot_list_append PySem.F.type_list_append om_append (ed_var 1) (ad_cons (ed_tup (ad_cons (ed_var 2) (ad_cons (ed_var 3) (ad_nil)))) (ad_nil))))) (sds_nil)))))) (sds_one (sd_ret (ed_var 1))))
theorem sc_met_without : FnScope ["blocks", "gone", "found", "todo", "here", "label"] ["blocks", "gone"] (defScope s_met_without) := ⟨rfl, rfl, rfl, by decide +kernel, rfl, by decide +kernel, by decide +kernel⟩
theorem ok_met_without (B : Bn mg) (T : Told K mg "met_without" s_met_without ["blocks", "gone"]) (d_ways_of : DOk P w K mg base 1 "ways_of" 1 mWaysOf) : DOk P w K mg base 2 "met_without" 2 mMetWithout :=
  DOk.body (N := ["blocks", "gone", "found", "todo", "here", "label"]) T sc_met_without fun f cdv A outer s H E hr =>
    have hu := hr.units
    have nd := sc_met_without.nd
    sds_cons (sd_par 2 3 rfl nd (ad_cons (ed_dict0) (ad_cons (ed_if (td_cmp (om_ne hu) (ed_var 1) (ed_int) (by rfl)) (ed_lst (ad_cons (ed_int) (ad_nil))) (ed_lst (ad_nil))) (ad_nil)))) (sds_cons (sd_while 1000 PassesOwn.never (td_tru (ed_var 3)) (sds_cons (sd_set 4 nd (ed_meth0 .l PySem.F.plainAttrs_list PySem.F.slot_list_pop PySem.F.type_list_pop om_pop (ed_var 3))) (sds_one (sd_if (td_cmp (om_notin hu) (ed_var 4) (ed_var 2) (by rfl)) (sds_cons (sd_asg (ed_bl) (gd_sub hu (ed_var 2) (ed_var 4))) (sds_one (sd_expr (ed_meth .l PySem.F.plainAttrs_list PySem.F.slot_list_extend PySem.F.type_list_extend om_extend (ed_var 3) (ad_cons (LD.ed (ld_lc [("label", 5)] rfl nd (blkOk_by (N := ["blocks", "gone", "found", "todo", "here", "label"]) (sc := (defScope s_met_without)) (own := [("label", 5)]) (by decide +kernel)) (id_seq (ed_callP (d_ways_of.mono (by decide)) hr (by rfl) (ad_cons (ed_ix hu (ed_var 0) (ed_var 4) (fun _ _ => rfl)) (ad_nil)))) (bgd_name 5 nd) (btds_one (fun _ _ _ _ _ => td_cmp (om_ne hu) (ed_var 5) (ed_var 1) (by rfl))) (fun _ _ _ _ _ => ed_var 5))) (ad_nil)))))) (sds_nil))))) (sds_one (sd_ret (ed_callT om_tuple (by rfl) B.h_tuple (by decide +kernel) (ad_cons (ed_callB (om_sorted rfl) (by rfl) B.h_sorted (by decide +kernel) (ad_cons (ed_var 2) (ad_nil))) (ad_nil))))))
theorem sc_over : FnScope ["blocks", "met", "found", "gone", "left", "label"] ["blocks"] (defScope s_over) := ⟨rfl, rfl, rfl, by decide +kernel, rfl, by decide +kernel, by decide +kernel⟩
theorem ok_over (B : Bn mg) (T : Told K mg "over" s_over ["blocks"]) (d_reach : DOk P w K mg base 2 "reach" 1 mReach) (d_met_without : DOk P w K mg base 2 "met_without" 2 mMetWithout) : DOk P w K mg base 3 "over" 1 mOver :=
  DOk.body (N := ["blocks", "met", "found", "gone", "left", "label"]) T sc_over fun f cdv A outer s H E hr =>
    have hu := hr.units
    have nd := sc_over.nd
    sds_cons (sd_set 1 nd (ed_callP (d_reach.mono (by decide)) hr (by rfl) (ad_cons (ed_var 0) (ad_nil)))) (sds_cons (sd_set 2 nd (ed_dc [("label", 5)] rfl nd (blkOk_by (N := ["blocks", "met", "found", "gone", "left", "label"]) (sc := (defScope s_over)) (own := [("label", 5)]) (by decide +kernel)) (id_seq (ed_var 1)) (bgd_name 5 nd) (btds_nil) (fun _ _ _ _ _ => ed_var 5) (fun _ _ _ _ _ => ed_lst (ad_nil)))) (sds_cons (sd_for PassesOwn.never rfl (id_seq (ed_var 1)) (gd_name nd (i := 3)) (sds_cons (sd_set 4 nd (ed_callP (d_met_without.mono (by decide)) hr (by rfl) (ad_cons (ed_var 0) (ad_cons (ed_var 3) (ad_nil))))) (sds_one (sd_for PassesOwn.never rfl (id_seq (ed_var 1)) (gd_name nd (i := 5)) (sds_one (sd_if (WD.td (wd_and (td_cmp (om_ne hu) (ed_var 5) (ed_var 3) (by rfl)) (wd_and1 (td_cmp (om_notin hu) (ed_var 5) (ed_var 4) (by rfl))))) (sds_one (sd_expr (ed_meth .l PySem.F.plainAttrs_list PySem.F.slot_list_append PySem.F.type_list_append om_append (ed_ix hu (ed_var 2) (ed_var 5) (fun _ _ => rfl)) (ad_cons (ed_var 3) (ad_nil))))) (sds_nil))))))) (sds_one (sd_ret (ed_dc [("label", 5)] rfl nd (blkOk_by (N := ["blocks", "met", "found", "gone", "left", "label"]) (sc := (defScope s_over)) (own := [("label", 5)]) (by decide +kernel)) (id_seq (ed_var 1)) (bgd_name 5 nd) (btds_nil) (fun _ _ _ _ _ => ed_var 5) (fun _ _ _ _ _ => ed_callT om_tuple (by rfl) B.h_tuple (by decide +kernel) (ad_cons (ed_ix hu (ed_var 2) (ed_var 5) (fun _ _ => rfl)) (ad_nil))))))))
theorem sc_within : FnScope ["blocks", "head", "ends", "found", "todo", "rows", "here", "label", "other"] ["blocks", "head", "ends"] (defScope s_within) := ⟨rfl, rfl, rfl, by decide +kernel, rfl, by decide +kernel, by decide +kernel⟩
theorem ok_within (B : Bn mg) (T : Told K mg "within" s_within ["blocks", "head", "ends"]) (d_arrows : DOk P w K mg base 3 "arrows" 1 mArrows) : DOk P w K mg base 4 "within" 3 mWithin :=
  DOk.body (N := ["blocks", "head", "ends", "found", "todo", "rows", "here", "label", "other"]) T sc_within fun f cdv A outer s H E hr =>
    have hu := hr.units
    have nd := sc_within.nd
    sds_cons (sd_par 3 4 rfl nd (ad_cons (ed_dict1 (ed_var 1) (ed_bl)) (ad_cons (ed_callT (om_list rfl) (by rfl) B.h_list (by decide +kernel) (ad_cons (ed_var 2) (ad_nil))) (ad_nil)))) (sds_cons (sd_set 5 nd (ed_callP (d_arrows.mono (by decide)) hr (by rfl) (ad_cons (ed_var 0) (ad_nil)))) (sds_cons (sd_while 1000 PassesOwn.never (td_tru (ed_var 4)) (sds_cons (sd_set 6 nd (ed_meth0 .l PySem.F.plainAttrs_list PySem.F.slot_list_pop PySem.F.type_list_pop om_pop (ed_var 4))) (sds_one (sd_if (td_cmp (om_notin hu) (ed_var 6) (ed_var 3) (by rfl)) (sds_cons (sd_asg (ed_bl) (gd_sub hu (ed_var 3) (ed_var 6))) (sds_one (sd_expr (ed_meth .l PySem.F.plainAttrs_list PySem.F.slot_list_extend PySem.F.type_list_extend om_extend (ed_var 4) (ad_cons (LD.ed (ld_lc [("label", 7), ("other", 8)] rfl nd (blkOk_by (N := ["blocks", "head", "ends", "found", "todo", "rows", "here", "label", "other"]) (sc := (defScope s_within)) (own := [("label", 7), ("other", 8)]) (by decide +kernel)) (id_seq (ed_var 5)) (bgd_tup rfl (bgds_cons (bgd_name 7 nd) (bgds_cons (bgd_name 8 nd) (bgds_nil)))) (btds_one (fun _ _ _ _ _ => td_cmp (om_eq hu) (ed_var 8) (ed_var 6) (by rfl))) (fun _ _ _ _ _ => ed_var 7))) (ad_nil)))))) (sds_nil))))) (sds_one (sd_ret (ed_callT om_tuple (by rfl) B.h_tuple (by decide +kernel) (ad_cons (ed_callB (om_sorted rfl) (by rfl) B.h_sorted (by decide +kernel) (ad_cons (ed_var 3) (ad_nil))) (ad_nil)))))))
theorem sc_loops : FnScope ["blocks", "told", "backs", "label", "head"] ["blocks"] (defScope s_loops) := ⟨rfl, rfl, rfl, by decide +kernel, rfl, by decide +kernel, by decide +kernel⟩
theorem ok_loops (B : Bn mg) (T : Told K mg "loops" s_loops ["blocks"]) (d_over : DOk P w K mg base 3 "over" 1 mOver) (d_arrows : DOk P w K mg base 3 "arrows" 1 mArrows) (d_within : DOk P w K mg base 4 "within" 3 mWithin) : DOk P w K mg base 5 "loops" 1 mLoops :=
  DOk.body (N := ["blocks", "told", "backs", "label", "head"]) T sc_loops fun f cdv A outer s H E hr =>
    have hu := hr.units
    have nd := sc_loops.nd
    sds_cons (sd_set 1 nd (ed_callP (d_over.mono (by decide)) hr (by rfl) (ad_cons (ed_var 0) (ad_nil)))) (sds_cons (sd_set 2 nd (ed_dict0)) (sds_cons (sd_for PassesOwn.never rfl (id_seq (ed_callP (d_arrows.mono (by decide)) hr (by rfl) (ad_cons (ed_var 0) (ad_nil)))) (gd_tup rfl (gds_cons (gd_name nd (i := 3)) (gds_cons (gd_name nd (i := 4)) (gds_nil)))) (sds_one (sd_if (WD.td (wd_or (td_cmp (om_eq hu) (ed_var 4) (ed_var 3) (by rfl)) (wd_or1 (td_cmp (om_in hu) (ed_var 4) (ed_ix hu (ed_var 1) (ed_var 3) (fun _ _ => rfl)) (by rfl))))) (sds_one (sd_expr (ed_meth .l PySem.F.plainAttrs_list PySem.F.slot_list_append PySem.F.type_list_append om_append (ed_setd (ed_var 2) (ed_var 4) (ed_lst (ad_nil)) ⟨rfl, rfl, rfl, rfl⟩) (ad_cons (ed_var 3) (ad_nil))))) (sds_nil)))) (sds_one (sd_ret (ed_callT om_tuple (by rfl) B.h_tuple (by decide +kernel) (ad_cons (LD.ed (ld_lc [("head", 4)] rfl nd (blkOk_by (N := ["blocks", "told", "backs", "label", "head"]) (sc := (defScope s_loops)) (own := [("head", 4)]) (by decide +kernel)) (id_seq (ed_callB (om_sorted rfl) (by rfl) B.h_sorted (by decide +kernel) (ad_cons (ed_var 2) (ad_nil)))) (bgd_name 4 nd) (btds_nil) (fun _ _ _ _ _ => ed_tup (ad_cons (ed_var 4) (ad_cons (ed_call (d_within.mono (by decide)) hr (by rfl) (ad_cons (ed_var 0) (ad_cons (ed_var 4) (ad_cons (ed_ix hu (ed_var 2) (ed_var 4) (fun _ _ => rfl)) (ad_nil))))) (ad_nil)))))) (ad_nil)))))))
theorem sc__law_loops : FnScope ["blocks", "above", "met", "found", "head", "ends", "rows", "turn", "label", "other"] ["blocks", "above"] (defScope s__law_loops) := ⟨rfl, rfl, rfl, by decide +kernel, rfl, by decide +kernel, by decide +kernel⟩
theorem ok__law_loops (B : Bn mg) (T : Told K mg "_law_loops" s__law_loops ["blocks", "above"]) (d__law_met : DOk P w K mg base 2 "_law_met" 2 mLawMet) (d__law_ways : DOk P w K mg base 1 "_law_ways" 1 mLawWays) : DOk P w K mg base 3 "_law_loops" 2 mLawLoops :=
  DOk.body (N := ["blocks", "above", "met", "found", "head", "ends", "rows", "turn", "label", "other"]) T sc__law_loops fun f cdv A outer s H E hr =>
    have hu := hr.units
    have nd := sc__law_loops.nd
    sds_cons (sd_set 2 nd (ed_callP (d__law_met.mono (by decide)) hr (by rfl) (ad_cons (ed_var 0) (ad_cons (ed_non) (ad_nil))))) (sds_cons (sd_set 3 nd (ed_lst (ad_nil))) (sds_cons (sd_for PassesOwn.never rfl (id_seq (ed_var 2)) (gd_name nd (i := 4)) (sds_cons (sd_setLc 5 [("label", 8)] rfl nd (blkOk_by (N := ["blocks", "above", "met", "found", "head", "ends", "rows", "turn", "label", "other"]) (sc := (defScope s__law_loops)) (own := [("label", 8)]) (by decide +kernel)) (id_seq (ed_var 2)) (bgd_name 8 nd) (btds_one (fun _ _ _ _ _ => WD.td (wd_and (td_cmp (om_in hu) (ed_var 4) (ed_callP (d__law_ways.mono (by decide)) hr (by rfl) (ad_cons (ed_ix hu (ed_var 0) (ed_var 8) (fun _ _ => rfl)) (ad_nil))) (by rfl)) (wd_and1 (WD.td (wd_or (td_cmp (om_eq hu) (ed_var 4) (ed_var 8) (by rfl)) (wd_or1 (td_cmp (om_in hu) (ed_var 4) (ed_ix hu (ed_var 1) (ed_var 8) (fun _ _ => rfl)) (by rfl))))))))) (fun _ _ _ _ _ => ed_var 8) (sw_true rfl rfl (by rfl) (by decide +kernel))) (sds_one (sd_if (td_cmp (om_ne hu) (ed_var 5) (ed_lst (ad_nil)) (by rfl)) (sds_cons (sd_set 6 nd (ed_op om_add (ed_lst (ad_cons (ed_var 4) (ad_nil))) (LD.ed (ld_lc [("label", 8)] rfl nd (blkOk_by (N := ["blocks", "above", "met", "found", "head", "ends", "rows", "turn", "label", "other"]) (sc := (defScope s__law_loops)) (own := [("label", 8)]) (by decide +kernel)) (id_seq (ed_var 5)) (bgd_name 8 nd) (btds_one (fun _ _ _ _ _ => td_cmp (om_ne hu) (ed_var 8) (ed_var 4) (by rfl))) (fun _ _ _ _ _ => ed_var 8))))) (sds_cons (sd_for PassesOwn.never rfl (id_range1 (by rfl) B.h_range (ad_cons (ed_callB om_len (by rfl) B.h_len (by decide +kernel) (ad_cons (ed_var 0) (ad_nil))) (ad_nil))) (gd_name nd (i := 7)) (sds_one (sd_for PassesOwn.never rfl (id_seq (ed_var 2)) (gd_name nd (i := 8)) (sds_one (sd_if (WD.td (wd_and (td_cmp (om_notin hu) (ed_var 8) (ed_var 6) (by rfl)) (wd_and1 (td_cmp (om_ne hu) (LD.ed (ld_lc [("other", 9)] rfl nd (blkOk_by (N := ["blocks", "above", "met", "found", "head", "ends", "rows", "turn", "label", "other"]) (sc := (defScope s__law_loops)) (own := [("other", 9)]) (by decide +kernel)) (id_seq (ed_callP (d__law_ways.mono (by decide)) hr (by rfl) (ad_cons (ed_ix hu (ed_var 0) (ed_var 8) (fun _ _ => rfl)) (ad_nil)))) (bgd_name 9 nd) (btds_one (fun _ _ _ _ _ => WD.td (wd_and (td_cmp (om_in hu) (ed_var 9) (ed_var 6) (by rfl)) (wd_and1 (td_cmp (om_ne hu) (ed_var 9) (ed_var 4) (by rfl)))))) (fun _ _ _ _ _ => ed_var 9))) (ed_lst (ad_nil)) (by rfl))))) (sds_one (sd_expr (ed_meth .l PySem.F.plainAttrs_list PySem.F.slot_list_append PySem.F.type_list_append om_append (ed_var 6) (ad_cons (ed_var 8) (ad_nil))))) (sds_nil)))))) (sds_one (sd_expr (ed_meth .l PySem.F.plainAttrs_list PySem.F.slot_list_append PySem.F.type_list_append om_append (ed_var 3) (ad_cons (ed_tup (ad_cons (ed_var 4) (ad_cons (ed_callT om_tuple (by rfl) B.h_tuple (by decide +kernel) (ad_cons (ed_callB (om_sorted rfl) (by rfl) B.h_sorted (by decide +kernel) (ad_cons (ed_var 6) (ad_nil))) (ad_nil))) (ad_nil)))) (ad_nil))))))) (sds_nil))))) (sds_one (sd_ret (ed_callT om_tuple (by rfl) B.h_tuple (by decide +kernel) (ad_cons (ed_var 3) (ad_nil)))))))
theorem sc_dominators : FnScope ["blocks", "told", "found", "label", "nearest", "one"] ["blocks"] (defScope s_dominators) := ⟨rfl, rfl, rfl, by decide +kernel, rfl, by decide +kernel, by decide +kernel⟩
theorem ok_dominators (B : Bn mg) (T : Told K mg "dominators" s_dominators ["blocks"]) (d_over : DOk P w K mg base 3 "over" 1 mOver) : DOk P w K mg base 4 "dominators" 1 mDominators :=
  DOk.body (N := ["blocks", "told", "found", "label", "nearest", "one"]) T sc_dominators fun f cdv A outer s H E hr =>
    have hu := hr.units
    have nd := sc_dominators.nd
    sds_cons (sd_set 1 nd (ed_callP (d_over.mono (by decide)) hr (by rfl) (ad_cons (ed_var 0) (ad_nil)))) (sds_cons (sd_set 2 nd (ed_dict0)) (sds_cons (sd_lock 1 (sd_for PassesOwn.never rfl (id_seq (ed_var 1)) (gd_name nd (i := 3)) (sds_cons (sd_setLc 4 [("one", 5)] rfl nd (blkOk_by (N := ["blocks", "told", "found", "label", "nearest", "one"]) (sc := (defScope s_dominators)) (own := [("one", 5)]) (by decide +kernel)) (id_seq (ed_ix hu (ed_var 1) (ed_var 3) (fun _ _ => rfl))) (bgd_name 5 nd) (btds_one (fun _ _ _ _ _ => td_cmp (om_eq hu) (ed_callB om_len (by rfl) B.h_len (by decide +kernel) (ad_cons (ed_ix hu (ed_var 1) (ed_var 5) (fun _ _ => rfl)) (ad_nil))) (ed_op om_sub (ed_callB om_len (by rfl) B.h_len (by decide +kernel) (ad_cons (ed_ix hu (ed_var 1) (ed_var 3) (fun _ _ => rfl)) (ad_nil))) (ed_int)) (by rfl))) (fun _ _ _ _ _ => ed_var 5) (sw_true rfl rfl (by rfl) (by decide +kernel))) (sds_one (sd_asg (ed_if (td_tru (ed_var 4)) (ed_ix hu (ed_var 4) (ed_int) (fun _ _ => rfl)) (ed_non)) (gd_sub hu (ed_var 2) (ed_var 3))))))) (sds_one (sd_ret (ed_var 2)))))
theorem sc__law_pick : FnScope ["box", "row"] ["box", "row"] (defScope s__law_pick) := ⟨rfl, rfl, rfl, by decide +kernel, rfl, by decide +kernel, by decide +kernel⟩
theorem ok__law_pick (B : Bn mg) (T : Told K mg "_law_pick" s__law_pick ["box", "row"]) (d__law_draw : DOk P w K mg base 1 "_law_draw" 2 mLawDraw) : DOk P w K mg base 2 "_law_pick" 2 mLawPick :=
  DOk.body (N := ["box", "row"]) T sc__law_pick fun f cdv A outer s H E hr =>
    have hu := hr.units
    have nd := sc__law_pick.nd
    sds_one (sd_ret (ed_ix hu (ed_var 1) (ed_op om_mod (ed_callT om_int (by rfl) B.h_int (by decide +kernel) (ad_cons (ed_call (d__law_draw.mono (by decide)) hr (by rfl) (ad_cons (ed_var 0) (ad_cons (ed_int) (ad_nil)))) (ad_nil))) (ed_callB om_len (by rfl) B.h_len (by decide +kernel) (ad_cons (ed_var 1) (ad_nil)))) (fun _ _ => rfl)))
theorem sc_calls_of : FnScope ["function", "found", "block", "step"] ["function"] (defScope s_calls_of) := ⟨rfl, rfl, rfl, by decide +kernel, rfl, by decide +kernel, by decide +kernel⟩
theorem ok_calls_of (B : Bn mg) (T : Told K mg "calls_of" s_calls_of ["function"])  : DOk P w K mg base 1 "calls_of" 1 mCallsOf :=
  DOk.body (N := ["function", "found", "block", "step"]) T sc_calls_of fun f cdv A outer s H E hr =>
    have hu := hr.units
    have nd := sc_calls_of.nd
    sds_cons (sd_set 1 nd (ed_dict0)) (sds_cons (sd_for PassesOwn.never rfl (id_seq (ed_ix hu (ed_var 0) (ed_int) (fun _ _ => rfl))) (gd_name nd (i := 2)) (sds_one (sd_for PassesOwn.never rfl (id_seq (ed_ix hu (ed_var 2) (ed_int) (fun _ _ => rfl))) (gd_name nd (i := 3)) (sds_one (sd_if (td_cmp (om_eq hu) (ed_ix hu (ed_var 3) (ed_int) (fun _ _ => rfl)) (ed_str) (by rfl)) (sds_one (sd_asg (ed_bl) (gd_sub hu (ed_var 1) (ed_ix hu (ed_var 3) (ed_int) (fun _ _ => rfl))))) (sds_nil)))))) (sds_one (sd_ret (ed_callT om_tuple (by rfl) B.h_tuple (by decide +kernel) (ad_cons (ed_callB (om_sorted rfl) (by rfl) B.h_sorted (by decide +kernel) (ad_cons (ed_var 1) (ad_nil))) (ad_nil))))))
theorem sc_callers : FnScope ["code", "found", "function", "name"] ["code"] (defScope s_callers) := ⟨rfl, rfl, rfl, by decide +kernel, rfl, by decide +kernel, by decide +kernel⟩
theorem ok_callers (B : Bn mg) (T : Told K mg "callers" s_callers ["code"]) (d_calls_of : DOk P w K mg base 1 "calls_of" 1 mCallsOf) : DOk P w K mg base 2 "callers" 1 mCallers :=
  DOk.body (N := ["code", "found", "function", "name"]) T sc_callers fun f cdv A outer s H E hr =>
    have hu := hr.units
    have nd := sc_callers.nd
    sds_cons (sd_set 1 nd (ed_dc [("function", 2)] rfl nd (blkOk_by (N := ["code", "found", "function", "name"]) (sc := (defScope s_callers)) (own := [("function", 2)]) (by decide +kernel)) (id_seq (ed_ix hu (ed_var 0) (ed_int) (fun _ _ => rfl))) (bgd_name 2 nd) (btds_nil) (fun _ _ _ _ _ => ed_ix hu (ed_var 2) (ed_int) (fun _ _ => rfl)) (fun _ _ _ _ _ => ed_lst (ad_nil)))) (sds_cons (sd_for PassesOwn.never rfl (id_seq (ed_ix hu (ed_var 0) (ed_int) (fun _ _ => rfl))) (gd_name nd (i := 2)) (sds_one (sd_for PassesOwn.never rfl (id_seq (ed_callP (d_calls_of.mono (by decide)) hr (by rfl) (ad_cons (ed_var 2) (ad_nil)))) (gd_name nd (i := 3)) (sds_one (sd_expr (ed_meth .l PySem.F.plainAttrs_list PySem.F.slot_list_append PySem.F.type_list_append om_append (ed_ix hu (ed_var 1) (ed_var 3) (fun _ _ => rfl)) (ad_cons (ed_ix hu (ed_var 2) (ed_int) (fun _ _ => rfl)) (ad_nil)))))))) (sds_one (sd_ret (ed_lock 1 (ed_dc [("name", 3)] rfl nd (blkOk_by (N := ["code", "found", "function", "name"]) (sc := (defScope s_callers)) (own := [("name", 3)]) (by decide +kernel)) (id_seq (ed_var 1)) (bgd_name 3 nd) (btds_nil) (fun _ _ _ _ _ => ed_var 3) (fun _ _ _ _ _ => ed_callT om_tuple (by rfl) B.h_tuple (by decide +kernel) (ad_cons (ed_callB (om_sorted rfl) (by rfl) B.h_sorted (by decide +kernel) (ad_cons (ed_ix hu (ed_var 1) (ed_var 3) (fun _ _ => rfl)) (ad_nil))) (ad_nil))))))))
theorem sc_function_named : FnScope ["code", "name", "function"] ["code", "name"] (defScope s_function_named) := ⟨rfl, rfl, rfl, by decide +kernel, rfl, by decide +kernel, by decide +kernel⟩
theorem ok_function_named (B : Bn mg) (T : Told K mg "function_named" s_function_named ["code", "name"])  : DOk P w K mg base 1 "function_named" 2 mFunctionNamed :=
  DOk.body (N := ["code", "name", "function"]) T sc_function_named fun f cdv A outer s H E hr =>
    have hu := hr.units
    have nd := sc_function_named.nd
    sds_cons (sd_for PassesOwn.never rfl (id_seq (ed_ix hu (ed_var 0) (ed_int) (fun _ _ => rfl))) (gd_name nd (i := 2)) (sds_one (sd_if (td_cmp (om_eq hu) (ed_ix hu (ed_var 2) (ed_int) (fun _ _ => rfl)) (ed_var 1) (by rfl)) (sds_one (sd_ret (ed_var 2))) (sds_nil)))) (sds_one (sd_never))
theorem sc_calls_far : FnScope ["code", "name", "found", "todo", "here"] ["code", "name"] (defScope s_calls_far) := ⟨rfl, rfl, rfl, by decide +kernel, rfl, by decide +kernel, by decide +kernel⟩
theorem ok_calls_far (B : Bn mg) (T : Told K mg "calls_far" s_calls_far ["code", "name"]) (d_calls_of : DOk P w K mg base 1 "calls_of" 1 mCallsOf) (d_function_named : DOk P w K mg base 1 "function_named" 2 mFunctionNamed) : DOk P w K mg base 2 "calls_far" 2 mCallsFar :=
  DOk.body (N := ["code", "name", "found", "todo", "here"]) T sc_calls_far fun f cdv A outer s H E hr =>
    have hu := hr.units
    have nd := sc_calls_far.nd
    sds_cons (sd_par 2 3 rfl nd (ad_cons (ed_dict0) (ad_cons (ed_callT (om_list rfl) (by rfl) B.h_list (by decide +kernel) (ad_cons (ed_callP (d_calls_of.mono (by decide)) hr (by rfl) (ad_cons (ed_callP (d_function_named.mono (by decide)) hr (by rfl) (ad_cons (ed_var 0) (ad_cons (ed_var 1) (ad_nil)))) (ad_nil))) (ad_nil))) (ad_nil)))) (sds_cons (sd_while 1000 PassesOwn.never (td_tru (ed_var 3)) (sds_cons (sd_set 4 nd (ed_meth0 .l PySem.F.plainAttrs_list PySem.F.slot_list_pop PySem.F.type_list_pop om_pop (ed_var 3))) (sds_one (sd_if (td_cmp (om_notin hu) (ed_var 4) (ed_var 2) (by rfl)) (sds_cons (sd_asg (ed_bl) (gd_sub hu (ed_var 2) (ed_var 4))) (sds_one (sd_expr (ed_meth .l PySem.F.plainAttrs_list PySem.F.slot_list_extend PySem.F.type_list_extend om_extend (ed_var 3) (ad_cons (ed_callP (d_calls_of.mono (by decide)) hr (by rfl) (ad_cons (ed_callP (d_function_named.mono (by decide)) hr (by rfl) (ad_cons (ed_var 0) (ad_cons (ed_var 4) (ad_nil)))) (ad_nil))) (ad_nil)))))) (sds_nil))))) (sds_one (sd_ret (ed_callT om_tuple (by rfl) B.h_tuple (by decide +kernel) (ad_cons (ed_callB (om_sorted rfl) (by rfl) B.h_sorted (by decide +kernel) (ad_cons (ed_var 2) (ad_nil))) (ad_nil))))))
theorem sc__law_far : FnScope ["table", "name", "found", "turn", "other", "far"] ["table", "name"] (defScope s__law_far) := ⟨rfl, rfl, rfl, by decide +kernel, rfl, by decide +kernel, by decide +kernel⟩
theorem ok__law_far (B : Bn mg) (T : Told K mg "_law_far" s__law_far ["table", "name"])  : DOk P w K mg base 1 "_law_far" 2 mLawFar :=
  DOk.body (N := ["table", "name", "found", "turn", "other", "far"]) T sc__law_far fun f cdv A outer s H E hr =>
    have hu := hr.units
    have nd := sc__law_far.nd
    sds_cons (sd_set 2 nd (ed_callT (om_list rfl) (by rfl) B.h_list (by decide +kernel) (ad_cons (ed_ix hu (ed_var 0) (ed_var 1) (fun _ _ => rfl)) (ad_nil)))) (sds_cons (sd_for PassesOwn.never rfl (id_range1 (by rfl) B.h_range (ad_cons (ed_callB om_len (by rfl) B.h_len (by decide +kernel) (ad_cons (ed_var 0) (ad_nil))) (ad_nil))) (gd_name nd (i := 3)) (sds_one (sd_for PassesOwn.never rfl (id_seq (ed_callT (om_list rfl) (by rfl) B.h_list (by decide +kernel) (ad_cons (ed_var 2) (ad_nil)))) (gd_name nd (i := 4)) (sds_one (sd_set 2 nd (ed_op om_add (ed_var 2) (LD.ed (ld_lc [("far", 5)] rfl nd (blkOk_by (N := ["table", "name", "found", "turn", "other", "far"]) (sc := (defScope s__law_far)) (own := [("far", 5)]) (by decide +kernel)) (id_seq (ed_ix hu (ed_var 0) (ed_var 4) (fun _ _ => rfl))) (bgd_name 5 nd) (btds_one (fun _ _ _ _ _ => td_cmp (om_notin hu) (ed_var 5) (ed_var 2) (by rfl))) (fun _ _ _ _ _ => ed_var 5))))))))) (sds_one (sd_ret (ed_callT om_tuple (by rfl) B.h_tuple (by decide +kernel) (ad_cons (ed_sortset rfl (ed_var 2) (by rfl) B.h_sorted (by rfl) B.h_set) (ad_nil))))))
theorem sc_law : FnScope ["script", "box", "turn", "blocks", "met", "above", "nearest", "label", "rows", "due", "names", "table", "name", "called", "code", "k", "far", "other"] ["script"] (defScope s_law) := ⟨rfl, rfl, rfl, by decide +kernel, rfl, by decide +kernel, by decide +kernel⟩
theorem ok_law (B : Bn mg) (T : Told K mg "law" s_law ["script"]) (d__law_digits : DOk P w K mg base 2 "_law_digits" 3 mLawDigits) (d__law_blocks : DOk P w K mg base 2 "_law_blocks" 1 mLawBlocks) (d__law_met : DOk P w K mg base 2 "_law_met" 2 mLawMet) (d__law_same : DOk P w K mg base 8 "_law_same" 2 (mLawSameN 8)) (d_reach : DOk P w K mg base 2 "reach" 1 mReach) (d_arrows : DOk P w K mg base 3 "arrows" 1 mArrows) (d_loops : DOk P w K mg base 5 "loops" 1 mLoops) (d__law_loops : DOk P w K mg base 3 "_law_loops" 2 mLawLoops) (d__law_ways : DOk P w K mg base 1 "_law_ways" 1 mLawWays) (d_over : DOk P w K mg base 3 "over" 1 mOver) (d_dominators : DOk P w K mg base 4 "dominators" 1 mDominators) (d__law_draw : DOk P w K mg base 1 "_law_draw" 2 mLawDraw) (d__law_pick : DOk P w K mg base 2 "_law_pick" 2 mLawPick) (d_callers : DOk P w K mg base 2 "callers" 1 mCallers) (d_calls_of : DOk P w K mg base 1 "calls_of" 1 mCallsOf) (d_calls_far : DOk P w K mg base 2 "calls_far" 2 mCallsFar) (d__law_far : DOk P w K mg base 1 "_law_far" 2 mLawFar) : DOk P w K mg base 9 "law" 1 mLaw :=
  DOk.body (N := ["script", "box", "turn", "blocks", "met", "above", "nearest", "label", "rows", "due", "names", "table", "name", "called", "code", "k", "far", "other"]) T sc_law fun f cdv A outer s H E hr =>
    have hu := hr.units
    have nd := sc_law.nd
    sds_cons (sd_set 1 nd (ed_lst (ad_cons (ed_callP (d__law_digits.mono (by decide)) hr (by rfl) (ad_cons (ed_var 0) (ad_cons (ed_int) (ad_cons (ed_int) (ad_nil))))) (ad_cons (ed_int) (ad_nil))))) (sds_cons (sd_for PassesOwn.never rfl (id_range1 (by rfl) B.h_range (ad_cons (ed_int) (ad_nil))) (gd_name nd (i := 2)) (sds_cons (sd_set 3 nd (ed_call (d__law_blocks.mono (by decide)) hr (by rfl) (ad_cons (ed_var 1) (ad_nil)))) (sds_cons (sd_set 4 nd (ed_callP (d__law_met.mono (by decide)) hr (by rfl) (ad_cons (ed_var 3) (ad_cons (ed_non) (ad_nil))))) (sds_cons (sd_if (td_not (td_tru (ed_call (d__law_same.mono (by decide)) hr (by rfl) (ad_cons (ed_callP (d_reach.mono (by decide)) hr (by rfl) (ad_cons (ed_var 3) (ad_nil))) (ad_cons (ed_callT om_tuple (by rfl) B.h_tuple (by decide +kernel) (ad_cons (ed_var 4) (ad_nil))) (ad_nil)))))) (sds_one (sd_ret (ed_bl))) (sds_nil)) (sds_cons (sd_set 5 nd (LD.ed (ld_lc [("label", 7)] rfl nd (blkOk_by (N := ["script", "box", "turn", "blocks", "met", "above", "nearest", "label", "rows", "due", "names", "table", "name", "called", "code", "k", "far", "other"]) (sc := (defScope s_law)) (own := [("label", 7)]) (by decide +kernel)) (id_range1 (by rfl) B.h_range (ad_cons (ed_callB om_len (by rfl) B.h_len (by decide +kernel) (ad_cons (ed_var 3) (ad_nil))) (ad_nil))) (bgd_name 7 nd) (btds_nil) (fun _ _ _ _ _ => ed_callT om_tuple (by rfl) B.h_tuple (by decide +kernel) (ad_cons (LD.ed (ld_lc [("far", 16)] rfl nd (blkOk_by (N := ["script", "box", "turn", "blocks", "met", "above", "nearest", "label", "rows", "due", "names", "table", "name", "called", "code", "k", "far", "other"]) (sc := (relS _ (defScope s_law))) (own := [("far", 16)]) (by decide +kernel)) (id_seq (ed_var 4)) (bgd_name 16 nd) (btds_one (fun _ _ _ _ _ => WD.td (wd_and (td_cmp (om_ne hu) (ed_var 16) (ed_var 7) (by rfl)) (wd_and1 (td_cmp (om_notin hu) (ed_var 7) (ed_callP (d__law_met.mono (by decide)) hr (by rfl) (ad_cons (ed_var 3) (ad_cons (ed_var 16) (ad_nil)))) (by rfl)))))) (fun _ _ _ _ _ => ed_var 16))) (ad_nil)))))) (sds_cons (sd_if (td_not (td_tru (ed_call (d__law_same.mono (by decide)) hr (by rfl) (ad_cons (ed_items rfl (ed_callP (d_over.mono (by decide)) hr (by rfl) (ad_cons (ed_var 3) (ad_nil))) (by rfl) B.h_list (by decide +kernel)) (ad_cons (LD.ed (ld_lc [("label", 7)] rfl nd (blkOk_by (N := ["script", "box", "turn", "blocks", "met", "above", "nearest", "label", "rows", "due", "names", "table", "name", "called", "code", "k", "far", "other"]) (sc := (defScope s_law)) (own := [("label", 7)]) (by decide +kernel)) (id_seq (ed_var 4)) (bgd_name 7 nd) (btds_nil) (fun _ _ _ _ _ => ed_tup (ad_cons (ed_var 7) (ad_cons (ed_ix hu (ed_var 5) (ed_var 7) (fun _ _ => rfl)) (ad_nil)))))) (ad_nil)))))) (sds_one (sd_ret (ed_bl))) (sds_nil)) (sds_cons (sd_set 6 nd (ed_lst (ad_nil))) (sds_cons (sd_for PassesOwn.never rfl (id_seq (ed_var 4)) (gd_name nd (i := 7)) (sds_cons (sd_setLc 8 [("far", 16)] rfl nd (blkOk_by (N := ["script", "box", "turn", "blocks", "met", "above", "nearest", "label", "rows", "due", "names", "table", "name", "called", "code", "k", "far", "other"]) (sc := (defScope s_law)) (own := [("far", 16)]) (by decide +kernel)) (id_seq (ed_ix hu (ed_var 5) (ed_var 7) (fun _ _ => rfl))) (bgd_name 16 nd) (btds_one (fun _ _ _ _ _ => td_cmp (om_eq hu) (ed_callB om_len (by rfl) B.h_len (by decide +kernel) (ad_cons (ed_ix hu (ed_var 5) (ed_var 16) (fun _ _ => rfl)) (ad_nil))) (ed_op om_sub (ed_callB om_len (by rfl) B.h_len (by decide +kernel) (ad_cons (ed_ix hu (ed_var 5) (ed_var 7) (fun _ _ => rfl)) (ad_nil))) (ed_int)) (by rfl))) (fun _ _ _ _ _ => ed_var 16) (sw_true rfl rfl (by rfl) (by decide +kernel))) (sds_one (sd_expr (ed_meth .l PySem.F.plainAttrs_list PySem.F.slot_list_append PySem.F.type_list_append om_append (ed_var 6) (ad_cons (ed_tup (ad_cons (ed_var 7) (ad_cons (ed_if (td_cmp (om_ne hu) (ed_var 8) (ed_lst (ad_nil)) (by rfl)) (ed_ix hu (ed_var 8) (ed_int) (fun _ _ => rfl)) (ed_non)) (ad_nil)))) (ad_nil))))))) (sds_cons (sd_if (WD.td (wd_or (td_not (td_tru (ed_call (d__law_same.mono (by decide)) hr (by rfl) (ad_cons (ed_items rfl (ed_callP (d_dominators.mono (by decide)) hr (by rfl) (ad_cons (ed_var 3) (ad_nil))) (by rfl) B.h_list (by decide +kernel)) (ad_cons (ed_var 6) (ad_nil)))))) (wd_or1 (td_not (td_tru (ed_call (d__law_same.mono (by decide)) hr (by rfl) (ad_cons (ed_callP (d_loops.mono (by decide)) hr (by rfl) (ad_cons (ed_var 3) (ad_nil))) (ad_cons (ed_call (d__law_loops.mono (by decide)) hr (by rfl) (ad_cons (ed_var 3) (ad_cons (ed_var 5) (ad_nil)))) (ad_nil))))))))) (sds_one (sd_ret (ed_bl))) (sds_nil)) (sds_cons (sd_set 9 nd (ed_lst (ad_nil))) (sds_cons (sd_for PassesOwn.never rfl (id_seq (ed_var 4)) (gd_name nd (i := 7)) (sds_one (sd_set 9 nd (ed_op om_add (ed_var 9) (LD.ed (ld_lc [("other", 17)] rfl nd (blkOk_by (N := ["script", "box", "turn", "blocks", "met", "above", "nearest", "label", "rows", "due", "names", "table", "name", "called", "code", "k", "far", "other"]) (sc := (defScope s_law)) (own := [("other", 17)]) (by decide +kernel)) (id_seq (ed_callP (d__law_ways.mono (by decide)) hr (by rfl) (ad_cons (ed_ix hu (ed_var 3) (ed_var 7) (fun _ _ => rfl)) (ad_nil)))) (bgd_name 17 nd) (btds_nil) (fun _ _ _ _ _ => ed_tup (ad_cons (ed_var 7) (ad_cons (ed_var 17) (ad_nil)))))))))) (sds_one (sd_if (td_not (td_tru (ed_call (d__law_same.mono (by decide)) hr (by rfl) (ad_cons (ed_callP (d_arrows.mono (by decide)) hr (by rfl) (ad_cons (ed_var 3) (ad_nil))) (ad_cons (LD.ed (ld_lc [("k", 15)] rfl nd (blkOk_by (N := ["script", "box", "turn", "blocks", "met", "above", "nearest", "label", "rows", "due", "names", "table", "name", "called", "code", "k", "far", "other"]) (sc := (defScope s_law)) (own := [("k", 15)]) (by decide +kernel)) (id_range1 (by rfl) B.h_range (ad_cons (ed_callB om_len (by rfl) B.h_len (by decide +kernel) (ad_cons (ed_var 9) (ad_nil))) (ad_nil))) (bgd_name 15 nd) (btds_one (fun _ _ _ _ _ => td_cmp (om_notin hu) (ed_ix hu (ed_var 9) (ed_var 15) (fun _ _ => rfl)) (ed_sl (ed_var 9) (od_none) (od_some (ed_var 15))) (by rfl))) (fun _ _ _ _ _ => ed_ix hu (ed_var 9) (ed_var 15) (fun _ _ => rfl)))) (ad_nil)))))) (sds_one (sd_ret (ed_bl))) (sds_nil)))))))))))))) (sds_cons (sd_set 10 nd (ed_sl (ed_lst (ad_cons (ed_str) (ad_cons (ed_str) (ad_cons (ed_str) (ad_cons (ed_str) (ad_cons (ed_str) (ad_cons (ed_str) (ad_nil)))))))) (od_none) (od_some (ed_op om_add (ed_int) (ed_call (d__law_draw.mono (by decide)) hr (by rfl) (ad_cons (ed_var 1) (ad_cons (ed_int) (ad_nil)))))))) (sds_cons (sd_asg (ed_tup (ad_cons (ed_lst (ad_nil)) (ad_cons (ed_dict0) (ad_nil)))) (gd_tup rfl (gds_cons (gd_name nd (i := 8)) (gds_cons (gd_name nd (i := 11)) (gds_nil))))) (sds_cons (sd_for PassesOwn.never rfl (id_seq (ed_var 10)) (gd_name nd (i := 12)) (sds_cons (sd_setLc 13 [("turn", 2)] rfl nd (blkOk_by (N := ["script", "box", "turn", "blocks", "met", "above", "nearest", "label", "rows", "due", "names", "table", "name", "called", "code", "k", "far", "other"]) (sc := (defScope s_law)) (own := [("turn", 2)]) (by decide +kernel)) (id_range1 (by rfl) B.h_range (ad_cons (ed_call (d__law_draw.mono (by decide)) hr (by rfl) (ad_cons (ed_var 1) (ad_cons (ed_int) (ad_nil)))) (ad_nil))) (bgd_name 2 nd) (btds_nil) (fun _ _ _ _ _ => ed_call (d__law_pick.mono (by decide)) hr (by rfl) (ad_cons (ed_var 1) (ad_cons (ed_var 10) (ad_nil)))) (sw_true rfl rfl (by rfl) (by decide +kernel))) (sds_cons (sd_expr (ed_meth .l PySem.F.plainAttrs_list PySem.F.slot_list_append PySem.F.type_list_append om_append (ed_var 8) (ad_cons (ed_tup (ad_cons (ed_var 12) (ad_cons (ed_tup (ad_nil)) (ad_cons (ed_tup (ad_nil)) (ad_cons (ed_tup (ad_cons (ed_tup (ad_cons (ed_tup (ad_nil)) (ad_cons (ed_callT om_tuple (by rfl) B.h_tuple (by decide +kernel) (ad_cons (LD.ed (ld_lc [("other", 17)] rfl nd (blkOk_by (N := ["script", "box", "turn", "blocks", "met", "above", "nearest", "label", "rows", "due", "names", "table", "name", "called", "code", "k", "far", "other"]) (sc := (defScope s_law)) (own := [("other", 17)]) (by decide +kernel)) (id_seq (ed_var 13)) (bgd_name 17 nd) (btds_nil) (fun _ _ _ _ _ => ed_tup (ad_cons (ed_str) (ad_cons (ed_var 17) (ad_cons (ed_tup (ad_nil)) (ad_nil))))))) (ad_nil))) (ad_cons (ed_tup (ad_cons (ed_str) (ad_cons (ed_tup (ad_nil)) (ad_nil)))) (ad_nil))))) (ad_nil))) (ad_nil)))))) (ad_nil)))) (sds_one (sd_asg (ed_sortset rfl (ed_var 13) (by rfl) B.h_sorted (by rfl) B.h_set) (gd_sub hu (ed_var 11) (ed_var 12))))))) (sds_cons (sd_set 14 nd (ed_tup (ad_cons (ed_str) (ad_cons (ed_tup (ad_nil)) (ad_cons (ed_callT om_tuple (by rfl) B.h_tuple (by decide +kernel) (ad_cons (ed_var 8) (ad_nil))) (ad_nil)))))) (sds_cons (sd_set 9 nd (LD.ed (ld_lc [("name", 12)] rfl nd (blkOk_by (N := ["script", "box", "turn", "blocks", "met", "above", "nearest", "label", "rows", "due", "names", "table", "name", "called", "code", "k", "far", "other"]) (sc := (defScope s_law)) (own := [("name", 12)]) (by decide +kernel)) (id_seq (ed_var 10)) (bgd_name 12 nd) (btds_nil) (fun _ _ _ _ _ => ed_tup (ad_cons (ed_var 12) (ad_cons (ed_callT om_tuple (by rfl) B.h_tuple (by decide +kernel) (ad_cons (ed_callB (om_sorted rfl) (by rfl) B.h_sorted (by decide +kernel) (ad_cons (LD.ed (ld_lc [("other", 17)] rfl nd (blkOk_by (N := ["script", "box", "turn", "blocks", "met", "above", "nearest", "label", "rows", "due", "names", "table", "name", "called", "code", "k", "far", "other"]) (sc := (relS _ (defScope s_law))) (own := [("other", 17)]) (by decide +kernel)) (id_seq (ed_var 10)) (bgd_name 17 nd) (btds_one (fun _ _ _ _ _ => td_cmp (om_in hu) (ed_var 12) (ed_ix hu (ed_var 11) (ed_var 17) (fun _ _ => rfl)) (by rfl))) (fun _ _ _ _ _ => ed_var 17))) (ad_nil))) (ad_nil))) (ad_nil))))))) (sds_cons (sd_if (td_not (td_tru (ed_call (d__law_same.mono (by decide)) hr (by rfl) (ad_cons (ed_items rfl (ed_callP (d_callers.mono (by decide)) hr (by rfl) (ad_cons (ed_var 14) (ad_nil))) (by rfl) B.h_list (by decide +kernel)) (ad_cons (ed_var 9) (ad_nil)))))) (sds_one (sd_ret (ed_bl))) (sds_nil)) (sds_cons (sd_for PassesOwn.never rfl (id_range1 (by rfl) B.h_range (ad_cons (ed_callB om_len (by rfl) B.h_len (by decide +kernel) (ad_cons (ed_var 10) (ad_nil))) (ad_nil))) (gd_name nd (i := 15)) (sds_one (sd_if (WD.td (wd_or (td_not (td_tru (ed_call (d__law_same.mono (by decide)) hr (by rfl) (ad_cons (ed_callP (d_calls_of.mono (by decide)) hr (by rfl) (ad_cons (ed_ix hu (ed_var 8) (ed_var 15) (fun _ _ => rfl)) (ad_nil))) (ad_cons (ed_callT om_tuple (by rfl) B.h_tuple (by decide +kernel) (ad_cons (ed_ix hu (ed_var 11) (ed_ix hu (ed_var 10) (ed_var 15) (fun _ _ => rfl)) (fun _ _ => rfl)) (ad_nil))) (ad_nil)))))) (wd_or1 (td_not (td_tru (ed_call (d__law_same.mono (by decide)) hr (by rfl) (ad_cons (ed_callP (d_calls_far.mono (by decide)) hr (by rfl) (ad_cons (ed_var 14) (ad_cons (ed_ix hu (ed_var 10) (ed_var 15) (fun _ _ => rfl)) (ad_nil)))) (ad_cons (ed_call (d__law_far.mono (by decide)) hr (by rfl) (ad_cons (ed_var 11) (ad_cons (ed_ix hu (ed_var 10) (ed_var 15) (fun _ _ => rfl)) (ad_nil)))) (ad_nil))))))))) (sds_one (sd_ret (ed_bl))) (sds_nil)))) (sds_one (sd_ret (ed_bl)))))))))))
end
end K04

namespace K04
open PySem L2 PM
theorem lawCell (ns : List Int) (k : Nat) (h : AH) : mLawCell [.rol (ns.map .int), .int k] h = .ok (.int (ns.getD k 0)) h := by
  by_cases hk : k < ns.length
  · simp [mLawCell, bodyM, sSeq, s_thenNx, s_thenRt, s_loopNx, s_loopRt, s_loopCt, s_loopBk, sAsg, sRet, sRetN, sDrop, sNil, sPar, sBrk, sCnt, eVar, eC, eOp, gmName, gmSub, eCallB, aCons, aNil, eB, eIf, eTru, mAnd, mOr, mNot, mYes, eMeth, eTup, eLst, eL, eDict0, eDict1, r_for1, forR_nat, r_forS, r_lc1, lcR_nat, r_lcS, n_non, n_bl, n_int, n_str, n_tup, n_rol, n_ref, b_non, b_bl, b_int, b_str, b_tup, b_rol, b_ref, eSetd, eItems, gmTup, gmCons, gmNil, dKey, eCall, eCallP, eDc, iSeq, wipeE, eUn, eIsi, eAnd, eOr, eNot, R.bind_ok, noX_ok, s_atI, s_atI0, s_atI1, s_atI2, s_atI3, s_atI4, s_atI5, s_add, s_sub, s_lt, s_le, s_gt, s_ge, s_isN, s_isB, s_eq_ii, s_eq_ss, s_eq_in, s_eq_ni, s_eq_nn, s_eq_sn, s_eq_ns, s_eq_bb, s_lenT, s_lenR, s_int, s_listT, s_listR, s_tupT, s_truB, s_truN, s_truI, s_truT, s_oB, s_itT, s_itR, s_inTI, s_inTS, s_isLst, r_in, r_inDi, r_inDs, inL_I, inL_S, r_ix, r_ixT, r_ixR, r_ixLi, r_ixDi, r_ixDs, r_len, r_list, r_tup, r_sort, r_tru, r_tyL, r_tyD, r_append, r_pop, r_extT, r_extR, r_it, hk, s_ixR]
  · simp [mLawCell, bodyM, sSeq, s_thenNx, s_thenRt, s_loopNx, s_loopRt, s_loopCt, s_loopBk, sAsg, sRet, sRetN, sDrop, sNil, sPar, sBrk, sCnt, eVar, eC, eOp, gmName, gmSub, eCallB, aCons, aNil, eB, eIf, eTru, mAnd, mOr, mNot, mYes, eMeth, eTup, eLst, eL, eDict0, eDict1, r_for1, forR_nat, r_forS, r_lc1, lcR_nat, r_lcS, n_non, n_bl, n_int, n_str, n_tup, n_rol, n_ref, b_non, b_bl, b_int, b_str, b_tup, b_rol, b_ref, eSetd, eItems, gmTup, gmCons, gmNil, dKey, eCall, eCallP, eDc, iSeq, wipeE, eUn, eIsi, eAnd, eOr, eNot, R.bind_ok, noX_ok, s_atI, s_atI0, s_atI1, s_atI2, s_atI3, s_atI4, s_atI5, s_add, s_sub, s_lt, s_le, s_gt, s_ge, s_isN, s_isB, s_eq_ii, s_eq_ss, s_eq_in, s_eq_ni, s_eq_nn, s_eq_sn, s_eq_ns, s_eq_bb, s_lenT, s_lenR, s_int, s_listT, s_listR, s_tupT, s_truB, s_truN, s_truI, s_truT, s_oB, s_itT, s_itR, s_inTI, s_inTS, s_isLst, r_in, r_inDi, r_inDs, inL_I, inL_S, r_ix, r_ixT, r_ixR, r_ixLi, r_ixDi, r_ixDs, r_len, r_list, r_tup, r_sort, r_tru, r_tyL, r_tyD, r_append, r_pop, r_extT, r_extR, r_it, hk]
inductive End where
  | go (i : Nat) | br (i j : Nat) | give | halt
def endD : End → D
  | .go i => .tup [.str ("go" : Str), .int i, .tup []]
  | .br i j => .tup [.str ("if" : Str), .int 0, .int i, .tup [], .int j, .tup []]
  | .give => .tup [.str ("give" : Str), .tup []]
  | .halt => .tup [.str ("halt" : Str), .str ("stop" : Str)]
def blkD (e : End) : D := .tup [.tup [], .tup [.tup [.str ("word" : Str), .int 1]], endD e]
def ways : End → List Nat
  | .go i => [i]
  | .br i j => [i, j]
  | _ => []
def I (n : Nat) : D := .int n
theorem st_if_go : (("if" : Str) == ("go" : Str)) = false := by decide +kernel
theorem st_give_go : (("give" : Str) == ("go" : Str)) = false := by decide +kernel
theorem st_halt_go : (("halt" : Str) == ("go" : Str)) = false := by decide +kernel
theorem st_give_if : (("give" : Str) == ("if" : Str)) = false := by decide +kernel
theorem st_halt_if : (("halt" : Str) == ("if" : Str)) = false := by decide +kernel
theorem szl : sizeLine = 16777216 := sizeLine_eq
theorem pur_blk (e : End) : pur (blkD e) = true := by cases e <;> rfl
theorem pur_I (n : Nat) : pur (I n) = true := rfl
theorem waysOf (e : End) : mWaysOf [blkD e] [] = .ok (.ref 0) [.lst ((ways e).map I)] := by
  cases e <;> simp [mWaysOf, blkD, endD, bodyM, sSeq, s_thenNx, s_thenRt, s_loopNx, s_loopRt, s_loopCt, s_loopBk, sAsg, sRet, sRetN, sDrop, sNil, sPar, sBrk, sCnt, eVar, eC, eOp, gmName, gmSub, eCallB, aCons, aNil, eB, eIf, eTru, mAnd, mOr, mNot, mYes, eMeth, eTup, eLst, eL, eDict0, eDict1, r_for1, forR_nat, r_forS, r_lc1, lcR_nat, r_lcS, n_non, n_bl, n_int, n_str, n_tup, n_rol, n_ref, b_non, b_bl, b_int, b_str, b_tup, b_rol, b_ref, eSetd, eItems, gmTup, gmCons, gmNil, dKey, eCall, eCallP, eDc, iSeq, wipeE, eUn, eIsi, eAnd, eOr, eNot, R.bind_ok, noX_ok, s_atI, s_atI0, s_atI1, s_atI2, s_atI3, s_atI4, s_atI5, s_add, s_sub, s_lt, s_le, s_gt, s_ge, s_isN, s_isB, s_eq_ii, s_eq_ss, s_eq_in, s_eq_ni, s_eq_nn, s_eq_sn, s_eq_ns, s_eq_bb, s_lenT, s_lenR, s_int, s_listT, s_listR, s_tupT, s_truB, s_truN, s_truI, s_truT, s_oB, s_itT, s_itR, s_inTI, s_inTS, s_isLst, r_in, r_inDi, r_inDs, inL_I, inL_S, r_ix, r_ixT, r_ixR, r_ixLi, r_ixDi, r_ixDs, r_len, r_list, r_tup, r_sort, r_tru, r_tyL, r_tyD, r_append, r_pop, r_extT, r_extR, r_it, s_ixT, st_if_go, st_give_go, st_halt_go, st_give_if, st_halt_if, szl, ways, I]
theorem lawWays (e : End) : mLawWays [blkD e] [] = .ok (.ref 0) [.lst ((ways e).map I)] := by
  cases e <;> simp [mLawWays, blkD, endD, bodyM, sSeq, s_thenNx, s_thenRt, s_loopNx, s_loopRt, s_loopCt, s_loopBk, sAsg, sRet, sRetN, sDrop, sNil, sPar, sBrk, sCnt, eVar, eC, eOp, gmName, gmSub, eCallB, aCons, aNil, eB, eIf, eTru, mAnd, mOr, mNot, mYes, eMeth, eTup, eLst, eL, eDict0, eDict1, r_for1, forR_nat, r_forS, r_lc1, lcR_nat, r_lcS, n_non, n_bl, n_int, n_str, n_tup, n_rol, n_ref, b_non, b_bl, b_int, b_str, b_tup, b_rol, b_ref, eSetd, eItems, gmTup, gmCons, gmNil, dKey, eCall, eCallP, eDc, iSeq, wipeE, eUn, eIsi, eAnd, eOr, eNot, R.bind_ok, noX_ok, s_atI, s_atI0, s_atI1, s_atI2, s_atI3, s_atI4, s_atI5, s_add, s_sub, s_lt, s_le, s_gt, s_ge, s_isN, s_isB, s_eq_ii, s_eq_ss, s_eq_in, s_eq_ni, s_eq_nn, s_eq_sn, s_eq_ns, s_eq_bb, s_lenT, s_lenR, s_int, s_listT, s_listR, s_tupT, s_truB, s_truN, s_truI, s_truT, s_oB, s_itT, s_itR, s_inTI, s_inTS, s_isLst, r_in, r_inDi, r_inDs, inL_I, inL_S, r_ix, r_ixT, r_ixR, r_ixLi, r_ixDi, r_ixDs, r_len, r_list, r_tup, r_sort, r_tru, r_tyL, r_tyD, r_append, r_pop, r_extT, r_extR, r_it, s_ixT, st_if_go, st_give_go, st_halt_go, st_give_if, st_halt_if, szl, ways, I]
theorem runWays (e : End) (h : AH) : runP mWaysOf [blkD e] h = .ok (.ref h.length) (h ++ [.lst ((ways e).map I)]) :=
  s_runL (by simp [purs, pur_blk]) (waysOf e) rfl (purs_map pur_I _)
theorem runLawWays (e : End) (h : AH) : runP mLawWays [blkD e] h = .ok (.ref h.length) (h ++ [.lst ((ways e).map I)]) :=
  s_runL (by simp [purs, pur_blk]) (lawWays e) rfl (purs_map pur_I _)
/-! ### marks: a dict of what was met -/
def fd (f : List Nat) : List (Key × D) := f.map fun n : Nat => ((Sum.inl (n : Int) : Key), D.bl true)
theorem gt_fd (n : Nat) : ∀ f : List Nat, (gtD (fd f) (.inl (n : Int))).isSome = decide (n ∈ f)
  | [] => rfl
  | m :: f => by
    show (if (Sum.inl (m : Int) : Key) = Sum.inl (n : Int) then some (D.bl true) else gtD (fd f) (.inl (n : Int))).isSome = _
    by_cases e : m = n
    · subst e; simp
    · have e2 : ¬ ((Sum.inl (m : Int) : Key) = Sum.inl (n : Int)) := fun z => e (by have := Sum.inl.inj z; omega)
      rw [if_neg e2, gt_fd n f]
      have e3 : ¬ n = m := fun z => e z.symm
      simp [e3]
theorem pt_fd {n : Nat} {f : List Nat} (h : n ∉ f) : ptD (fd f) (.inl (n : Int)) (.bl true) = fd (f ++ [n]) := by
  unfold ptD
  rw [gt_fd, decide_eq_false h, if_neg Bool.false_ne_true]
  simp [fd]
theorem fd_len (f : List Nat) : (fd f).length = f.length := by simp [fd]
theorem fd_keys (f : List Nat) : (fd f).map (fun p => keyD p.1) = (f.map (fun n : Nat => (n : Int))).map .int := by
  simp [fd, keyD]
/-- the blocks, their labels -/
def B (bs : List End) : D := .tup (bs.map blkD)
def okB (bs : List End) : Prop := 0 < bs.length ∧ bs.length ≤ 9 ∧ ∀ e ∈ bs, ∀ y ∈ ways e, y < bs.length
def waysAt (bs : List End) (x : Nat) : List Nat := match bs[x]? with
  | some e => ways e
  | none => []
theorem pur_B (bs : List End) : pur (B bs) = true := purs_map pur_blk bs
theorem ways_len (e : End) : (ways e).length ≤ 2 := by cases e <;> simp [ways]
theorem ixB {bs : List End} {x : Nat} {e : End} {h : AH} (he : bs[x]? = some e) : oIx (B bs) (I x) h = .ok (blkD e) h :=
  s_ixT (by rw [s_atI, List.getElem?_map, he]; rfl)
/-! ### reach -/
abbrev rBody : SM := eIf (eB (eOp (oIn true) (eVar 3) (eVar 1))) (sSeq (sAsg (eC (.bl true)) (gmSub (eVar 1) (eVar 3))) (sDrop (eMeth .l (eVar 2) (aCons (eVar 3) (aNil)) oAppend))) (sNil)
theorem rFor {bs : List End} {chk : AH → Bool} {g : List Ob} (hc : ∀ a b, chk (a :: b :: g) = true) : ∀ (ys f td : List Nat) (x3 : Option D), f.length + ys.length < 5000 → td.length + ys.length < 5000 →
    ∃ x3', PM.forM (gmName 3) rBody chk (ys.map I) [some (B bs), some (.ref 0), some (.ref 1), x3] (.dic false (fd f) :: .lst (td.map I) :: g) = .ok (.nx [some (B bs), some (.ref 0), some (.ref 1), x3']) (.dic false (fd (pushN f td ys).1) :: .lst ((pushN f td ys).2.map I) :: g)
  | [], f, td, x3, _, _ => ⟨x3, by rw [List.map_nil, s_forNil (hc _ _)]; rfl⟩
  | y :: ys, f, td, x3, hf, ht => by
    rw [List.map_cons, s_forCons (hc _ _)]
    simp only [List.length_cons] at hf ht
    by_cases hy : y ∈ f
    · obtain ⟨x3', e⟩ := rFor (bs := bs) hc ys f td (some (I y)) (by omega) (by omega)
      refine ⟨x3', ?_⟩
      rw [pushN, if_pos hy, ← e]
      simp [bodyM, sSeq, s_thenNx, s_thenRt, s_loopNx, s_loopRt, s_loopCt, s_loopBk, sAsg, sRet, sRetN, sDrop, sNil, sPar, sBrk, sCnt, eVar, eC, eOp, gmName, gmSub, eCallB, aCons, aNil, eB, eIf, eTru, mAnd, mOr, mNot, mYes, eMeth, eTup, eLst, eL, eDict0, eDict1, r_for1, forR_nat, r_forS, r_lc1, lcR_nat, r_lcS, n_non, n_bl, n_int, n_str, n_tup, n_rol, n_ref, b_non, b_bl, b_int, b_str, b_tup, b_rol, b_ref, eSetd, eItems, gmTup, gmCons, gmNil, dKey, eCall, eCallP, eDc, iSeq, wipeE, eUn, eIsi, eAnd, eOr, eNot, R.bind_ok, noX_ok, s_atI, s_atI0, s_atI1, s_atI2, s_atI3, s_atI4, s_atI5, s_add, s_sub, s_lt, s_le, s_gt, s_ge, s_isN, s_isB, s_eq_ii, s_eq_ss, s_eq_in, s_eq_ni, s_eq_nn, s_eq_sn, s_eq_ns, s_eq_bb, s_lenT, s_lenR, s_int, s_listT, s_listR, s_tupT, s_truB, s_truN, s_truI, s_truT, s_oB, s_itT, s_itR, s_inTI, s_inTS, s_isLst, r_in, r_inDi, r_inDs, inL_I, inL_S, r_ix, r_ixT, r_ixR, r_ixLi, r_ixDi, r_ixDs, r_len, r_list, r_tup, r_sort, r_tru, r_tyL, r_tyD, r_append, r_pop, r_extT, r_extR, r_it, gt_fd, hy, I]
    · obtain ⟨x3', e⟩ := rFor (bs := bs) hc ys (f ++ [y]) (td ++ [y]) (some (I y)) (by simp; omega) (by simp; omega)
      refine ⟨x3', ?_⟩
      rw [pushN, if_neg hy, ← e]
      have h1 : f.length < 16777216 := by omega
      have h2 : td.length < 16777216 := by omega
      simp [bodyM, sSeq, s_thenNx, s_thenRt, s_loopNx, s_loopRt, s_loopCt, s_loopBk, sAsg, sRet, sRetN, sDrop, sNil, sPar, sBrk, sCnt, eVar, eC, eOp, gmName, gmSub, eCallB, aCons, aNil, eB, eIf, eTru, mAnd, mOr, mNot, mYes, eMeth, eTup, eLst, eL, eDict0, eDict1, r_for1, forR_nat, r_forS, r_lc1, lcR_nat, r_lcS, n_non, n_bl, n_int, n_str, n_tup, n_rol, n_ref, b_non, b_bl, b_int, b_str, b_tup, b_rol, b_ref, eSetd, eItems, gmTup, gmCons, gmNil, dKey, eCall, eCallP, eDc, iSeq, wipeE, eUn, eIsi, eAnd, eOr, eNot, R.bind_ok, noX_ok, s_atI, s_atI0, s_atI1, s_atI2, s_atI3, s_atI4, s_atI5, s_add, s_sub, s_lt, s_le, s_gt, s_ge, s_isN, s_isB, s_eq_ii, s_eq_ss, s_eq_in, s_eq_ni, s_eq_nn, s_eq_sn, s_eq_ns, s_eq_bb, s_lenT, s_lenR, s_int, s_listT, s_listR, s_tupT, s_truB, s_truN, s_truI, s_truT, s_oB, s_itT, s_itR, s_inTI, s_inTS, s_isLst, r_in, r_inDi, r_inDs, inL_I, inL_S, r_ix, r_ixT, r_ixR, r_ixLi, r_ixDi, r_ixDs, r_len, r_list, r_tup, r_sort, r_tru, r_tyL, r_tyD, r_append, r_pop, r_extT, r_extR, r_it, gt_fd, hy, I, fd_len, szl, pt_fd, h1, h2]
/-! ### lists of labels -/
def srtN (f : List Nat) : List Nat := f.mergeSort (fun a b => decide (a ≤ b))
theorem srtN_sorted (f : List Nat) : (srtN f).Pairwise (· ≤ ·) := by
  have h := List.pairwise_mergeSort (le := fun a b : Nat => decide (a ≤ b)) (fun a b c h1 h2 => by simp only [decide_eq_true_eq] at *; omega) (fun a b => by simp only [Bool.or_eq_true, decide_eq_true_eq]; omega) f
  exact h.imp fun {a b} h => by simpa using h
theorem srtN_perm (f : List Nat) : (srtN f).Perm f := List.mergeSort_perm _ _
theorem srtN_eq {l m : List Nat} (h : l.Perm m) : srtN l = srtN m :=
  List.Perm.eq_of_pairwise (fun a b _ _ h1 h2 => by omega) (srtN_sorted l) (srtN_sorted m) ((srtN_perm l).trans (h.trans (srtN_perm m).symm))
theorem srtN_set {l m : List Nat} (hl : l.Nodup) (hm : m.Nodup) (h : ∀ x, x ∈ l ↔ x ∈ m) : srtN l = srtN m := srtN_eq (perm_of hl hm h)
theorem srtN_mem (l : List Nat) (x : Nat) : x ∈ srtN l ↔ x ∈ l := (srtN_perm l).mem_iff
theorem srtN_nodup {l : List Nat} (h : l.Nodup) : (srtN l).Nodup := (srtN_perm l).nodup_iff.mpr h
theorem map_I (f : List Nat) : f.map I = (f.map fun n : Nat => (n : Int)).map .int := by simp [I]
theorem srtI_N (f : List Nat) : srtI (f.map fun n : Nat => (n : Int)) = (srtN f).map fun n : Nat => (n : Int) := by
  refine (srtI_of ((srtN_perm f).map _) ?_).symm
  exact List.pairwise_map.mpr ((srtN_sorted f).imp fun {a b} h => by omega)
theorem sortL_N {b : Bool} {f : List Nat} {h : AH} (hl : f.length < 64) : sortL b (f.map I) h = .ok (.ref h.length) (h ++ [.lst ((srtN f).map I)]) := by
  rw [map_I, sortL_I (by simpa using hl), srtI_N, ← map_I]
theorem inL_N {neg : Bool} {i : Nat} {f : List Nat} {h : AH} : inL neg (.int (i : Int)) (f.map I) h = .ok (.bl (neg != decide (i ∈ f))) h := by
  rw [map_I, inL_I]
  have e : decide ((i : Int) ∈ f.map fun n : Nat => (n : Int)) = decide (i ∈ f) := by
    rw [Bool.eq_iff_iff, decide_eq_true_eq, decide_eq_true_eq, List.mem_map]
    exact ⟨fun ⟨a, h1, h2⟩ => by rw [← show a = i by omega]; exact h1, fun h => ⟨i, h, rfl⟩⟩
  rw [e]
theorem keys_fd (f : List Nat) : (fd f).map (fun p => keyD p.1) = f.map I := by simp [fd, keyD, I]
theorem waysAt_of {bs : List End} {x : Nat} {e : End} (h : bs[x]? = some e) : waysAt bs x = ways e := by simp [waysAt, h]
theorem waysAt_lt {bs : List End} (ok : okB bs) {x y : Nat} (h : y ∈ waysAt bs x) : y < bs.length := by
  unfold waysAt at h
  split at h
  · rename_i e he
    exact ok.2.2 e (List.mem_of_getElem? he) y h
  · cases h
theorem waysAt_len (bs : List End) (x : Nat) : (waysAt bs x).length ≤ 2 := by
  unfold waysAt
  split
  · exact ways_len _
  · simp
theorem blk_at {bs : List End} {x : Nat} (h : x < bs.length) : ∃ e, bs[x]? = some e := ⟨bs[x], by simp [h]⟩
/-- what is met when one leaves g out -/
def nx (bs : List End) (g : Option Nat) (x : Nat) : List Nat := (waysAt bs x).filter fun y => decide (g ≠ some y)
abbrev Met (bs : List End) (g : Option Nat) : Nat → Prop := Cl (fun x => x = 0 ∧ g ≠ some 0) (nx bs g)
theorem reach_run {bs : List End} (ok : okB bs) : ∃ f h', mReach [B bs] [] = .ok (.tup ((srtN f).map I)) h' ∧ f.Nodup ∧ (∀ x ∈ f, x < bs.length) ∧ ∀ x, x ∈ f ↔ Met bs none x := by
  obtain ⟨f, env, h', e, st, nd, fu, fm⟩ := wp_run (n0 := 1000) (U := List.range bs.length) (succ := waysAt bs) (S := fun x => x = 0) (t := eTru (eVar 2))
    (b := sFor (iSeq (eCallP (aCons (eOp oIx (eVar 0) (eMeth .l (eVar 2) aNil oPop)) (aNil)) mWaysOf)) (gmName 3) rBody)
    (fun f td env h => ∃ x3 g, env = [some (B bs), some (.ref 0), some (.ref 1), x3] ∧ h = .dic false (fd f) :: .lst (td.map I) :: g)
    (fun f td env h ⟨x3, g, e1, e2⟩ => by subst e1 e2; simp [bodyM, sSeq, s_thenNx, s_thenRt, s_loopNx, s_loopRt, s_loopCt, s_loopBk, sAsg, sRet, sRetN, sDrop, sNil, sPar, sBrk, sCnt, eVar, eC, eOp, gmName, gmSub, eCallB, aCons, aNil, eB, eIf, eTru, mAnd, mOr, mNot, mYes, eMeth, eTup, eLst, eL, eDict0, eDict1, r_for1, forR_nat, r_forS, r_lc1, lcR_nat, r_lcS, n_non, n_bl, n_int, n_str, n_tup, n_rol, n_ref, b_non, b_bl, b_int, b_str, b_tup, b_rol, b_ref, eSetd, eItems, gmTup, gmCons, gmNil, dKey, eCall, eCallP, eDc, iSeq, wipeE, eUn, eIsi, eAnd, eOr, eNot, R.bind_ok, noX_ok, s_atI, s_atI0, s_atI1, s_atI2, s_atI3, s_atI4, s_atI5, s_add, s_sub, s_lt, s_le, s_gt, s_ge, s_isN, s_isB, s_eq_ii, s_eq_ss, s_eq_in, s_eq_ni, s_eq_nn, s_eq_sn, s_eq_ns, s_eq_bb, s_lenT, s_lenR, s_int, s_listT, s_listR, s_tupT, s_truB, s_truN, s_truI, s_truT, s_oB, s_itT, s_itR, s_inTI, s_inTS, s_isLst, r_in, r_inDi, r_inDs, inL_I, inL_S, r_ix, r_ixT, r_ixR, r_ixLi, r_ixDi, r_ixDs, r_len, r_list, r_tup, r_sort, r_tru, r_tyL, r_tyD, r_append, r_pop, r_extT, r_extR, r_it])
    (fun f td x env h ⟨x3, g, e1, e2⟩ nd fu xu ht => by
      subst e1 e2
      obtain ⟨e, he⟩ := blk_at (List.mem_range.mp xu)
      have hfl : f.length ≤ bs.length := by have := nodup_len nd fu; simpa using this
      have h9 := ok.2.1
      have hw := ways_len e
      obtain ⟨x3', q⟩ := rFor (bs := bs) (chk := fun h' => isLst ((ways e).map I) h'[g.length + 2]?) (g := g ++ [.lst ((ways e).map I)]) (fun a b => by simp [isLst]) (ways e) f td x3 (by omega) (by omega)
      refine ⟨_, _, ?_, ⟨x3', g ++ [.lst ((ways e).map I)], rfl, rfl⟩⟩
      rw [waysAt_of he, ← q]
      simp [bodyM, sSeq, s_thenNx, s_thenRt, s_loopNx, s_loopRt, s_loopCt, s_loopBk, sAsg, sRet, sRetN, sDrop, sNil, sPar, sBrk, sCnt, eVar, eC, eOp, gmName, gmSub, eCallB, aCons, aNil, eB, eIf, eTru, mAnd, mOr, mNot, mYes, eMeth, eTup, eLst, eL, eDict0, eDict1, r_for1, forR_nat, r_forS, r_lc1, lcR_nat, r_lcS, n_non, n_bl, n_int, n_str, n_tup, n_rol, n_ref, b_non, b_bl, b_int, b_str, b_tup, b_rol, b_ref, eSetd, eItems, gmTup, gmCons, gmNil, dKey, eCall, eCallP, eDc, iSeq, wipeE, eUn, eIsi, eAnd, eOr, eNot, R.bind_ok, noX_ok, s_atI, s_atI0, s_atI1, s_atI2, s_atI3, s_atI4, s_atI5, s_add, s_sub, s_lt, s_le, s_gt, s_ge, s_isN, s_isB, s_eq_ii, s_eq_ss, s_eq_in, s_eq_ni, s_eq_nn, s_eq_sn, s_eq_ns, s_eq_bb, s_lenT, s_lenR, s_int, s_listT, s_listR, s_tupT, s_truB, s_truN, s_truI, s_truT, s_oB, s_itT, s_itR, s_inTI, s_inTS, s_isLst, r_in, r_inDi, r_inDs, inL_I, inL_S, r_ix, r_ixT, r_ixR, r_ixLi, r_ixDi, r_ixDs, r_len, r_list, r_tup, r_sort, r_tru, r_tyL, r_tyD, r_append, r_pop, r_extT, r_extR, r_it, ixB he, runWays])
    (fun x _ y hy => List.mem_range.mpr (waysAt_lt ok hy)) 1000 [0] [0] [some (B bs), some (.ref 0), some (.ref 1), none] [.dic false (fd [0]), .lst ([0].map I)] (Nat.le_refl _) ⟨none, [], rfl, rfl⟩ (by simp) (by simpa using ok.1) (by simp) (by simp) (fun x hx => by simp [hx]) (fun x hx => .base (by simpa using hx)) (by have := ok.2.1; simp; omega)
  obtain ⟨x3, g, rfl, rfl⟩ := st
  have hl : f.length < 64 := by have := nodup_len nd fu; have := ok.2.1; simp at *; omega
  refine ⟨f, .dic false (fd f) :: .lst [] :: (g ++ [.lst ((srtN f).map I)]), ?_, nd, fun x hx => List.mem_range.mp (fu x hx), fun x => (fm x).trans (Cl.congr (fun x => by simp) (fun x y => by simp [nx]) x)⟩
  have e' : whileM (eTru (eVar 2)) (sFor (iSeq (eCallP (aCons (eOp oIx (eVar 0) (eMeth .l (eVar 2) aNil oPop)) (aNil)) mWaysOf)) (gmName 3) rBody) 1000 [some (B bs), some (.ref 0), some (.ref 1), none] [.dic false [(.inl 0, .bl true)], .lst [.int 0]] = _ := e
  simp [mReach, bodyM, sSeq, s_thenNx, s_thenRt, s_loopNx, s_loopRt, s_loopCt, s_loopBk, sAsg, sRet, sRetN, sDrop, sNil, sPar, sBrk, sCnt, eVar, eC, eOp, gmName, gmSub, eCallB, aCons, aNil, eB, eIf, eTru, mAnd, mOr, mNot, mYes, eMeth, eTup, eLst, eL, eDict0, eDict1, r_for1, forR_nat, r_forS, r_lc1, lcR_nat, r_lcS, n_non, n_bl, n_int, n_str, n_tup, n_rol, n_ref, b_non, b_bl, b_int, b_str, b_tup, b_rol, b_ref, eSetd, eItems, gmTup, gmCons, gmNil, dKey, eCall, eCallP, eDc, iSeq, wipeE, eUn, eIsi, eAnd, eOr, eNot, R.bind_ok, noX_ok, s_atI, s_atI0, s_atI1, s_atI2, s_atI3, s_atI4, s_atI5, s_add, s_sub, s_lt, s_le, s_gt, s_ge, s_isN, s_isB, s_eq_ii, s_eq_ss, s_eq_in, s_eq_ni, s_eq_nn, s_eq_sn, s_eq_ns, s_eq_bb, s_lenT, s_lenR, s_int, s_listT, s_listR, s_tupT, s_truB, s_truN, s_truI, s_truT, s_oB, s_itT, s_itR, s_inTI, s_inTS, s_isLst, r_in, r_inDi, r_inDs, inL_I, inL_S, r_ix, r_ixT, r_ixR, r_ixLi, r_ixDi, r_ixDs, r_len, r_list, r_tup, r_sort, r_tru, r_tyL, r_tyD, r_append, r_pop, r_extT, r_extR, r_it, szl, e', keys_fd, sortL_N hl]
end K04

namespace K04
open PySem L2 PM
/-! ### met_without -/
theorem nx_len (bs : List End) (g : Option Nat) (x : Nat) : (nx bs g x).length ≤ 2 := Nat.le_trans (List.length_filter_le _ _) (waysAt_len bs x)
theorem nx_lt {bs : List End} (ok : okB bs) {g : Option Nat} {x y : Nat} (h : y ∈ nx bs g x) : y < bs.length := waysAt_lt ok (List.mem_filter.mp h).1
theorem beq_N (y g : Nat) : (((y : Nat) : Int) == ((g : Nat) : Int)) = decide (g = y) := by
  by_cases e : g = y
  · subst e; simp
  · have e2 : ¬ ((y : Int) = (g : Int)) := by omega
    simp [e, e2]
theorem ne_int (x g : Nat) : (true != (((x : Nat) : Int) == ((g : Nat) : Int))) = decide ((some g : Option Nat) ≠ some x) := by
  by_cases e : x = g
  · subst e; simp
  · have e2 : ¬ ((x : Int) = (g : Int)) := by omega
    have e3 : ¬ (g = x) := fun z => e z.symm
    simp [e2, e3]
theorem zero_ne (g : Nat) : (true != (((g : Nat) : Int) == 0)) = decide ((some g : Option Nat) ≠ some 0) := by
  by_cases e : g = 0
  · subst e; rfl
  · have e2 : ¬ ((g : Int) = 0) := by omega
    simp [e, e2]
theorem metW_run {bs : List End} (ok : okB bs) (g : Nat) : ∃ f h', mMetWithout [B bs, I g] [] = .ok (.tup ((srtN f).map I)) h' ∧ f.Nodup ∧ (∀ x ∈ f, x < bs.length) ∧ ∀ x, x ∈ f ↔ Met bs (some g) x := by
  have h9 := ok.2.1
  obtain ⟨f, env, h', e, st, nd, fu, fm⟩ := wl_run (n0 := 1000) (k := 2) (U := List.range bs.length) (succ := nx bs (some g)) (S := fun x => x = 0 ∧ (some g : Option Nat) ≠ some 0) (t := eTru (eVar 3))
    (b := (sSeq (sAsg (eMeth .l (eVar 3) aNil oPop) (gmName 4)) (eIf (eB (eOp (oIn true) (eVar 4) (eVar 2))) (sSeq (sAsg (eC (.bl true)) (gmSub (eVar 2) (eVar 4))) (sDrop (eMeth .l (eVar 3) (aCons (eL (lComp (iSeq (eCallP (aCons (eOp oIx (eVar 0) (eVar 4)) (aNil)) mWaysOf)) [5] (gmName 5) (eB (eOp (oEq true) (eVar 5) (eVar 1))) (eVar 5))) (aNil)) oExtend))) (sNil))))
    (fun f td env h => ∃ x4 x5 gb, env = [some (B bs), some (I g), some (.ref 0), some (.ref 1), x4, x5] ∧ h = .dic false (fd f) :: .lst (td.map I) :: gb)
    (fun f td env h ⟨x4, x5, gb, e1, e2⟩ => by subst e1 e2; simp [bodyM, sSeq, s_thenNx, s_thenRt, s_loopNx, s_loopRt, s_loopCt, s_loopBk, sAsg, sRet, sRetN, sDrop, sNil, sPar, sBrk, sCnt, eVar, eC, eOp, gmName, gmSub, eCallB, aCons, aNil, eB, eIf, eTru, mAnd, mOr, mNot, mYes, eMeth, eTup, eLst, eL, eDict0, eDict1, r_for1, forR_nat, r_forS, r_lc1, lcR_nat, r_lcS, n_non, n_bl, n_int, n_str, n_tup, n_rol, n_ref, b_non, b_bl, b_int, b_str, b_tup, b_rol, b_ref, eSetd, eItems, gmTup, gmCons, gmNil, dKey, eCall, eCallP, eDc, iSeq, wipeE, eUn, eIsi, eAnd, eOr, eNot, R.bind_ok, noX_ok, s_atI, s_atI0, s_atI1, s_atI2, s_atI3, s_atI4, s_atI5, s_add, s_sub, s_lt, s_le, s_gt, s_ge, s_isN, s_isB, s_eq_ii, s_eq_ss, s_eq_in, s_eq_ni, s_eq_nn, s_eq_sn, s_eq_ns, s_eq_bb, s_lenT, s_lenR, s_int, s_listT, s_listR, s_tupT, s_truB, s_truN, s_truI, s_truT, s_oB, s_itT, s_itR, s_inTI, s_inTS, s_isLst, r_in, r_inDi, r_inDs, inL_I, inL_S, r_ix, r_ixT, r_ixR, r_ixLi, r_ixDi, r_ixDs, r_len, r_list, r_tup, r_sort, r_tru, r_tyL, r_tyD, r_append, r_pop, r_extT, r_extR, r_it])
    (fun f td x env h ⟨x4, x5, gb, e1, e2⟩ nd fu xu ht => by
      subst e1 e2
      obtain ⟨e, he⟩ := blk_at (List.mem_range.mp xu)
      have hfl : f.length ≤ bs.length := by have := nodup_len nd fu; simpa using this
      have h1 : f.length < 16777216 := by omega
      have hw := ways_len e
      by_cases hx : x ∈ f
      · refine ⟨_, _, ?_, by rw [if_pos hx]; exact ⟨some (I x), x5, gb, rfl, rfl⟩⟩
        simp [bodyM, sSeq, s_thenNx, s_thenRt, s_loopNx, s_loopRt, s_loopCt, s_loopBk, sAsg, sRet, sRetN, sDrop, sNil, sPar, sBrk, sCnt, eVar, eC, eOp, gmName, gmSub, eCallB, aCons, aNil, eB, eIf, eTru, mAnd, mOr, mNot, mYes, eMeth, eTup, eLst, eL, eDict0, eDict1, r_for1, forR_nat, r_forS, r_lc1, lcR_nat, r_lcS, n_non, n_bl, n_int, n_str, n_tup, n_rol, n_ref, b_non, b_bl, b_int, b_str, b_tup, b_rol, b_ref, eSetd, eItems, gmTup, gmCons, gmNil, dKey, eCall, eCallP, eDc, iSeq, wipeE, eUn, eIsi, eAnd, eOr, eNot, R.bind_ok, noX_ok, s_atI, s_atI0, s_atI1, s_atI2, s_atI3, s_atI4, s_atI5, s_add, s_sub, s_lt, s_le, s_gt, s_ge, s_isN, s_isB, s_eq_ii, s_eq_ss, s_eq_in, s_eq_ni, s_eq_nn, s_eq_sn, s_eq_ns, s_eq_bb, s_lenT, s_lenR, s_int, s_listT, s_listR, s_tupT, s_truB, s_truN, s_truI, s_truT, s_oB, s_itT, s_itR, s_inTI, s_inTS, s_isLst, r_in, r_inDi, r_inDs, inL_I, inL_S, r_ix, r_ixT, r_ixR, r_ixLi, r_ixDi, r_ixDs, r_len, r_list, r_tup, r_sort, r_tru, r_tyL, r_tyD, r_append, r_pop, r_extT, r_extR, r_it, I, gt_fd, hx]
      · have q := lc_pure (xs := ways e) (F := I) (G := I) (p := fun y => decide ((some g : Option Nat) ≠ some y)) (env0 := [some (B bs), some (I g), some (.ref 0), some (.ref 1), some (I x), none]) (g := gmName 5) (t := eB (eOp (oEq true) (eVar 5) (eVar 1))) (e := eVar 5)
          (chk := fun h' => isLst ((ways e).map I) h'[gb.length + 1 + 1]?) (h := .dic false (fd (f ++ [x])) :: .lst (td.map I) :: (gb ++ [.lst ((ways e).map I)])) (fun y => [some (B bs), some (I g), some (.ref 0), some (.ref 1), some (I x), some (I y)])
          (by simp [isLst]) (fun y _ => by simp [gmName]) (fun y _ => by simp [bodyM, sSeq, s_thenNx, s_thenRt, s_loopNx, s_loopRt, s_loopCt, s_loopBk, sAsg, sRet, sRetN, sDrop, sNil, sPar, sBrk, sCnt, eVar, eC, eOp, gmName, gmSub, eCallB, aCons, aNil, eB, eIf, eTru, mAnd, mOr, mNot, mYes, eMeth, eTup, eLst, eL, eDict0, eDict1, r_for1, forR_nat, r_forS, r_lc1, lcR_nat, r_lcS, n_non, n_bl, n_int, n_str, n_tup, n_rol, n_ref, b_non, b_bl, b_int, b_str, b_tup, b_rol, b_ref, eSetd, eItems, gmTup, gmCons, gmNil, dKey, eCall, eCallP, eDc, iSeq, wipeE, eUn, eIsi, eAnd, eOr, eNot, R.bind_ok, noX_ok, s_atI, s_atI0, s_atI1, s_atI2, s_atI3, s_atI4, s_atI5, s_add, s_sub, s_lt, s_le, s_gt, s_ge, s_isN, s_isB, s_eq_ii, s_eq_ss, s_eq_in, s_eq_ni, s_eq_nn, s_eq_sn, s_eq_ns, s_eq_bb, s_lenT, s_lenR, s_int, s_listT, s_listR, s_tupT, s_truB, s_truN, s_truI, s_truT, s_oB, s_itT, s_itR, s_inTI, s_inTS, s_isLst, r_in, r_inDi, r_inDs, inL_I, inL_S, r_ix, r_ixT, r_ixR, r_ixLi, r_ixDi, r_ixDs, r_len, r_list, r_tup, r_sort, r_tru, r_tyL, r_tyD, r_append, r_pop, r_extT, r_extR, r_it, I, beq_N]) (fun y _ _ => by simp [bodyM, sSeq, s_thenNx, s_thenRt, s_loopNx, s_loopRt, s_loopCt, s_loopBk, sAsg, sRet, sRetN, sDrop, sNil, sPar, sBrk, sCnt, eVar, eC, eOp, gmName, gmSub, eCallB, aCons, aNil, eB, eIf, eTru, mAnd, mOr, mNot, mYes, eMeth, eTup, eLst, eL, eDict0, eDict1, r_for1, forR_nat, r_forS, r_lc1, lcR_nat, r_lcS, n_non, n_bl, n_int, n_str, n_tup, n_rol, n_ref, b_non, b_bl, b_int, b_str, b_tup, b_rol, b_ref, eSetd, eItems, gmTup, gmCons, gmNil, dKey, eCall, eCallP, eDc, iSeq, wipeE, eUn, eIsi, eAnd, eOr, eNot, R.bind_ok, noX_ok, s_atI, s_atI0, s_atI1, s_atI2, s_atI3, s_atI4, s_atI5, s_add, s_sub, s_lt, s_le, s_gt, s_ge, s_isN, s_isB, s_eq_ii, s_eq_ss, s_eq_in, s_eq_ni, s_eq_nn, s_eq_sn, s_eq_ns, s_eq_bb, s_lenT, s_lenR, s_int, s_listT, s_listR, s_tupT, s_truB, s_truN, s_truI, s_truT, s_oB, s_itT, s_itR, s_inTI, s_inTS, s_isLst, r_in, r_inDi, r_inDs, inL_I, inL_S, r_ix, r_ixT, r_ixR, r_ixLi, r_ixDi, r_ixDs, r_len, r_list, r_tup, r_sort, r_tru, r_tyL, r_tyD, r_append, r_pop, r_extT, r_extR, r_it]) (by omega)
        have hn := nx_len bs (some g) x
        have en : (ways e).filter (fun y => decide ((some g : Option Nat) ≠ some y)) = nx bs (some g) x := by rw [nx, waysAt_of he]
        rw [en] at q
        have h2 : (td.map I).length + ((nx bs (some g) x).map I).length ≤ 16777216 := by simp; omega
        simp only [List.length_map] at h2
        have q' : lcM [some (B bs), some (D.int (g : Nat)), some (.ref 0), some (.ref 1), some (D.int (x : Nat)), none] (gmName 5) (eB (eOp (oEq true) (eVar 5) (eVar 1))) (eVar 5) (fun h' => isLst ((ways e).map I) h'[gb.length + 1 + 1]?) ((ways e).map I) [] (.dic false (fd (f ++ [x])) :: .lst (td.map I) :: (gb ++ [.lst ((ways e).map I)])) = _ := q
        refine ⟨[some (B bs), some (I g), some (.ref 0), some (.ref 1), some (I x), x5], .dic false (fd (f ++ [x])) :: .lst ((td ++ nx bs (some g) x).map I) :: (gb ++ [.lst ((ways e).map I)] ++ [.lst ((nx bs (some g) x).map I)]), ?_, by rw [if_neg hx]; exact ⟨some (I x), x5, _, rfl, rfl⟩⟩
        have hix := ixB (h := (.dic false (fd (f ++ [x])) :: .lst (td.map I) :: gb)) he
        simp only [I] at hix
        simp [bodyM, sSeq, s_thenNx, s_thenRt, s_loopNx, s_loopRt, s_loopCt, s_loopBk, sAsg, sRet, sRetN, sDrop, sNil, sPar, sBrk, sCnt, eVar, eC, eOp, gmName, gmSub, eCallB, aCons, aNil, eB, eIf, eTru, mAnd, mOr, mNot, mYes, eMeth, eTup, eLst, eL, eDict0, eDict1, r_for1, forR_nat, r_forS, r_lc1, lcR_nat, r_lcS, n_non, n_bl, n_int, n_str, n_tup, n_rol, n_ref, b_non, b_bl, b_int, b_str, b_tup, b_rol, b_ref, eSetd, eItems, gmTup, gmCons, gmNil, dKey, eCall, eCallP, eDc, iSeq, wipeE, eUn, eIsi, eAnd, eOr, eNot, R.bind_ok, noX_ok, s_atI, s_atI0, s_atI1, s_atI2, s_atI3, s_atI4, s_atI5, s_add, s_sub, s_lt, s_le, s_gt, s_ge, s_isN, s_isB, s_eq_ii, s_eq_ss, s_eq_in, s_eq_ni, s_eq_nn, s_eq_sn, s_eq_ns, s_eq_bb, s_lenT, s_lenR, s_int, s_listT, s_listR, s_tupT, s_truB, s_truN, s_truI, s_truT, s_oB, s_itT, s_itR, s_inTI, s_inTS, s_isLst, r_in, r_inDi, r_inDs, inL_I, inL_S, r_ix, r_ixT, r_ixR, r_ixLi, r_ixDi, r_ixDs, r_len, r_list, r_tup, r_sort, r_tru, r_tyL, r_tyD, r_append, r_pop, r_extT, r_extR, r_it, I, gt_fd, hx, fd_len, h1, szl, pt_fd, hix, runWays]
        rw [q']
        simp [bodyM, sSeq, s_thenNx, s_thenRt, s_loopNx, s_loopRt, s_loopCt, s_loopBk, sAsg, sRet, sRetN, sDrop, sNil, sPar, sBrk, sCnt, eVar, eC, eOp, gmName, gmSub, eCallB, aCons, aNil, eB, eIf, eTru, mAnd, mOr, mNot, mYes, eMeth, eTup, eLst, eL, eDict0, eDict1, r_for1, forR_nat, r_forS, r_lc1, lcR_nat, r_lcS, n_non, n_bl, n_int, n_str, n_tup, n_rol, n_ref, b_non, b_bl, b_int, b_str, b_tup, b_rol, b_ref, eSetd, eItems, gmTup, gmCons, gmNil, dKey, eCall, eCallP, eDc, iSeq, wipeE, eUn, eIsi, eAnd, eOr, eNot, R.bind_ok, noX_ok, s_atI, s_atI0, s_atI1, s_atI2, s_atI3, s_atI4, s_atI5, s_add, s_sub, s_lt, s_le, s_gt, s_ge, s_isN, s_isB, s_eq_ii, s_eq_ss, s_eq_in, s_eq_ni, s_eq_nn, s_eq_sn, s_eq_ns, s_eq_bb, s_lenT, s_lenR, s_int, s_listT, s_listR, s_tupT, s_truB, s_truN, s_truI, s_truT, s_oB, s_itT, s_itR, s_inTI, s_inTS, s_isLst, r_in, r_inDi, r_inDs, inL_I, inL_S, r_ix, r_ixT, r_ixR, r_ixLi, r_ixDi, r_ixDs, r_len, r_list, r_tup, r_sort, r_tru, r_tyL, r_tyD, r_append, r_pop, r_extT, r_extR, r_it, szl, h2])
    (fun x _ y hy => List.mem_range.mpr (nx_lt ok hy)) (fun x _ => nx_len bs _ x) 1000 [] (if g = 0 then [] else [0]) [some (B bs), some (I g), some (.ref 0), some (.ref 1), none, none] [.dic false (fd []), .lst ((if g = 0 then [] else [0]).map I)] (Nat.le_refl _) ⟨none, none, [], rfl, rfl⟩ (by simp) (by simp) (by split <;> simp [ok.1]) (by simp) (fun x hx => by split <;> simp_all) (by simp) (fun x hx => .base (by split at hx <;> simp_all)) (by split <;> simp <;> omega)
  obtain ⟨x4, x5, gb, rfl, rfl⟩ := st
  have hl : f.length < 64 := by have := nodup_len nd fu; simp at *; omega
  refine ⟨f, .dic false (fd f) :: .lst [] :: (gb ++ [.lst ((srtN f).map I)]), ?_, nd, fun x hx => List.mem_range.mp (fu x hx), fm⟩
  have e' : whileM (eTru (eVar 3)) (sSeq (sAsg (eMeth .l (eVar 3) aNil oPop) (gmName 4)) (eIf (eB (eOp (oIn true) (eVar 4) (eVar 2))) (sSeq (sAsg (eC (.bl true)) (gmSub (eVar 2) (eVar 4))) (sDrop (eMeth .l (eVar 3) (aCons (eL (lComp (iSeq (eCallP (aCons (eOp oIx (eVar 0) (eVar 4)) (aNil)) mWaysOf)) [5] (gmName 5) (eB (eOp (oEq true) (eVar 5) (eVar 1))) (eVar 5))) (aNil)) oExtend))) (sNil))) 1000 [some (B bs), some (D.int (g : Nat)), some (.ref 0), some (.ref 1), none, none] [.dic false [], .lst ((if g = 0 then [] else [0]).map I)] = _ := e
  by_cases hg : g = 0
  · subst hg
    rw [if_pos rfl] at e'
    simp only [List.map_nil] at e'
    simp [I] at e'
    simp [mMetWithout, bodyM, sSeq, s_thenNx, s_thenRt, s_loopNx, s_loopRt, s_loopCt, s_loopBk, sAsg, sRet, sRetN, sDrop, sNil, sPar, sBrk, sCnt, eVar, eC, eOp, gmName, gmSub, eCallB, aCons, aNil, eB, eIf, eTru, mAnd, mOr, mNot, mYes, eMeth, eTup, eLst, eL, eDict0, eDict1, r_for1, forR_nat, r_forS, r_lc1, lcR_nat, r_lcS, n_non, n_bl, n_int, n_str, n_tup, n_rol, n_ref, b_non, b_bl, b_int, b_str, b_tup, b_rol, b_ref, eSetd, eItems, gmTup, gmCons, gmNil, dKey, eCall, eCallP, eDc, iSeq, wipeE, eUn, eIsi, eAnd, eOr, eNot, R.bind_ok, noX_ok, s_atI, s_atI0, s_atI1, s_atI2, s_atI3, s_atI4, s_atI5, s_add, s_sub, s_lt, s_le, s_gt, s_ge, s_isN, s_isB, s_eq_ii, s_eq_ss, s_eq_in, s_eq_ni, s_eq_nn, s_eq_sn, s_eq_ns, s_eq_bb, s_lenT, s_lenR, s_int, s_listT, s_listR, s_tupT, s_truB, s_truN, s_truI, s_truT, s_oB, s_itT, s_itR, s_inTI, s_inTS, s_isLst, r_in, r_inDi, r_inDs, inL_I, inL_S, r_ix, r_ixT, r_ixR, r_ixLi, r_ixDi, r_ixDs, r_len, r_list, r_tup, r_sort, r_tru, r_tyL, r_tyD, r_append, r_pop, r_extT, r_extR, r_it, I, szl, keys_fd, sortL_N hl, e']
  · rw [if_neg hg] at e'
    have hg' : ¬ ((g : Int) = 0) := by omega
    simp only [List.map_cons, List.map_nil] at e'
    simp [I] at e'
    simp [mMetWithout, bodyM, sSeq, s_thenNx, s_thenRt, s_loopNx, s_loopRt, s_loopCt, s_loopBk, sAsg, sRet, sRetN, sDrop, sNil, sPar, sBrk, sCnt, eVar, eC, eOp, gmName, gmSub, eCallB, aCons, aNil, eB, eIf, eTru, mAnd, mOr, mNot, mYes, eMeth, eTup, eLst, eL, eDict0, eDict1, r_for1, forR_nat, r_forS, r_lc1, lcR_nat, r_lcS, n_non, n_bl, n_int, n_str, n_tup, n_rol, n_ref, b_non, b_bl, b_int, b_str, b_tup, b_rol, b_ref, eSetd, eItems, gmTup, gmCons, gmNil, dKey, eCall, eCallP, eDc, iSeq, wipeE, eUn, eIsi, eAnd, eOr, eNot, R.bind_ok, noX_ok, s_atI, s_atI0, s_atI1, s_atI2, s_atI3, s_atI4, s_atI5, s_add, s_sub, s_lt, s_le, s_gt, s_ge, s_isN, s_isB, s_eq_ii, s_eq_ss, s_eq_in, s_eq_ni, s_eq_nn, s_eq_sn, s_eq_ns, s_eq_bb, s_lenT, s_lenR, s_int, s_listT, s_listR, s_tupT, s_truB, s_truN, s_truI, s_truT, s_oB, s_itT, s_itR, s_inTI, s_inTS, s_isLst, r_in, r_inDi, r_inDs, inL_I, inL_S, r_ix, r_ixT, r_ixR, r_ixLi, r_ixDi, r_ixDs, r_len, r_list, r_tup, r_sort, r_tru, r_tyL, r_tyD, r_append, r_pop, r_extT, r_extR, r_it, I, hg, hg', szl, keys_fd, sortL_N hl, e']
end K04

namespace K04
open PySem L2 PM
/-! ### _law_met -/
def gD : Option Nat → D
  | none => .non
  | some n => I n
theorem pur_gD (g : Option Nat) : pur (gD g) = true := by cases g <;> rfl
def addW (g : Option Nat) (f : List Nat) (y : Nat) : List Nat := if g ≠ some y ∧ y ∉ f then f ++ [y] else f
theorem addW_mem (g : Option Nat) (f : List Nat) (y x : Nat) : x ∈ addW g f y ↔ x ∈ f ∨ (x = y ∧ g ≠ some y) := by
  unfold addW
  split
  · rename_i h; simp [h.1]
  · rename_i h
    constructor
    · exact .inl
    · rintro (a | ⟨rfl, b⟩)
      · exact a
      · by_cases q : x ∈ f
        · exact q
        · exact absurd ⟨b, q⟩ h
theorem addW_nd {g : Option Nat} {f : List Nat} {y : Nat} (h : f.Nodup) : (addW g f y).Nodup := by
  unfold addW
  split
  · rename_i q
    exact List.nodup_append.mpr ⟨h, by simp, fun a ha b hb e => q.2 (by rw [← List.mem_singleton.mp hb, ← e]; exact ha)⟩
  · exact h
def passM (bs : List End) (g : Option Nat) (f : List Nat) : List Nat := f.foldl (fun f x => (waysAt bs x).foldl (addW g) f) f
def OkF (bs : List End) (f : List Nat) : Prop := f.Nodup ∧ ∀ y ∈ f, y < bs.length
theorem OkF.len {bs : List End} {f : List Nat} (h : OkF bs f) : f.length ≤ bs.length := by
  have := nodup_len (m := List.range bs.length) h.1 fun x hx => List.mem_range.mpr (h.2 x hx)
  simpa using this
theorem okf_add {bs : List End} {g : Option Nat} {f : List Nat} {y : Nat} (h : OkF bs f) (hy : y < bs.length) : OkF bs (addW g f y) :=
  ⟨addW_nd h.1, fun x hx => by
    rcases (addW_mem g f y x).mp hx with q | ⟨rfl, _⟩
    · exact h.2 x q
    · exact hy⟩
theorem mem_ways (bs : List End) (g : Option Nat) (f : List Nat) (z x : Nat) : x ∈ (waysAt bs z).foldl (addW g) f ↔ x ∈ f ∨ x ∈ nx bs g z := by
  rw [fold_mem (N := fun y x => x = y ∧ g ≠ some y) (fun y _ s x => addW_mem g s y x)]
  unfold nx
  constructor
  · rintro (a | ⟨y, hy, rfl, b⟩)
    · exact .inl a
    · exact .inr (List.mem_filter.mpr ⟨hy, by simpa using b⟩)
  · rintro (a | a)
    · exact .inl a
    · have := List.mem_filter.mp a
      exact .inr ⟨x, this.1, rfl, by simpa using this.2⟩
theorem mem_pass (bs : List End) (g : Option Nat) (f : List Nat) (x : Nat) : x ∈ passM bs g f ↔ x ∈ f ∨ ∃ z ∈ f, x ∈ nx bs g z := by
  unfold passM
  rw [fold_mem (N := fun z x => x ∈ nx bs g z) (fun z _ s x => mem_ways bs g s z x)]
theorem okf_ways {bs : List End} (ok : okB bs) {g : Option Nat} {f : List Nat} (h : OkF bs f) (z : Nat) : OkF bs ((waysAt bs z).foldl (addW g) f) :=
  fold_inv (OkF bs) (fun y hy s hs => okf_add hs (waysAt_lt ok hy)) h
theorem okf_pass {bs : List End} (ok : okB bs) {g : Option Nat} {f : List Nat} (h : OkF bs f) : OkF bs (passM bs g f) :=
  fold_inv (OkF bs) (fun z _ s hs => okf_ways ok hs z) h
theorem ne_gD (g : Option Nat) (y : Nat) (h : AH) : oEq true (.int (y : Int)) (gD g) h = .ok (.bl (decide (g ≠ some y))) h := by
  cases g with
  | none => simp [gD, s_eq_in]
  | some n =>
    show oEq true (.int (y : Int)) (.int (n : Int)) h = _
    rw [s_eq_ii, ne_int]
theorem lenB (bs : List End) (h : AH) : oLen [B bs] h = .ok (.int bs.length) h := by unfold B; rw [s_lenT, List.length_map]
abbrev mIn : SM := eIf (mAnd (eB (eOp (oEq true) (eVar 5) (eVar 1))) (eB (eOp (oIn true) (eVar 5) (eVar 2)))) (sDrop (eMeth .l (eVar 2) (aCons (eVar 5) (aNil)) oAppend)) (sNil)
theorem mIn_run {bs : List End} (ok : okB bs) {g : Option Nat} {x3 x4 x5 : Option D} {f gb} (hf : OkF bs f) (y : Nat) : mIn [some (B bs), some (gD g), some (.ref 0), x3, x4, some (I y)] (.lst (f.map I) :: gb) = .ok (.nx [some (B bs), some (gD g), some (.ref 0), x3, x4, some (I y)]) (.lst ((addW g f y).map I) :: gb) := by
  have h9 := ok.2.1
  have hl := hf.len
  have h1 : f.length < 16777216 := by omega
  unfold addW
  by_cases hg : g = some y
  · simp [bodyM, sSeq, s_thenNx, s_thenRt, s_loopNx, s_loopRt, s_loopCt, s_loopBk, sAsg, sRet, sRetN, sDrop, sNil, sPar, sBrk, sCnt, eVar, eC, eOp, gmName, gmSub, eCallB, aCons, aNil, eB, eIf, eTru, mAnd, mOr, mNot, mYes, eMeth, eTup, eLst, eL, eDict0, eDict1, r_for1, forR_nat, r_forS, r_lc1, lcR_nat, r_lcS, n_non, n_bl, n_int, n_str, n_tup, n_rol, n_ref, b_non, b_bl, b_int, b_str, b_tup, b_rol, b_ref, eSetd, eItems, gmTup, gmCons, gmNil, dKey, eCall, eCallP, eDc, iSeq, wipeE, eUn, eIsi, eAnd, eOr, eNot, R.bind_ok, noX_ok, s_atI, s_atI0, s_atI1, s_atI2, s_atI3, s_atI4, s_atI5, s_add, s_sub, s_lt, s_le, s_gt, s_ge, s_isN, s_isB, s_eq_ii, s_eq_ss, s_eq_in, s_eq_ni, s_eq_nn, s_eq_sn, s_eq_ns, s_eq_bb, s_lenT, s_lenR, s_int, s_listT, s_listR, s_tupT, s_truB, s_truN, s_truI, s_truT, s_oB, s_itT, s_itR, s_inTI, s_inTS, s_isLst, r_in, r_inDi, r_inDs, inL_I, inL_S, r_ix, r_ixT, r_ixR, r_ixLi, r_ixDi, r_ixDs, r_len, r_list, r_tup, r_sort, r_tru, r_tyL, r_tyD, r_append, r_pop, r_extT, r_extR, r_it, I, ne_gD, hg]
  · by_cases hy : y ∈ f
    · simp [bodyM, sSeq, s_thenNx, s_thenRt, s_loopNx, s_loopRt, s_loopCt, s_loopBk, sAsg, sRet, sRetN, sDrop, sNil, sPar, sBrk, sCnt, eVar, eC, eOp, gmName, gmSub, eCallB, aCons, aNil, eB, eIf, eTru, mAnd, mOr, mNot, mYes, eMeth, eTup, eLst, eL, eDict0, eDict1, r_for1, forR_nat, r_forS, r_lc1, lcR_nat, r_lcS, n_non, n_bl, n_int, n_str, n_tup, n_rol, n_ref, b_non, b_bl, b_int, b_str, b_tup, b_rol, b_ref, eSetd, eItems, gmTup, gmCons, gmNil, dKey, eCall, eCallP, eDc, iSeq, wipeE, eUn, eIsi, eAnd, eOr, eNot, R.bind_ok, noX_ok, s_atI, s_atI0, s_atI1, s_atI2, s_atI3, s_atI4, s_atI5, s_add, s_sub, s_lt, s_le, s_gt, s_ge, s_isN, s_isB, s_eq_ii, s_eq_ss, s_eq_in, s_eq_ni, s_eq_nn, s_eq_sn, s_eq_ns, s_eq_bb, s_lenT, s_lenR, s_int, s_listT, s_listR, s_tupT, s_truB, s_truN, s_truI, s_truT, s_oB, s_itT, s_itR, s_inTI, s_inTS, s_isLst, r_in, r_inDi, r_inDs, inL_I, inL_S, r_ix, r_ixT, r_ixR, r_ixLi, r_ixDi, r_ixDs, r_len, r_list, r_tup, r_sort, r_tru, r_tyL, r_tyD, r_append, r_pop, r_extT, r_extR, r_it, I, ne_gD, hg, inL_N, hy]
    · simp [bodyM, sSeq, s_thenNx, s_thenRt, s_loopNx, s_loopRt, s_loopCt, s_loopBk, sAsg, sRet, sRetN, sDrop, sNil, sPar, sBrk, sCnt, eVar, eC, eOp, gmName, gmSub, eCallB, aCons, aNil, eB, eIf, eTru, mAnd, mOr, mNot, mYes, eMeth, eTup, eLst, eL, eDict0, eDict1, r_for1, forR_nat, r_forS, r_lc1, lcR_nat, r_lcS, n_non, n_bl, n_int, n_str, n_tup, n_rol, n_ref, b_non, b_bl, b_int, b_str, b_tup, b_rol, b_ref, eSetd, eItems, gmTup, gmCons, gmNil, dKey, eCall, eCallP, eDc, iSeq, wipeE, eUn, eIsi, eAnd, eOr, eNot, R.bind_ok, noX_ok, s_atI, s_atI0, s_atI1, s_atI2, s_atI3, s_atI4, s_atI5, s_add, s_sub, s_lt, s_le, s_gt, s_ge, s_isN, s_isB, s_eq_ii, s_eq_ss, s_eq_in, s_eq_ni, s_eq_nn, s_eq_sn, s_eq_ns, s_eq_bb, s_lenT, s_lenR, s_int, s_listT, s_listR, s_tupT, s_truB, s_truN, s_truI, s_truT, s_oB, s_itT, s_itR, s_inTI, s_inTS, s_isLst, r_in, r_inDi, r_inDs, inL_I, inL_S, r_ix, r_ixT, r_ixR, r_ixLi, r_ixDi, r_ixDs, r_len, r_list, r_tup, r_sort, r_tru, r_tyL, r_tyD, r_append, r_pop, r_extT, r_extR, r_it, I, ne_gD, hg, inL_N, hy, szl, h1]
abbrev mMid : SM := sFor (iSeq (eCallP (aCons (eOp oIx (eVar 0) (eVar 4)) (aNil)) mLawWays)) (gmName 5) mIn
theorem mMid_run {bs : List End} (ok : okB bs) {g : Option Nat} {x3 x5 : Option D} {f gb} (hf : OkF bs f) {x : Nat} (hx : x < bs.length) : ∃ x5' gb', mMid [some (B bs), some (gD g), some (.ref 0), x3, some (I x), x5] (.lst (f.map I) :: gb) = .ok (.nx [some (B bs), some (gD g), some (.ref 0), x3, some (I x), x5']) (.lst (((waysAt bs x).foldl (addW g) f).map I) :: (gb ++ gb')) := by
  obtain ⟨e, he⟩ := blk_at hx
  obtain ⟨env', h', q, hf', x5', e1, e2⟩ := for_fold (F := I) (g := gmName 5) (b := mIn) (chk := fun h' => isLst ((ways e).map I) h'[gb.length + 1]?) (addW g)
    (fun f env h => OkF bs f ∧ ∃ x5, env = [some (B bs), some (gD g), some (.ref 0), x3, some (I x), x5] ∧ h = .lst (f.map I) :: (gb ++ [.lst ((ways e).map I)]))
    (fun f env h ⟨_, x5, _, e2⟩ => by subst e2; simp [isLst]) (ways e)
    (fun y hy f env h ⟨hf, x5, e1, e2⟩ => by
      subst e1 e2
      exact ⟨_, _, _, _, rfl, mIn_run ok (x5 := x5) hf y, okf_add hf (ok.2.2 e (List.mem_of_getElem? he) y hy), some (I y), rfl, rfl⟩)
    f [some (B bs), some (gD g), some (.ref 0), x3, some (I x), x5] (.lst (f.map I) :: (gb ++ [.lst ((ways e).map I)])) ⟨hf, x5, rfl, rfl⟩
  subst e1 e2
  refine ⟨x5', [.lst ((ways e).map I)], ?_⟩
  rw [waysAt_of he, ← q]
  have hix := ixB (h := (.lst (f.map I) :: gb)) he
  simp only [I] at hix
  simp [bodyM, sSeq, s_thenNx, s_thenRt, s_loopNx, s_loopRt, s_loopCt, s_loopBk, sAsg, sRet, sRetN, sDrop, sNil, sPar, sBrk, sCnt, eVar, eC, eOp, gmName, gmSub, eCallB, aCons, aNil, eB, eIf, eTru, mAnd, mOr, mNot, mYes, eMeth, eTup, eLst, eL, eDict0, eDict1, r_for1, forR_nat, r_forS, r_lc1, lcR_nat, r_lcS, n_non, n_bl, n_int, n_str, n_tup, n_rol, n_ref, b_non, b_bl, b_int, b_str, b_tup, b_rol, b_ref, eSetd, eItems, gmTup, gmCons, gmNil, dKey, eCall, eCallP, eDc, iSeq, wipeE, eUn, eIsi, eAnd, eOr, eNot, R.bind_ok, noX_ok, s_atI, s_atI0, s_atI1, s_atI2, s_atI3, s_atI4, s_atI5, s_add, s_sub, s_lt, s_le, s_gt, s_ge, s_isN, s_isB, s_eq_ii, s_eq_ss, s_eq_in, s_eq_ni, s_eq_nn, s_eq_sn, s_eq_ns, s_eq_bb, s_lenT, s_lenR, s_int, s_listT, s_listR, s_tupT, s_truB, s_truN, s_truI, s_truT, s_oB, s_itT, s_itR, s_inTI, s_inTS, s_isLst, r_in, r_inDi, r_inDs, inL_I, inL_S, r_ix, r_ixT, r_ixR, r_ixLi, r_ixDi, r_ixDs, r_len, r_list, r_tup, r_sort, r_tru, r_tyL, r_tyD, r_append, r_pop, r_extT, r_extR, r_it, I, hix, runLawWays]
abbrev mOut : SM := sFor (iSeq (eCallB (aCons (eVar 2) (aNil)) oList)) (gmName 4) mMid
theorem mOut_run {bs : List End} (ok : okB bs) {g : Option Nat} {x3 x4 x5 : Option D} {f gb} (hf : OkF bs f) : ∃ x4' x5' gb', mOut [some (B bs), some (gD g), some (.ref 0), x3, x4, x5] (.lst (f.map I) :: gb) = .ok (.nx [some (B bs), some (gD g), some (.ref 0), x3, x4', x5']) (.lst ((passM bs g f).map I) :: gb') := by
  obtain ⟨env', h', q, hf', x4', x5', gb', e1, e2⟩ := for_fold (F := I) (g := gmName 4) (b := mMid) (chk := fun h' => isLst (f.map I) h'[gb.length + 1]?) (fun f x => (waysAt bs x).foldl (addW g) f)
    (fun f2 env h => OkF bs f2 ∧ ∃ x4 x5 gb2, env = [some (B bs), some (gD g), some (.ref 0), x3, x4, x5] ∧ h = .lst (f2.map I) :: (gb ++ .lst (f.map I) :: gb2))
    (fun f2 env h ⟨_, x4, x5, gb2, _, e2⟩ => by subst e2; simp [isLst]) f
    (fun x hx f2 env h ⟨hf2, x4, x5, gb2, e1, e2⟩ => by
      subst e1 e2
      obtain ⟨x5', gb', q⟩ := mMid_run ok (g := g) (x3 := x3) (x5 := x5) (gb := gb ++ .lst (f.map I) :: gb2) hf2 (hf.2 x hx)
      exact ⟨_, _, _, _, rfl, q, okf_ways ok hf2 x, some (I x), x5', gb2 ++ gb', rfl, by simp⟩)
    f [some (B bs), some (gD g), some (.ref 0), x3, x4, x5] (.lst (f.map I) :: (gb ++ [.lst (f.map I)])) ⟨hf, x4, x5, [], rfl, rfl⟩
  subst e1 e2
  refine ⟨x4', x5', gb ++ .lst (f.map I) :: gb', ?_⟩
  unfold passM
  rw [← q]
  simp [bodyM, sSeq, s_thenNx, s_thenRt, s_loopNx, s_loopRt, s_loopCt, s_loopBk, sAsg, sRet, sRetN, sDrop, sNil, sPar, sBrk, sCnt, eVar, eC, eOp, gmName, gmSub, eCallB, aCons, aNil, eB, eIf, eTru, mAnd, mOr, mNot, mYes, eMeth, eTup, eLst, eL, eDict0, eDict1, r_for1, forR_nat, r_forS, r_lc1, lcR_nat, r_lcS, n_non, n_bl, n_int, n_str, n_tup, n_rol, n_ref, b_non, b_bl, b_int, b_str, b_tup, b_rol, b_ref, eSetd, eItems, gmTup, gmCons, gmNil, dKey, eCall, eCallP, eDc, iSeq, wipeE, eUn, eIsi, eAnd, eOr, eNot, R.bind_ok, noX_ok, s_atI, s_atI0, s_atI1, s_atI2, s_atI3, s_atI4, s_atI5, s_add, s_sub, s_lt, s_le, s_gt, s_ge, s_isN, s_isB, s_eq_ii, s_eq_ss, s_eq_in, s_eq_ni, s_eq_nn, s_eq_sn, s_eq_ns, s_eq_bb, s_lenT, s_lenR, s_int, s_listT, s_listR, s_tupT, s_truB, s_truN, s_truI, s_truT, s_oB, s_itT, s_itR, s_inTI, s_inTS, s_isLst, r_in, r_inDi, r_inDs, inL_I, inL_S, r_ix, r_ixT, r_ixR, r_ixLi, r_ixDi, r_ixDs, r_len, r_list, r_tup, r_sort, r_tru, r_tyL, r_tyD, r_append, r_pop, r_extT, r_extR, r_it]
def itM (bs : List End) (g : Option Nat) : Nat → List Nat
  | 0 => if g = some 0 then [] else [0]
  | n + 1 => passM bs g (itM bs g n)
theorem foldl_range_it (bs : List End) (g : Option Nat) : ∀ n, (List.range n).foldl (fun f _ => passM bs g f) (itM bs g 0) = itM bs g n
  | 0 => rfl
  | n + 1 => by rw [List.range_succ, List.foldl_append, foldl_range_it bs g n]; rfl
theorem okf_it {bs : List End} (ok : okB bs) (g : Option Nat) : ∀ n, OkF bs (itM bs g n)
  | 0 => by unfold itM; split <;> simp [OkF, ok.1]
  | n + 1 => okf_pass ok (okf_it ok g n)
theorem metLoop {bs : List End} (ok : okB bs) (g : Option Nat) : ∃ x3 x4 x5 gb, PM.forM (gmName 3) mOut (fun _ => true) ((List.range bs.length).map fun i => D.int ((i : Nat) : Int)) [some (B bs), some (gD g), some (.ref 0), none, none, none] [.lst ((itM bs g 0).map I)] = .ok (.nx [some (B bs), some (gD g), some (.ref 0), x3, x4, x5]) (.lst ((itM bs g bs.length).map I) :: gb) := by
  obtain ⟨env', h', q, hf', x3, x4, x5, gb, e1, e2⟩ := for_fold (F := fun i : Nat => D.int ((i : Nat) : Int)) (g := gmName 3) (b := mOut) (chk := fun _ => true) (fun f _ => passM bs g f)
    (fun f2 env h => OkF bs f2 ∧ ∃ x3 x4 x5 gb2, env = [some (B bs), some (gD g), some (.ref 0), x3, x4, x5] ∧ h = .lst (f2.map I) :: gb2)
    (fun f2 env h _ => rfl) (List.range bs.length)
    (fun x hx f2 env h ⟨hf2, x3, x4, x5, gb2, e1, e2⟩ => by
      subst e1 e2
      obtain ⟨x4', x5', gb', q⟩ := mOut_run ok (g := g) (x3 := some (.int (x : Int))) (x4 := x4) (x5 := x5) (gb := gb2) hf2
      exact ⟨_, _, _, _, rfl, q, okf_pass ok hf2, some (.int (x : Int)), x4', x5', gb', rfl, rfl⟩)
    (itM bs g 0) [some (B bs), some (gD g), some (.ref 0), none, none, none] [.lst ((itM bs g 0).map I)] ⟨okf_it ok g 0, none, none, none, [], rfl, rfl⟩
  subst e1 e2
  rw [foldl_range_it] at q
  exact ⟨x3, x4, x5, gb, q⟩
theorem metSet {bs : List End} (ok : okB bs) (g : Option Nat) : (itM bs g bs.length).Nodup ∧ (∀ x ∈ itM bs g bs.length, x < bs.length) ∧ ∀ x, x ∈ itM bs g bs.length ↔ Met bs g x := by
  obtain ⟨z1, z2, z3⟩ := passes (U := List.range bs.length) (S := fun x => x = 0 ∧ g ≠ some 0) (succ := nx bs g) (itM bs g) (fun i nd fu fc => by
      have hf : OkF bs (itM bs g i) := okf_it ok g i
      refine ⟨(okf_pass ok hf).1, fun y hy => List.mem_range.mpr ((okf_pass ok hf).2 y hy), fun y hy => ?_, fun y hy => (mem_pass bs g _ y).mpr (.inl hy), fun x hx y hy => (mem_pass bs g _ y).mpr (.inr ⟨x, hx, hy⟩)⟩
      rcases (mem_pass bs g _ y).mp hy with a | ⟨z, hz, a⟩
      · exact fc y a
      · exact .step (fc z hz) a)
    (okf_it ok g 0).1 (fun y hy => List.mem_range.mpr ((okf_it ok g 0).2 y hy)) (fun y hy => .base (by unfold itM at hy; split at hy <;> simp_all)) (fun x hx => by unfold itM; simp [hx.1, hx.2]) (n := bs.length) (by simp)
  exact ⟨z1, fun x hx => List.mem_range.mp (z2 x hx), z3⟩
theorem lawMet_run {bs : List End} (ok : okB bs) (g : Option Nat) : ∃ h' k, mLawMet [B bs, gD g] [] = .ok (.ref k) h' ∧ h'[k]? = some (.lst ((srtN (itM bs g bs.length)).map I)) := by
  obtain ⟨x3, x4, x5, gb, q⟩ := metLoop ok g
  have h9 := ok.2.1
  have hl64 : (itM bs g bs.length).length < 64 := by have := (okf_it ok g bs.length).len; omega
  have hb : SmN bs.length := by unfold SmN; omega
  refine ⟨.lst ((itM bs g bs.length).map I) :: (gb ++ [.lst ((srtN (itM bs g bs.length)).map I)]), gb.length + 1, ?_, by simp⟩
  have e0 : eIf (eB (eOp (oEq true) (eVar 1) (eC (.int 0)))) (eLst (aCons (eC (.int 0)) (aNil))) (eLst (aNil)) [some (B bs), some (gD g), none, none, none, none] [] = .ok (.ref 0) [.lst ((itM bs g 0).map I)] := by
    cases g with
    | none => simp [bodyM, sSeq, s_thenNx, s_thenRt, s_loopNx, s_loopRt, s_loopCt, s_loopBk, sAsg, sRet, sRetN, sDrop, sNil, sPar, sBrk, sCnt, eVar, eC, eOp, gmName, gmSub, eCallB, aCons, aNil, eB, eIf, eTru, mAnd, mOr, mNot, mYes, eMeth, eTup, eLst, eL, eDict0, eDict1, r_for1, forR_nat, r_forS, r_lc1, lcR_nat, r_lcS, n_non, n_bl, n_int, n_str, n_tup, n_rol, n_ref, b_non, b_bl, b_int, b_str, b_tup, b_rol, b_ref, eSetd, eItems, gmTup, gmCons, gmNil, dKey, eCall, eCallP, eDc, iSeq, wipeE, eUn, eIsi, eAnd, eOr, eNot, R.bind_ok, noX_ok, s_atI, s_atI0, s_atI1, s_atI2, s_atI3, s_atI4, s_atI5, s_add, s_sub, s_lt, s_le, s_gt, s_ge, s_isN, s_isB, s_eq_ii, s_eq_ss, s_eq_in, s_eq_ni, s_eq_nn, s_eq_sn, s_eq_ns, s_eq_bb, s_lenT, s_lenR, s_int, s_listT, s_listR, s_tupT, s_truB, s_truN, s_truI, s_truT, s_oB, s_itT, s_itR, s_inTI, s_inTS, s_isLst, r_in, r_inDi, r_inDs, inL_I, inL_S, r_ix, r_ixT, r_ixR, r_ixLi, r_ixDi, r_ixDs, r_len, r_list, r_tup, r_sort, r_tru, r_tyL, r_tyD, r_append, r_pop, r_extT, r_extR, r_it, gD, itM, I, szl]
    | some n =>
      by_cases hn : n = 0
      · subst hn; simp [bodyM, sSeq, s_thenNx, s_thenRt, s_loopNx, s_loopRt, s_loopCt, s_loopBk, sAsg, sRet, sRetN, sDrop, sNil, sPar, sBrk, sCnt, eVar, eC, eOp, gmName, gmSub, eCallB, aCons, aNil, eB, eIf, eTru, mAnd, mOr, mNot, mYes, eMeth, eTup, eLst, eL, eDict0, eDict1, r_for1, forR_nat, r_forS, r_lc1, lcR_nat, r_lcS, n_non, n_bl, n_int, n_str, n_tup, n_rol, n_ref, b_non, b_bl, b_int, b_str, b_tup, b_rol, b_ref, eSetd, eItems, gmTup, gmCons, gmNil, dKey, eCall, eCallP, eDc, iSeq, wipeE, eUn, eIsi, eAnd, eOr, eNot, R.bind_ok, noX_ok, s_atI, s_atI0, s_atI1, s_atI2, s_atI3, s_atI4, s_atI5, s_add, s_sub, s_lt, s_le, s_gt, s_ge, s_isN, s_isB, s_eq_ii, s_eq_ss, s_eq_in, s_eq_ni, s_eq_nn, s_eq_sn, s_eq_ns, s_eq_bb, s_lenT, s_lenR, s_int, s_listT, s_listR, s_tupT, s_truB, s_truN, s_truI, s_truT, s_oB, s_itT, s_itR, s_inTI, s_inTS, s_isLst, r_in, r_inDi, r_inDs, inL_I, inL_S, r_ix, r_ixT, r_ixR, r_ixLi, r_ixDi, r_ixDs, r_len, r_list, r_tup, r_sort, r_tru, r_tyL, r_tyD, r_append, r_pop, r_extT, r_extR, r_it, gD, itM, I, szl]
      · have hn' : ¬ ((n : Int) = 0) := by omega
        simp [bodyM, sSeq, s_thenNx, s_thenRt, s_loopNx, s_loopRt, s_loopCt, s_loopBk, sAsg, sRet, sRetN, sDrop, sNil, sPar, sBrk, sCnt, eVar, eC, eOp, gmName, gmSub, eCallB, aCons, aNil, eB, eIf, eTru, mAnd, mOr, mNot, mYes, eMeth, eTup, eLst, eL, eDict0, eDict1, r_for1, forR_nat, r_forS, r_lc1, lcR_nat, r_lcS, n_non, n_bl, n_int, n_str, n_tup, n_rol, n_ref, b_non, b_bl, b_int, b_str, b_tup, b_rol, b_ref, eSetd, eItems, gmTup, gmCons, gmNil, dKey, eCall, eCallP, eDc, iSeq, wipeE, eUn, eIsi, eAnd, eOr, eNot, R.bind_ok, noX_ok, s_atI, s_atI0, s_atI1, s_atI2, s_atI3, s_atI4, s_atI5, s_add, s_sub, s_lt, s_le, s_gt, s_ge, s_isN, s_isB, s_eq_ii, s_eq_ss, s_eq_in, s_eq_ni, s_eq_nn, s_eq_sn, s_eq_ns, s_eq_bb, s_lenT, s_lenR, s_int, s_listT, s_listR, s_tupT, s_truB, s_truN, s_truI, s_truT, s_oB, s_itT, s_itR, s_inTI, s_inTS, s_isLst, r_in, r_inDi, r_inDs, inL_I, inL_S, r_ix, r_ixT, r_ixR, r_ixLi, r_ixDi, r_ixDs, r_len, r_list, r_tup, r_sort, r_tru, r_tyL, r_tyD, r_append, r_pop, r_extT, r_extR, r_it, gD, itM, I, szl, hn, hn']
  show bodyM 6 (sSeq (sAsg (eIf (eB (eOp (oEq true) (eVar 1) (eC (.int 0)))) (eLst (aCons (eC (.int 0)) (aNil))) (eLst (aNil))) (gmName 2)) (sSeq (sFor (iRange1 (aCons (eCallB (aCons (eVar 0) (aNil)) oLen) (aNil))) (gmName 3) mOut) (sRet (eCallB (aCons (eVar 2) (aNil)) oSorted)))) [B bs, gD g] [] = _
  generalize eIf (eB (eOp (oEq true) (eVar 1) (eC (.int 0)))) (eLst (aCons (eC (.int 0)) (aNil))) (eLst (aNil)) = E at e0
  generalize mOut = M at q
  simp [bodyM, sSeq, s_thenNx, s_thenRt, s_loopNx, s_loopRt, s_loopCt, s_loopBk, sAsg, sRet, sRetN, sDrop, sNil, sPar, sBrk, sCnt, eVar, eC, eOp, gmName, gmSub, eCallB, aCons, aNil, eB, eIf, eTru, mAnd, mOr, mNot, mYes, eMeth, eTup, eLst, eL, eDict0, eDict1, r_for1, forR_nat, r_forS, r_lc1, lcR_nat, r_lcS, n_non, n_bl, n_int, n_str, n_tup, n_rol, n_ref, b_non, b_bl, b_int, b_str, b_tup, b_rol, b_ref, eSetd, eItems, gmTup, gmCons, gmNil, dKey, eCall, eCallP, eDc, iSeq, wipeE, eUn, eIsi, eAnd, eOr, eNot, R.bind_ok, noX_ok, s_atI, s_atI0, s_atI1, s_atI2, s_atI3, s_atI4, s_atI5, s_add, s_sub, s_lt, s_le, s_gt, s_ge, s_isN, s_isB, s_eq_ii, s_eq_ss, s_eq_in, s_eq_ni, s_eq_nn, s_eq_sn, s_eq_ns, s_eq_bb, s_lenT, s_lenR, s_int, s_listT, s_listR, s_tupT, s_truB, s_truN, s_truI, s_truT, s_oB, s_itT, s_itR, s_inTI, s_inTS, s_isLst, r_in, r_inDi, r_inDs, inL_I, inL_S, r_ix, r_ixT, r_ixR, r_ixLi, r_ixDi, r_ixDs, r_len, r_list, r_tup, r_sort, r_tru, r_tyL, r_tyD, r_append, r_pop, r_extT, r_extR, r_it, e0, lenB, hb, q, sortL_N hl64]
end K04

namespace K04
open PySem L2 PM
/-- what is met, in order -/
def met (bs : List End) (g : Option Nat) : List Nat := srtN (itM bs g bs.length)
theorem met_ok {bs : List End} (ok : okB bs) (g : Option Nat) : OkF bs (met bs g) := by
  obtain ⟨a, b, _⟩ := metSet ok g
  exact ⟨srtN_nodup a, fun y hy => b y ((srtN_mem _ _).mp hy)⟩
theorem met_mem {bs : List End} (ok : okB bs) (g : Option Nat) (x : Nat) : x ∈ met bs g ↔ Met bs g x := ((srtN_mem _ _)).trans ((metSet ok g).2.2 x)
theorem met_of {bs : List End} (ok : okB bs) {g : Option Nat} {f : List Nat} (nd : f.Nodup) (h : ∀ x, x ∈ f ↔ Met bs g x) : srtN f = met bs g :=
  srtN_set nd (metSet ok g).1 fun x => (h x).trans ((metSet ok g).2.2 x).symm
theorem pur_map_I (f : List Nat) : purs (f.map I) = true := purs_map pur_I f
theorem run_reach {bs : List End} (ok : okB bs) (h : AH) : runP mReach [B bs] h = .ok (.tup ((met bs none).map I)) h := by
  obtain ⟨f, h', e, nd, _, fm⟩ := reach_run ok
  rw [met_of ok nd fm] at e
  exact s_runP (by simp [purs, pur_B]) e (pur_map_I _)
theorem run_metW {bs : List End} (ok : okB bs) (g : Nat) (h : AH) : runP mMetWithout [B bs, I g] h = .ok (.tup ((met bs (some g)).map I)) h := by
  obtain ⟨f, h', e, nd, _, fm⟩ := metW_run ok g
  rw [met_of ok nd fm] at e
  exact s_runP (by simp [purs, pur_B, pur_I]) e (pur_map_I _)
theorem run_lawMet {bs : List End} (ok : okB bs) (g : Option Nat) (h : AH) : runP mLawMet [B bs, gD g] h = .ok (.ref h.length) (h ++ [.lst ((met bs g).map I)]) := by
  obtain ⟨h', k, e, ek⟩ := lawMet_run ok g
  exact s_runL (by simp [purs, pur_B, pur_gD]) e ek (pur_map_I _)
/-! ### dicts by labels -/
def kN (n : Nat) : Key := .inl (n : Int)
theorem kN_inj {a b : Nat} (h : kN a = kN b) : a = b := by have := Sum.inl.inj h; omega
def dN (F : Nat → D) (L : List Nat) : List (Key × D) := L.map fun l => (kN l, F l)
theorem gt_dN (F : Nat → D) (l : Nat) : ∀ L : List Nat, gtD (dN F L) (kN l) = if l ∈ L then some (F l) else none
  | [] => rfl
  | m :: L => by
    show (if kN m = kN l then some (F m) else gtD (dN F L) (kN l)) = _
    by_cases e : m = l
    · subst e; simp
    · have e2 : ¬ kN m = kN l := fun z => e (kN_inj z)
      have e3 : ¬ l = m := fun z => e z.symm
      rw [if_neg e2, gt_dN F l L]
      simp [e3]
theorem pt_dN {F : Nat → D} {l : Nat} {L : List Nat} (h : l ∉ L) : ptD (dN F L) (kN l) (F l) = dN F (L ++ [l]) := by
  unfold ptD
  rw [gt_dN, if_neg h]
  simp [dN]
theorem dN_len (F : Nat → D) (L : List Nat) : (dN F L).length = L.length := by simp [dN]
theorem dN_pur {F : Nat → D} (hF : ∀ l, pur (F l) = true) (L : List Nat) : ((dN F L).all fun p => pur p.2) = true := by
  simp [dN, hF]
theorem get_at {β : Type} (A : List β) (a : β) (R : List β) : (A ++ a :: R)[A.length]? = some a := by simp
theorem set_at {β : Type} (A : List β) (a x : β) (R : List β) : (A ++ a :: R).set A.length x = A ++ x :: R := by simp
theorem take_succ' {α : Type} {L : List α} {i : Nat} {x : α} (h : L[i]? = some x) : L.take (i + 1) = L.take i ++ [x] := by
  rw [List.take_add_one, h]; rfl
theorem notin_take {L : List Nat} (nd : L.Nodup) {i x : Nat} (h : L[i]? = some x) : x ∉ L.take i := fun z => by
  obtain ⟨hi, e⟩ := List.getElem?_eq_some_iff.mp h
  obtain ⟨j, hj, e2⟩ := List.mem_iff_getElem.mp z
  rw [List.length_take] at hj
  rw [List.getElem_take] at e2
  have := (List.getElem_inj nd).mp (e2.trans e.symm)
  omega
/-- labels by their lists' numbers -/
def kv (L : List Nat) : List (Key × D) := dN (fun l => .ref (L.idxOf l)) L
theorem idx_of {L : List Nat} (nd : L.Nodup) {i x : Nat} (h : L[i]? = some x) : L.idxOf x = i := by
  obtain ⟨hi, e⟩ := List.getElem?_eq_some_iff.mp h
  subst e
  exact nd.idxOf_getElem i hi
/-! ### over -/
def lies (bs : List End) (l g : Nat) : Bool := decide (l ≠ g) && !decide (l ∈ met bs (some g))
def abv (bs : List End) (l : Nat) : List Nat := (met bs none).filter (lies bs l)
theorem abv_mem {bs : List End} {l x : Nat} (h : x ∈ abv bs l) : x ∈ met bs none := (List.mem_filter.mp h).1
def selO (bs : List End) (done : List Nat) (l : Nat) : Ob := .lst ((done.filter (lies bs l)).map I)
def blI (b : Bool) : D := .bl b
abbrev oIn1 : SM := eIf (mAnd (eB (eOp (oEq true) (eVar 5) (eVar 3))) (eB (eOp (oIn true) (eVar 5) (eVar 4)))) (sDrop (eMeth .l (eOp oIx (eVar 2) (eVar 5)) (aCons (eVar 3) (aNil)) oAppend)) (sNil)
theorem overIn {bs : List End} (ok : okB bs) {done : List Nat} {g : Nat} {x5 : Option D} {gb : List Ob} (hd : done.length < 1000) :
    ∃ x5', PM.forM (gmName 5) oIn1 (fun _ => true) ((met bs none).map I) [some (B bs), some (.tup ((met bs none).map I)), some (.ref (met bs none).length), some (I g), some (.tup ((met bs (some g)).map I)), x5] ((met bs none).map (selO bs done) ++ .dic false (kv (met bs none)) :: gb) =
      .ok (.nx [some (B bs), some (.tup ((met bs none).map I)), some (.ref (met bs none).length), some (I g), some (.tup ((met bs (some g)).map I)), x5']) ((met bs none).map (selO bs (done ++ [g])) ++ .dic false (kv (met bs none)) :: gb) := by
  have okm := met_ok ok none
  generalize hL : met bs none = L at okm
  have hl9 : L.length < 1000 := by have := okm.len; have := ok.2.1; omega
  obtain ⟨env', h', q, x5', e1, e2⟩ := for_run (xs := L) (F := I) (g := gmName 5) (b := oIn1) (chk := fun _ => true)
    (fun i env h => ∃ x5, env = [some (B bs), some (.tup (L.map I)), some (.ref L.length), some (I g), some (.tup ((met bs (some g)).map I)), x5] ∧ h = (L.take i).map (selO bs (done ++ [g])) ++ (L.drop i).map (selO bs done) ++ .dic false (kv L) :: gb)
    (fun _ _ _ _ _ => rfl)
    (fun i l hi env h ⟨x5, e1, e2⟩ => by
      subst e1 e2
      have hlt := (List.getElem?_eq_some_iff.mp hi).1
      have hld : L.drop i = l :: L.drop (i + 1) := by
        rw [List.drop_eq_getElem_cons hlt]
        congr 1
        exact (List.getElem?_eq_some_iff.mp hi).2
      have hmem : l ∈ L := List.mem_of_getElem? hi
      have hti : (L.take i).length = i := by rw [List.length_take]; omega
      refine ⟨_, _, [some (B bs), some (.tup (L.map I)), some (.ref L.length), some (I g), some (.tup ((met bs (some g)).map I)), some (I l)], (L.take (i + 1)).map (selO bs (done ++ [g])) ++ (L.drop (i + 1)).map (selO bs done) ++ .dic false (kv L) :: gb, rfl, ?_, some (I l), rfl, rfl⟩
      rw [hld, take_succ' hi]
      have e0 : (List.map (selO bs (done ++ [g])) (L.take i) ++ List.map (selO bs done) (l :: L.drop (i + 1)) ++ Ob.dic false (kv L) :: gb) = List.map (selO bs (done ++ [g])) (L.take i) ++ selO bs done l :: (List.map (selO bs done) (L.drop (i + 1)) ++ Ob.dic false (kv L) :: gb) := by simp
      have e1 : (List.map (selO bs (done ++ [g])) (L.take i ++ [l]) ++ List.map (selO bs done) (L.drop (i + 1)) ++ Ob.dic false (kv L) :: gb) = List.map (selO bs (done ++ [g])) (L.take i) ++ selO bs (done ++ [g]) l :: (List.map (selO bs done) (L.drop (i + 1)) ++ Ob.dic false (kv L) :: gb) := by simp
      rw [e0, e1]
      have hD : (List.map (selO bs (done ++ [g])) (L.take i) ++ selO bs done l :: (List.map (selO bs done) (L.drop (i + 1)) ++ Ob.dic false (kv L) :: gb))[L.length]? = some (.dic false (kv L)) := by
        rw [← e0, ← hld]
        have : (List.map (selO bs (done ++ [g])) (L.take i) ++ List.map (selO bs done) (L.drop i)).length = L.length := by simp; omega
        rw [← this]; exact get_at _ _ _
      have hG : (List.map (selO bs (done ++ [g])) (L.take i) ++ selO bs done l :: (List.map (selO bs done) (L.drop (i + 1)) ++ Ob.dic false (kv L) :: gb))[i]? = some (selO bs done l) := by
        have : (List.map (selO bs (done ++ [g])) (L.take i)).length = i := by simp; omega
        conv => lhs; arg 2; rw [← this]
        exact get_at _ _ _
      have hS : ∀ o, (List.map (selO bs (done ++ [g])) (L.take i) ++ selO bs done l :: (List.map (selO bs done) (L.drop (i + 1)) ++ Ob.dic false (kv L) :: gb)).set i o = List.map (selO bs (done ++ [g])) (L.take i) ++ o :: (List.map (selO bs done) (L.drop (i + 1)) ++ Ob.dic false (kv L) :: gb) := fun o => by
        have : (List.map (selO bs (done ++ [g])) (L.take i)).length = i := by simp; omega
        conv => lhs; arg 2; rw [← this]
        exact set_at _ _ _ _
      generalize (List.map (selO bs (done ++ [g])) (L.take i) ++ selO bs done l :: (List.map (selO bs done) (L.drop (i + 1)) ++ Ob.dic false (kv L) :: gb)) = hh at hD hG hS ⊢
      have hkv : gtD (kv L) (.inl (l : Int)) = some (.ref i) := by
        show gtD (dN _ L) (kN l) = _
        rw [gt_dN, if_pos hmem, idx_of okm.1 hi]
      have hfl : (done.filter (lies bs l)).length < 16777216 := by have := List.length_filter_le (lies bs l) done; omega
      by_cases hlg : l = g
      · subst hlg
        have : lies bs l l = false := by simp [lies]
        have e3 : selO bs (done ++ [l]) l = selO bs done l := by simp [selO, this]
        have e4 : hh.set i (selO bs done l) = hh := by
          apply List.ext_getElem?
          intro j
          by_cases hj : i = j
          · subst hj
            rw [List.getElem?_set_self (by exact (List.getElem?_eq_some_iff.mp hG).1), hG]
          · rw [List.getElem?_set_ne hj]
        rw [e3, ← hS, e4]
        simp [bodyM, sSeq, s_thenNx, s_thenRt, s_loopNx, s_loopRt, s_loopCt, s_loopBk, sAsg, sRet, sRetN, sDrop, sNil, sPar, sBrk, sCnt, eVar, eC, eOp, gmName, gmSub, eCallB, aCons, aNil, eB, eIf, eTru, mAnd, mOr, mNot, mYes, eMeth, eTup, eLst, eL, eDict0, eDict1, r_for1, forR_nat, r_forS, r_lc1, lcR_nat, r_lcS, n_non, n_bl, n_int, n_str, n_tup, n_rol, n_ref, b_non, b_bl, b_int, b_str, b_tup, b_rol, b_ref, eSetd, eItems, gmTup, gmCons, gmNil, dKey, eCall, eCallP, eDc, iSeq, wipeE, eUn, eIsi, eAnd, eOr, eNot, R.bind_ok, noX_ok, s_atI, s_atI0, s_atI1, s_atI2, s_atI3, s_atI4, s_atI5, s_add, s_sub, s_lt, s_le, s_gt, s_ge, s_isN, s_isB, s_eq_ii, s_eq_ss, s_eq_in, s_eq_ni, s_eq_nn, s_eq_sn, s_eq_ns, s_eq_bb, s_lenT, s_lenR, s_int, s_listT, s_listR, s_tupT, s_truB, s_truN, s_truI, s_truT, s_oB, s_itT, s_itR, s_inTI, s_inTS, s_isLst, r_in, r_inDi, r_inDs, inL_I, inL_S, r_ix, r_ixT, r_ixR, r_ixLi, r_ixDi, r_ixDs, r_len, r_list, r_tup, r_sort, r_tru, r_tyL, r_tyD, r_append, r_pop, r_extT, r_extR, r_it, I, beq_N]
      · have hlg' : ¬ g = l := fun z => hlg z.symm
        by_cases hm : l ∈ met bs (some g)
        · have : lies bs l g = false := by simp [lies, hm]
          have e3 : selO bs (done ++ [g]) l = selO bs done l := by simp [selO, this]
          have e4 : hh.set i (selO bs done l) = hh := by
            apply List.ext_getElem?
            intro j
            by_cases hj : i = j
            · subst hj
              rw [List.getElem?_set_self (by exact (List.getElem?_eq_some_iff.mp hG).1), hG]
            · rw [List.getElem?_set_ne hj]
          rw [e3, ← hS, e4]
          simp [bodyM, sSeq, s_thenNx, s_thenRt, s_loopNx, s_loopRt, s_loopCt, s_loopBk, sAsg, sRet, sRetN, sDrop, sNil, sPar, sBrk, sCnt, eVar, eC, eOp, gmName, gmSub, eCallB, aCons, aNil, eB, eIf, eTru, mAnd, mOr, mNot, mYes, eMeth, eTup, eLst, eL, eDict0, eDict1, r_for1, forR_nat, r_forS, r_lc1, lcR_nat, r_lcS, n_non, n_bl, n_int, n_str, n_tup, n_rol, n_ref, b_non, b_bl, b_int, b_str, b_tup, b_rol, b_ref, eSetd, eItems, gmTup, gmCons, gmNil, dKey, eCall, eCallP, eDc, iSeq, wipeE, eUn, eIsi, eAnd, eOr, eNot, R.bind_ok, noX_ok, s_atI, s_atI0, s_atI1, s_atI2, s_atI3, s_atI4, s_atI5, s_add, s_sub, s_lt, s_le, s_gt, s_ge, s_isN, s_isB, s_eq_ii, s_eq_ss, s_eq_in, s_eq_ni, s_eq_nn, s_eq_sn, s_eq_ns, s_eq_bb, s_lenT, s_lenR, s_int, s_listT, s_listR, s_tupT, s_truB, s_truN, s_truI, s_truT, s_oB, s_itT, s_itR, s_inTI, s_inTS, s_isLst, r_in, r_inDi, r_inDs, inL_I, inL_S, r_ix, r_ixT, r_ixR, r_ixLi, r_ixDi, r_ixDs, r_len, r_list, r_tup, r_sort, r_tru, r_tyL, r_tyD, r_append, r_pop, r_extT, r_extR, r_it, I, beq_N, hlg', r_inT, inL_N, hm]
        · have : lies bs l g = true := by simp [lies, hm, hlg]
          rw [← hS]
          simp [bodyM, sSeq, s_thenNx, s_thenRt, s_loopNx, s_loopRt, s_loopCt, s_loopBk, sAsg, sRet, sRetN, sDrop, sNil, sPar, sBrk, sCnt, eVar, eC, eOp, gmName, gmSub, eCallB, aCons, aNil, eB, eIf, eTru, mAnd, mOr, mNot, mYes, eMeth, eTup, eLst, eL, eDict0, eDict1, r_for1, forR_nat, r_forS, r_lc1, lcR_nat, r_lcS, n_non, n_bl, n_int, n_str, n_tup, n_rol, n_ref, b_non, b_bl, b_int, b_str, b_tup, b_rol, b_ref, eSetd, eItems, gmTup, gmCons, gmNil, dKey, eCall, eCallP, eDc, iSeq, wipeE, eUn, eIsi, eAnd, eOr, eNot, R.bind_ok, noX_ok, s_atI, s_atI0, s_atI1, s_atI2, s_atI3, s_atI4, s_atI5, s_add, s_sub, s_lt, s_le, s_gt, s_ge, s_isN, s_isB, s_eq_ii, s_eq_ss, s_eq_in, s_eq_ni, s_eq_nn, s_eq_sn, s_eq_ns, s_eq_bb, s_lenT, s_lenR, s_int, s_listT, s_listR, s_tupT, s_truB, s_truN, s_truI, s_truT, s_oB, s_itT, s_itR, s_inTI, s_inTS, s_isLst, r_in, r_inDi, r_inDs, inL_I, inL_S, r_ix, r_ixT, r_ixR, r_ixLi, r_ixDi, r_ixDs, r_len, r_list, r_tup, r_sort, r_tru, r_tyL, r_tyD, r_append, r_pop, r_extT, r_extR, r_it, I, beq_N, hlg', r_inT, inL_N, hm, hD, hkv, hG, selO, szl, hfl, this])
    (env := [some (B bs), some (.tup (L.map I)), some (.ref L.length), some (I g), some (.tup ((met bs (some g)).map I)), x5]) (h := L.map (selO bs done) ++ .dic false (kv L) :: gb) ⟨x5, rfl, by simp⟩
  subst e1 e2
  refine ⟨x5', ?_⟩
  rw [q]
  simp
end K04

namespace K04
open PySem L2 PM
theorem overMid {bs : List End} (ok : okB bs) {x3 x4 x5 : Option D} {gb : List Ob} :
    ∃ x3' x4' x5', PM.forM (gmName 3) (sSeq (sAsg (eCallP (aCons (eVar 0) (aCons (eVar 3) (aNil))) mMetWithout) (gmName 4)) (sFor (iSeq (eVar 1)) (gmName 5) oIn1)) (fun _ => true) ((met bs none).map I) [some (B bs), some (.tup ((met bs none).map I)), some (.ref (met bs none).length), x3, x4, x5] ((met bs none).map (selO bs []) ++ .dic false (kv (met bs none)) :: gb) =
      .ok (.nx [some (B bs), some (.tup ((met bs none).map I)), some (.ref (met bs none).length), x3', x4', x5']) ((met bs none).map (selO bs (met bs none)) ++ .dic false (kv (met bs none)) :: gb) := by
  have okm := met_ok ok none
  have hl9 : (met bs none).length < 1000 := by have := okm.len; have := ok.2.1; omega
  obtain ⟨env', h', q, x3', x4', x5', e1, e2⟩ := for_run (xs := met bs none) (F := I) (g := gmName 3) (b := sSeq (sAsg (eCallP (aCons (eVar 0) (aCons (eVar 3) (aNil))) mMetWithout) (gmName 4)) (sFor (iSeq (eVar 1)) (gmName 5) oIn1)) (chk := fun _ => true)
    (fun i env h => ∃ x3 x4 x5, env = [some (B bs), some (.tup ((met bs none).map I)), some (.ref (met bs none).length), x3, x4, x5] ∧ h = (met bs none).map (selO bs ((met bs none).take i)) ++ .dic false (kv (met bs none)) :: gb)
    (fun _ _ _ _ _ => rfl)
    (fun i g hi env h ⟨x3, x4, x5, e1, e2⟩ => by
      subst e1 e2
      obtain ⟨x5', q⟩ := overIn ok (done := (met bs none).take i) (g := g) (x5 := x5) (gb := gb) (by rw [List.length_take]; omega)
      refine ⟨_, _, [some (B bs), some (.tup ((met bs none).map I)), some (.ref (met bs none).length), some (I g), some (.tup ((met bs (some g)).map I)), x5'], (met bs none).map (selO bs ((met bs none).take (i + 1))) ++ .dic false (kv (met bs none)) :: gb, rfl, ?_, some (I g), _, x5', rfl, rfl⟩
      rw [take_succ' hi, ← q]
      generalize oIn1 = Bd
      simp [bodyM, sSeq, s_thenNx, s_thenRt, s_loopNx, s_loopRt, s_loopCt, s_loopBk, sAsg, sRet, sRetN, sDrop, sNil, sPar, sBrk, sCnt, eVar, eC, eOp, gmName, gmSub, eCallB, aCons, aNil, eB, eIf, eTru, mAnd, mOr, mNot, mYes, eMeth, eTup, eLst, eL, eDict0, eDict1, r_for1, forR_nat, r_forS, r_lc1, lcR_nat, r_lcS, n_non, n_bl, n_int, n_str, n_tup, n_rol, n_ref, b_non, b_bl, b_int, b_str, b_tup, b_rol, b_ref, eSetd, eItems, gmTup, gmCons, gmNil, dKey, eCall, eCallP, eDc, iSeq, wipeE, eUn, eIsi, eAnd, eOr, eNot, R.bind_ok, noX_ok, s_atI, s_atI0, s_atI1, s_atI2, s_atI3, s_atI4, s_atI5, s_add, s_sub, s_lt, s_le, s_gt, s_ge, s_isN, s_isB, s_eq_ii, s_eq_ss, s_eq_in, s_eq_ni, s_eq_nn, s_eq_sn, s_eq_ns, s_eq_bb, s_lenT, s_lenR, s_int, s_listT, s_listR, s_tupT, s_truB, s_truN, s_truI, s_truT, s_oB, s_itT, s_itR, s_inTI, s_inTS, s_isLst, r_in, r_inDi, r_inDs, inL_I, inL_S, r_ix, r_ixT, r_ixR, r_ixLi, r_ixDi, r_ixDs, r_len, r_list, r_tup, r_sort, r_tru, r_tyL, r_tyD, r_append, r_pop, r_extT, r_extR, r_it, run_metW ok])
    (env := [some (B bs), some (.tup ((met bs none).map I)), some (.ref (met bs none).length), x3, x4, x5]) (h := (met bs none).map (selO bs []) ++ .dic false (kv (met bs none)) :: gb) ⟨x3, x4, x5, rfl, by simp⟩
  subst e1 e2
  refine ⟨x3', x4', x5', ?_⟩
  rw [q, List.take_length]
/-- the lists, laid -/
theorem overNew {bs : List End} (ok : okB bs) (env : PM.Env) : dcM (wipeE env [5]) (gmName 5) mYes (eVar 5) (eLst aNil) (fun _ => true) ((met bs none).map I) [] [] = .ok (kv (met bs none)) ((met bs none).map (selO bs [])) ∨ 6 > env.length := by
  by_cases hlen : 6 ≤ env.length
  · refine .inl ?_
    have okm := met_ok ok none
    have hl9 : (met bs none).length < 1000 := by have := okm.len; have := ok.2.1; omega
    obtain ⟨acc', h', q, e1, e2⟩ := dc_run (xs := met bs none) (F := I) (kf := kN) (env0 := wipeE env [5]) (g := gmName 5) (ke := eVar 5) (ve := eLst aNil) (chk := fun _ => true)
      (fun i acc h => i ≤ (met bs none).length ∧ acc = dN (fun l => .ref ((met bs none).idxOf l)) ((met bs none).take i) ∧ h = ((met bs none).take i).map (selO bs []))
      (fun i acc h ⟨hi, e1, e2⟩ => ⟨rfl, by subst e1; rw [dN_len, List.length_take, szl]; omega⟩)
      (fun i l hi acc h ⟨hi', e1, e2⟩ => by
        subst e1 e2
        have hlt := (List.getElem?_eq_some_iff.mp hi).1
        have hw : (wipeE env [5]).length = env.length := wipeE_length env [5]
        refine ⟨_, _, _, ((met bs none).take i).map (selO bs []) ++ [.lst []], .ref i, rfl, (?_ : eVar 5 ((wipeE env [5]).set 5 (some (I l))) (((met bs none).take i).map (selO bs [])) = .ok (keyD (kN l)) (((met bs none).take i).map (selO bs []))), ?_, by omega, ?_, ?_⟩
        · unfold eVar
          rw [List.getElem?_set_self (by rw [hw]; omega)]
          rfl
        · simp [bodyM, sSeq, s_thenNx, s_thenRt, s_loopNx, s_loopRt, s_loopCt, s_loopBk, sAsg, sRet, sRetN, sDrop, sNil, sPar, sBrk, sCnt, eVar, eC, eOp, gmName, gmSub, eCallB, aCons, aNil, eB, eIf, eTru, mAnd, mOr, mNot, mYes, eMeth, eTup, eLst, eL, eDict0, eDict1, r_for1, forR_nat, r_forS, r_lc1, lcR_nat, r_lcS, n_non, n_bl, n_int, n_str, n_tup, n_rol, n_ref, b_non, b_bl, b_int, b_str, b_tup, b_rol, b_ref, eSetd, eItems, gmTup, gmCons, gmNil, dKey, eCall, eCallP, eDc, iSeq, wipeE, eUn, eIsi, eAnd, eOr, eNot, R.bind_ok, noX_ok, s_atI, s_atI0, s_atI1, s_atI2, s_atI3, s_atI4, s_atI5, s_add, s_sub, s_lt, s_le, s_gt, s_ge, s_isN, s_isB, s_eq_ii, s_eq_ss, s_eq_in, s_eq_ni, s_eq_nn, s_eq_sn, s_eq_ns, s_eq_bb, s_lenT, s_lenR, s_int, s_listT, s_listR, s_tupT, s_truB, s_truN, s_truI, s_truT, s_oB, s_itT, s_itR, s_inTI, s_inTS, s_isLst, r_in, r_inDi, r_inDs, inL_I, inL_S, r_ix, r_ixT, r_ixR, r_ixLi, r_ixDi, r_ixDs, r_len, r_list, r_tup, r_sort, r_tru, r_tyL, r_tyD, r_append, r_pop, r_extT, r_extR, r_it, szl]; omega
        · rw [take_succ' hi, ← pt_dN (notin_take okm.1 hi), idx_of okm.1 hi]
        · rw [take_succ' hi, List.map_append]; rfl)
      (acc := []) (h := []) ⟨Nat.zero_le _, rfl, rfl⟩
    rw [q, e2.1, e2.2, List.take_length]
    rfl
  · exact .inr (by omega)
theorem overEnd {bs : List End} (ok : okB bs) {x3 x4 x5 : Option D} {gb : List Ob} :
    dcM [some (B bs), some (.tup ((met bs none).map I)), some (.ref (met bs none).length), x3, x4, none] (gmName 5) mYes (eVar 5) (eCallB (aCons (eOp oIx (eVar 2) (eVar 5)) (aNil)) oTuple) (fun _ => true) ((met bs none).map I) [] ((met bs none).map (selO bs (met bs none)) ++ .dic false (kv (met bs none)) :: gb) =
      .ok (dN (fun l => .tup ((abv bs l).map I)) (met bs none)) ((met bs none).map (selO bs (met bs none)) ++ .dic false (kv (met bs none)) :: gb) := by
  have okm := met_ok ok none
  have hl9 : (met bs none).length < 1000 := by have := okm.len; have := ok.2.1; omega
  obtain ⟨acc', h', q, e1, e2⟩ := dc_run (xs := met bs none) (F := I) (kf := kN) (env0 := [some (B bs), some (.tup ((met bs none).map I)), some (.ref (met bs none).length), x3, x4, none]) (g := gmName 5) (ke := eVar 5) (ve := eCallB (aCons (eOp oIx (eVar 2) (eVar 5)) (aNil)) oTuple) (chk := fun _ => true)
    (fun i acc h => acc = dN (fun l => .tup ((abv bs l).map I)) ((met bs none).take i) ∧ h = (met bs none).map (selO bs (met bs none)) ++ .dic false (kv (met bs none)) :: gb)
    (fun i acc h ⟨e1, e2⟩ => ⟨rfl, by subst e1; rw [dN_len, List.length_take, szl]; omega⟩)
    (fun i l hi acc h ⟨e1, e2⟩ => by
      subst e1 e2
      have hmem : l ∈ met bs none := List.mem_of_getElem? hi
      have hlt := (List.getElem?_eq_some_iff.mp hi).1
      have hD : ((met bs none).map (selO bs (met bs none)) ++ Ob.dic false (kv (met bs none)) :: gb)[(met bs none).length]? = some (.dic false (kv (met bs none))) := by simp
      have hG : ((met bs none).map (selO bs (met bs none)) ++ Ob.dic false (kv (met bs none)) :: gb)[i]? = some (selO bs (met bs none) l) := by
        rw [List.getElem?_append_left (by simpa using hlt), List.getElem?_map, hi]; rfl
      have hkv : gtD (kv (met bs none)) (.inl (l : Int)) = some (.ref i) := by
        show gtD (dN _ (met bs none)) (kN l) = _
        rw [gt_dN, if_pos hmem, idx_of okm.1 hi]
      generalize hhh : ((met bs none).map (selO bs (met bs none)) ++ Ob.dic false (kv (met bs none)) :: gb) = hh at hD hG
      refine ⟨_, _, hh, hh, .tup ((abv bs l).map I), rfl, rfl, ?_, ?_, rfl⟩
      · simp [bodyM, sSeq, s_thenNx, s_thenRt, s_loopNx, s_loopRt, s_loopCt, s_loopBk, sAsg, sRet, sRetN, sDrop, sNil, sPar, sBrk, sCnt, eVar, eC, eOp, gmName, gmSub, eCallB, aCons, aNil, eB, eIf, eTru, mAnd, mOr, mNot, mYes, eMeth, eTup, eLst, eL, eDict0, eDict1, r_for1, forR_nat, r_forS, r_lc1, lcR_nat, r_lcS, n_non, n_bl, n_int, n_str, n_tup, n_rol, n_ref, b_non, b_bl, b_int, b_str, b_tup, b_rol, b_ref, eSetd, eItems, gmTup, gmCons, gmNil, dKey, eCall, eCallP, eDc, iSeq, wipeE, eUn, eIsi, eAnd, eOr, eNot, R.bind_ok, noX_ok, s_atI, s_atI0, s_atI1, s_atI2, s_atI3, s_atI4, s_atI5, s_add, s_sub, s_lt, s_le, s_gt, s_ge, s_isN, s_isB, s_eq_ii, s_eq_ss, s_eq_in, s_eq_ni, s_eq_nn, s_eq_sn, s_eq_ns, s_eq_bb, s_lenT, s_lenR, s_int, s_listT, s_listR, s_tupT, s_truB, s_truN, s_truI, s_truT, s_oB, s_itT, s_itR, s_inTI, s_inTS, s_isLst, r_in, r_inDi, r_inDs, inL_I, inL_S, r_ix, r_ixT, r_ixR, r_ixLi, r_ixDi, r_ixDs, r_len, r_list, r_tup, r_sort, r_tru, r_tyL, r_tyD, r_append, r_pop, r_extT, r_extR, r_it, I, hD, hkv, hG, selO, abv]
      · rw [take_succ' hi, ← pt_dN (F := fun l => D.tup ((abv bs l).map I)) (notin_take okm.1 hi)])
    (acc := []) (h := (met bs none).map (selO bs (met bs none)) ++ .dic false (kv (met bs none)) :: gb) ⟨rfl, rfl⟩
  rw [q, e1, e2, List.take_length]
theorem over_run {bs : List End} (ok : okB bs) : ∃ h' k, mOver [B bs] [] = .ok (.ref k) h' ∧ h'[k]? = some (.dic false (dN (fun l => .tup ((abv bs l).map I)) (met bs none))) := by
  have h1 := (overNew ok [some (B bs), some (.tup ((met bs none).map I)), none, none, none, none]).resolve_right (by simp)
  obtain ⟨x3, x4, x5, h2⟩ := overMid ok (bs := bs) (x3 := none) (x4 := none) (x5 := none) (gb := [])
  have h3 := overEnd ok (bs := bs) (x3 := x3) (x4 := x4) (x5 := x5) (gb := [])
  refine ⟨((met bs none).map (selO bs (met bs none)) ++ [.dic false (kv (met bs none))]) ++ [.dic false (dN (fun l => .tup ((abv bs l).map I)) (met bs none))], (met bs none).length + 1, ?_, by simp⟩
  have h1' : dcM [some (B bs), some (.tup ((met bs none).map I)), none, none, none, none] (gmName 5) mYes (eVar 5) (eLst aNil) (fun _ => true) ((met bs none).map I) [] [] = _ := h1
  unfold mOver
  generalize hb : (sSeq (sAsg (eCallP (aCons (eVar 0) (aCons (eVar 3) (aNil))) mMetWithout) (gmName 4)) (sFor (iSeq (eVar 1)) (gmName 5) oIn1)) = Bd at h2
  generalize hv : eCallB (aCons (eOp oIx (eVar 2) (eVar 5)) (aNil)) oTuple = Vd at h3 ⊢
  generalize hw : eLst aNil = Wd at h1' ⊢
  simp [bodyM, sSeq, s_thenNx, s_thenRt, s_loopNx, s_loopRt, s_loopCt, s_loopBk, sAsg, sRet, sRetN, sDrop, sNil, sPar, sBrk, sCnt, eVar, eC, eOp, gmName, gmSub, eCallB, aCons, aNil, eB, eIf, eTru, mAnd, mOr, mNot, mYes, eMeth, eTup, eLst, eL, eDict0, eDict1, r_for1, forR_nat, r_forS, r_lc1, lcR_nat, r_lcS, n_non, n_bl, n_int, n_str, n_tup, n_rol, n_ref, b_non, b_bl, b_int, b_str, b_tup, b_rol, b_ref, eSetd, eItems, gmTup, gmCons, gmNil, dKey, eCall, eCallP, eDc, iSeq, wipeE, eUn, eIsi, eAnd, eOr, eNot, R.bind_ok, noX_ok, s_atI, s_atI0, s_atI1, s_atI2, s_atI3, s_atI4, s_atI5, s_add, s_sub, s_lt, s_le, s_gt, s_ge, s_isN, s_isB, s_eq_ii, s_eq_ss, s_eq_in, s_eq_ni, s_eq_nn, s_eq_sn, s_eq_ns, s_eq_bb, s_lenT, s_lenR, s_int, s_listT, s_listR, s_tupT, s_truB, s_truN, s_truI, s_truT, s_oB, s_itT, s_itR, s_inTI, s_inTS, s_isLst, r_in, r_inDi, r_inDs, inL_I, inL_S, r_ix, r_ixT, r_ixR, r_ixLi, r_ixDi, r_ixDs, r_len, r_list, r_tup, r_sort, r_tru, r_tyL, r_tyD, r_append, r_pop, r_extT, r_extR, r_it, run_reach ok, h1', h2, h3]
end K04

namespace K04
open PySem L2 PM
def aboveD (bs : List End) (l : Nat) : D := .tup ((abv bs l).map I)
theorem pur_above (bs : List End) (l : Nat) : pur (aboveD bs l) = true := pur_map_I _
theorem run_over {bs : List End} (ok : okB bs) (h : AH) : runP mOver [B bs] h = .ok (.ref h.length) (h ++ [.dic false (dN (aboveD bs) (met bs none))]) := by
  obtain ⟨h', k, e, ek⟩ := over_run ok
  exact s_runD (by simp [purs, pur_B]) e ek (dN_pur (pur_above bs) _)
/-! ### dominators -/
def nearP (bs : List End) (l one : Nat) : Bool := ((abv bs one).length : Int) == ((abv bs l).length : Int) - 1
def near (bs : List End) (l : Nat) : List Nat := (abv bs l).filter (nearP bs l)
def domD (bs : List End) (l : Nat) : D := match near bs l with
  | [] => .non
  | x :: _ => I x
theorem pur_dom (bs : List End) (l : Nat) : pur (domD bs l) = true := by unfold domD; split <;> rfl
theorem abv_len {bs : List End} (ok : okB bs) (l : Nat) : (abv bs l).length ≤ 9 := by
  have h1 := List.length_filter_le (lies bs l) (met bs none)
  have h2 := (met_ok ok none).len
  have h3 := ok.2.1
  unfold abv; omega
abbrev dBody : SM := sSeq (sAsg (eL (lComp (iSeq (eOp oIx (eVar 1) (eVar 3))) [5] (gmName 5) (eB (eOp (oEq false) (eCallB (aCons (eOp oIx (eVar 1) (eVar 5)) (aNil)) oLen) (eOp oSub (eCallB (aCons (eOp oIx (eVar 1) (eVar 3)) (aNil)) oLen) (eC (.int 1))))) (eVar 5))) (gmName 4)) (sAsg (eIf (eTru (eVar 4)) (eOp oIx (eVar 4) (eC (.int 0))) (eC .non)) (gmSub (eVar 2) (eVar 3)))
theorem domLoop {bs : List End} (ok : okB bs) : ∃ x3 x4 x5 gb, PM.forM (gmName 3) dBody (fun _ => true) ((met bs none).map I) [some (B bs), some (.ref 0), some (.ref 1), none, none, none] [.dic true (dN (aboveD bs) (met bs none)), .dic false []] =
    .ok (.nx [some (B bs), some (.ref 0), some (.ref 1), x3, x4, x5]) (.dic true (dN (aboveD bs) (met bs none)) :: .dic false (dN (domD bs) (met bs none)) :: gb) := by
  have okm := met_ok ok none
  have hl9 : (met bs none).length < 1000 := by have := okm.len; have := ok.2.1; omega
  obtain ⟨env', h', q, x3, x4, x5, gb, e1, e2⟩ := for_run (xs := met bs none) (F := I) (g := gmName 3) (b := dBody) (chk := fun _ => true)
    (fun i env h => ∃ x3 x4 x5 gb, env = [some (B bs), some (.ref 0), some (.ref 1), x3, x4, x5] ∧ h = .dic true (dN (aboveD bs) (met bs none)) :: .dic false (dN (domD bs) ((met bs none).take i)) :: gb)
    (fun _ _ _ _ _ => rfl)
    (fun i l hi env h ⟨x3, x4, x5, gb, e1, e2⟩ => by
      subst e1 e2
      have hmem : l ∈ met bs none := List.mem_of_getElem? hi
      have hlt := (List.getElem?_eq_some_iff.mp hi).1
      have hg : ∀ x ∈ met bs none, gtD (dN (aboveD bs) (met bs none)) (.inl (x : Int)) = some (aboveD bs x) := fun x hx => by
        show gtD _ (kN x) = _
        rw [gt_dN, if_pos hx]
      have q := lc_pure (xs := abv bs l) (F := I) (G := I) (p := nearP bs l) (env0 := [some (B bs), some (.ref 0), some (.ref 1), some (I l), x4, none]) (g := gmName 5) (t := eB (eOp (oEq false) (eCallB (aCons (eOp oIx (eVar 1) (eVar 5)) (aNil)) oLen) (eOp oSub (eCallB (aCons (eOp oIx (eVar 1) (eVar 3)) (aNil)) oLen) (eC (.int 1))))) (e := eVar 5)
        (chk := fun _ => true) (h := .dic true (dN (aboveD bs) (met bs none)) :: .dic false (dN (domD bs) ((met bs none).take i)) :: gb) (fun y => [some (B bs), some (.ref 0), some (.ref 1), some (I l), x4, some (I y)])
        rfl (fun y _ => by simp [gmName]) (fun y hy => by simp [bodyM, sSeq, s_thenNx, s_thenRt, s_loopNx, s_loopRt, s_loopCt, s_loopBk, sAsg, sRet, sRetN, sDrop, sNil, sPar, sBrk, sCnt, eVar, eC, eOp, gmName, gmSub, eCallB, aCons, aNil, eB, eIf, eTru, mAnd, mOr, mNot, mYes, eMeth, eTup, eLst, eL, eDict0, eDict1, r_for1, forR_nat, r_forS, r_lc1, lcR_nat, r_lcS, n_non, n_bl, n_int, n_str, n_tup, n_rol, n_ref, b_non, b_bl, b_int, b_str, b_tup, b_rol, b_ref, eSetd, eItems, gmTup, gmCons, gmNil, dKey, eCall, eCallP, eDc, iSeq, wipeE, eUn, eIsi, eAnd, eOr, eNot, R.bind_ok, noX_ok, s_atI, s_atI0, s_atI1, s_atI2, s_atI3, s_atI4, s_atI5, s_add, s_sub, s_lt, s_le, s_gt, s_ge, s_isN, s_isB, s_eq_ii, s_eq_ss, s_eq_in, s_eq_ni, s_eq_nn, s_eq_sn, s_eq_ns, s_eq_bb, s_lenT, s_lenR, s_int, s_listT, s_listR, s_tupT, s_truB, s_truN, s_truI, s_truT, s_oB, s_itT, s_itR, s_inTI, s_inTS, s_isLst, r_in, r_inDi, r_inDs, inL_I, inL_S, r_ix, r_ixT, r_ixR, r_ixLi, r_ixDi, r_ixDs, r_len, r_list, r_tup, r_sort, r_tru, r_tyL, r_tyD, r_append, r_pop, r_extT, r_extR, r_it, I, hg y (abv_mem hy), hg l hmem, aboveD, nearP]) (fun y _ _ => by simp [bodyM, sSeq, s_thenNx, s_thenRt, s_loopNx, s_loopRt, s_loopCt, s_loopBk, sAsg, sRet, sRetN, sDrop, sNil, sPar, sBrk, sCnt, eVar, eC, eOp, gmName, gmSub, eCallB, aCons, aNil, eB, eIf, eTru, mAnd, mOr, mNot, mYes, eMeth, eTup, eLst, eL, eDict0, eDict1, r_for1, forR_nat, r_forS, r_lc1, lcR_nat, r_lcS, n_non, n_bl, n_int, n_str, n_tup, n_rol, n_ref, b_non, b_bl, b_int, b_str, b_tup, b_rol, b_ref, eSetd, eItems, gmTup, gmCons, gmNil, dKey, eCall, eCallP, eDc, iSeq, wipeE, eUn, eIsi, eAnd, eOr, eNot, R.bind_ok, noX_ok, s_atI, s_atI0, s_atI1, s_atI2, s_atI3, s_atI4, s_atI5, s_add, s_sub, s_lt, s_le, s_gt, s_ge, s_isN, s_isB, s_eq_ii, s_eq_ss, s_eq_in, s_eq_ni, s_eq_nn, s_eq_sn, s_eq_ns, s_eq_bb, s_lenT, s_lenR, s_int, s_listT, s_listR, s_tupT, s_truB, s_truN, s_truI, s_truT, s_oB, s_itT, s_itR, s_inTI, s_inTS, s_isLst, r_in, r_inDi, r_inDs, inL_I, inL_S, r_ix, r_ixT, r_ixR, r_ixLi, r_ixDi, r_ixDs, r_len, r_list, r_tup, r_sort, r_tru, r_tyL, r_tyD, r_append, r_pop, r_extT, r_extR, r_it]) (by have := abv_len ok l; omega)
      have q' : lcM [some (B bs), some (.ref 0), some (.ref 1), some (D.int (l : Nat)), x4, none] (gmName 5) (eB (eOp (oEq false) (eCallB (aCons (eOp oIx (eVar 1) (eVar 5)) (aNil)) oLen) (eOp oSub (eCallB (aCons (eOp oIx (eVar 1) (eVar 3)) (aNil)) oLen) (eC (.int 1))))) (eVar 5) (fun _ => true) ((abv bs l).map I) [] (.dic true (dN (aboveD bs) (met bs none)) :: .dic false (dN (domD bs) ((met bs none).take i)) :: gb) = _ := q
      refine ⟨_, _, [some (B bs), some (.ref 0), some (.ref 1), some (I l), some (.ref (gb.length + 2)), x5], .dic true (dN (aboveD bs) (met bs none)) :: .dic false (dN (domD bs) ((met bs none).take (i + 1))) :: (gb ++ [.lst ((near bs l).map I)]), rfl, ?_, some (I l), _, x5, _, rfl, rfl⟩
      have hpt : ptD (dN (domD bs) ((met bs none).take i)) (.inl (l : Int)) (domD bs l) = dN (domD bs) ((met bs none).take (i + 1)) := by
        rw [take_succ' hi]; exact pt_dN (notin_take okm.1 hi)
      have hln : (dN (domD bs) ((met bs none).take i)).length < 16777216 := by rw [dN_len, List.length_take]; omega
      have hla := hg l hmem
      cases hn : near bs l with
      | nil =>
        have hd : domD bs l = .non := by unfold domD; rw [hn]
        rw [hd] at hpt
        have hn' : (abv bs l).filter (nearP bs l) = [] := hn
        rw [hn'] at q'
        simp [bodyM, sSeq, s_thenNx, s_thenRt, s_loopNx, s_loopRt, s_loopCt, s_loopBk, sAsg, sRet, sRetN, sDrop, sNil, sPar, sBrk, sCnt, eVar, eC, eOp, gmName, gmSub, eCallB, aCons, aNil, eB, eIf, eTru, mAnd, mOr, mNot, mYes, eMeth, eTup, eLst, eL, eDict0, eDict1, r_for1, forR_nat, r_forS, r_lc1, lcR_nat, r_lcS, n_non, n_bl, n_int, n_str, n_tup, n_rol, n_ref, b_non, b_bl, b_int, b_str, b_tup, b_rol, b_ref, eSetd, eItems, gmTup, gmCons, gmNil, dKey, eCall, eCallP, eDc, iSeq, wipeE, eUn, eIsi, eAnd, eOr, eNot, R.bind_ok, noX_ok, s_atI, s_atI0, s_atI1, s_atI2, s_atI3, s_atI4, s_atI5, s_add, s_sub, s_lt, s_le, s_gt, s_ge, s_isN, s_isB, s_eq_ii, s_eq_ss, s_eq_in, s_eq_ni, s_eq_nn, s_eq_sn, s_eq_ns, s_eq_bb, s_lenT, s_lenR, s_int, s_listT, s_listR, s_tupT, s_truB, s_truN, s_truI, s_truT, s_oB, s_itT, s_itR, s_inTI, s_inTS, s_isLst, r_in, r_inDi, r_inDs, inL_I, inL_S, r_ix, r_ixT, r_ixR, r_ixLi, r_ixDi, r_ixDs, r_len, r_list, r_tup, r_sort, r_tru, r_tyL, r_tyD, r_append, r_pop, r_extT, r_extR, r_it, I, hla, aboveD] at q' ⊢
        simp [bodyM, sSeq, s_thenNx, s_thenRt, s_loopNx, s_loopRt, s_loopCt, s_loopBk, sAsg, sRet, sRetN, sDrop, sNil, sPar, sBrk, sCnt, eVar, eC, eOp, gmName, gmSub, eCallB, aCons, aNil, eB, eIf, eTru, mAnd, mOr, mNot, mYes, eMeth, eTup, eLst, eL, eDict0, eDict1, r_for1, forR_nat, r_forS, r_lc1, lcR_nat, r_lcS, n_non, n_bl, n_int, n_str, n_tup, n_rol, n_ref, b_non, b_bl, b_int, b_str, b_tup, b_rol, b_ref, eSetd, eItems, gmTup, gmCons, gmNil, dKey, eCall, eCallP, eDc, iSeq, wipeE, eUn, eIsi, eAnd, eOr, eNot, R.bind_ok, noX_ok, s_atI, s_atI0, s_atI1, s_atI2, s_atI3, s_atI4, s_atI5, s_add, s_sub, s_lt, s_le, s_gt, s_ge, s_isN, s_isB, s_eq_ii, s_eq_ss, s_eq_in, s_eq_ni, s_eq_nn, s_eq_sn, s_eq_ns, s_eq_bb, s_lenT, s_lenR, s_int, s_listT, s_listR, s_tupT, s_truB, s_truN, s_truI, s_truT, s_oB, s_itT, s_itR, s_inTI, s_inTS, s_isLst, r_in, r_inDi, r_inDs, inL_I, inL_S, r_ix, r_ixT, r_ixR, r_ixLi, r_ixDi, r_ixDs, r_len, r_list, r_tup, r_sort, r_tru, r_tyL, r_tyD, r_append, r_pop, r_extT, r_extR, r_it, I, q', szl, hln, hpt]
      | cons x r =>
        have hd : domD bs l = I x := by unfold domD; rw [hn]
        rw [hd] at hpt
        simp only [I] at hpt
        have hn' : (abv bs l).filter (nearP bs l) = x :: r := hn
        rw [hn'] at q'
        simp [bodyM, sSeq, s_thenNx, s_thenRt, s_loopNx, s_loopRt, s_loopCt, s_loopBk, sAsg, sRet, sRetN, sDrop, sNil, sPar, sBrk, sCnt, eVar, eC, eOp, gmName, gmSub, eCallB, aCons, aNil, eB, eIf, eTru, mAnd, mOr, mNot, mYes, eMeth, eTup, eLst, eL, eDict0, eDict1, r_for1, forR_nat, r_forS, r_lc1, lcR_nat, r_lcS, n_non, n_bl, n_int, n_str, n_tup, n_rol, n_ref, b_non, b_bl, b_int, b_str, b_tup, b_rol, b_ref, eSetd, eItems, gmTup, gmCons, gmNil, dKey, eCall, eCallP, eDc, iSeq, wipeE, eUn, eIsi, eAnd, eOr, eNot, R.bind_ok, noX_ok, s_atI, s_atI0, s_atI1, s_atI2, s_atI3, s_atI4, s_atI5, s_add, s_sub, s_lt, s_le, s_gt, s_ge, s_isN, s_isB, s_eq_ii, s_eq_ss, s_eq_in, s_eq_ni, s_eq_nn, s_eq_sn, s_eq_ns, s_eq_bb, s_lenT, s_lenR, s_int, s_listT, s_listR, s_tupT, s_truB, s_truN, s_truI, s_truT, s_oB, s_itT, s_itR, s_inTI, s_inTS, s_isLst, r_in, r_inDi, r_inDs, inL_I, inL_S, r_ix, r_ixT, r_ixR, r_ixLi, r_ixDi, r_ixDs, r_len, r_list, r_tup, r_sort, r_tru, r_tyL, r_tyD, r_append, r_pop, r_extT, r_extR, r_it, I, hla, aboveD] at q' ⊢
        simp [bodyM, sSeq, s_thenNx, s_thenRt, s_loopNx, s_loopRt, s_loopCt, s_loopBk, sAsg, sRet, sRetN, sDrop, sNil, sPar, sBrk, sCnt, eVar, eC, eOp, gmName, gmSub, eCallB, aCons, aNil, eB, eIf, eTru, mAnd, mOr, mNot, mYes, eMeth, eTup, eLst, eL, eDict0, eDict1, r_for1, forR_nat, r_forS, r_lc1, lcR_nat, r_lcS, n_non, n_bl, n_int, n_str, n_tup, n_rol, n_ref, b_non, b_bl, b_int, b_str, b_tup, b_rol, b_ref, eSetd, eItems, gmTup, gmCons, gmNil, dKey, eCall, eCallP, eDc, iSeq, wipeE, eUn, eIsi, eAnd, eOr, eNot, R.bind_ok, noX_ok, s_atI, s_atI0, s_atI1, s_atI2, s_atI3, s_atI4, s_atI5, s_add, s_sub, s_lt, s_le, s_gt, s_ge, s_isN, s_isB, s_eq_ii, s_eq_ss, s_eq_in, s_eq_ni, s_eq_nn, s_eq_sn, s_eq_ns, s_eq_bb, s_lenT, s_lenR, s_int, s_listT, s_listR, s_tupT, s_truB, s_truN, s_truI, s_truT, s_oB, s_itT, s_itR, s_inTI, s_inTS, s_isLst, r_in, r_inDi, r_inDs, inL_I, inL_S, r_ix, r_ixT, r_ixR, r_ixLi, r_ixDi, r_ixDs, r_len, r_list, r_tup, r_sort, r_tru, r_tyL, r_tyD, r_append, r_pop, r_extT, r_extR, r_it, I, q', szl, hln, hpt])
    (env := [some (B bs), some (.ref 0), some (.ref 1), none, none, none]) (h := [.dic true (dN (aboveD bs) (met bs none)), .dic false []]) ⟨none, none, none, [], rfl, rfl⟩
  subst e1 e2
  refine ⟨x3, x4, x5, gb, ?_⟩
  rw [q, List.take_length]
theorem keys_dN (F : Nat → D) (L : List Nat) : (dN F L).map (fun p => keyD p.1) = L.map I := by simp [dN, keyD, kN, I]
theorem dom_run {bs : List End} (ok : okB bs) : ∃ h' k, mDominators [B bs] [] = .ok (.ref k) h' ∧ h'[k]? = some (.dic false (dN (domD bs) (met bs none))) := by
  obtain ⟨x3, x4, x5, gb, q⟩ := domLoop ok
  refine ⟨.dic false (dN (aboveD bs) (met bs none)) :: .dic false (dN (domD bs) (met bs none)) :: gb, 1, ?_, rfl⟩
  unfold mDominators
  generalize hb : dBody = Bd at q
  simp [bodyM, sSeq, s_thenNx, s_thenRt, s_loopNx, s_loopRt, s_loopCt, s_loopBk, sAsg, sRet, sRetN, sDrop, sNil, sPar, sBrk, sCnt, eVar, eC, eOp, gmName, gmSub, eCallB, aCons, aNil, eB, eIf, eTru, mAnd, mOr, mNot, mYes, eMeth, eTup, eLst, eL, eDict0, eDict1, r_for1, forR_nat, r_forS, r_lc1, lcR_nat, r_lcS, n_non, n_bl, n_int, n_str, n_tup, n_rol, n_ref, b_non, b_bl, b_int, b_str, b_tup, b_rol, b_ref, eSetd, eItems, gmTup, gmCons, gmNil, dKey, eCall, eCallP, eDc, iSeq, wipeE, eUn, eIsi, eAnd, eOr, eNot, R.bind_ok, noX_ok, s_atI, s_atI0, s_atI1, s_atI2, s_atI3, s_atI4, s_atI5, s_add, s_sub, s_lt, s_le, s_gt, s_ge, s_isN, s_isB, s_eq_ii, s_eq_ss, s_eq_in, s_eq_ni, s_eq_nn, s_eq_sn, s_eq_ns, s_eq_bb, s_lenT, s_lenR, s_int, s_listT, s_listR, s_tupT, s_truB, s_truN, s_truI, s_truT, s_oB, s_itT, s_itR, s_inTI, s_inTS, s_isLst, r_in, r_inDi, r_inDs, inL_I, inL_S, r_ix, r_ixT, r_ixR, r_ixLi, r_ixDi, r_ixDs, r_len, r_list, r_tup, r_sort, r_tru, r_tyL, r_tyD, r_append, r_pop, r_extT, r_extR, r_it, run_over ok, sLock, unlk, keys_dN, hb, q]
theorem run_dom {bs : List End} (ok : okB bs) (h : AH) : runP mDominators [B bs] h = .ok (.ref h.length) (h ++ [.dic false (dN (domD bs) (met bs none))]) := by
  obtain ⟨h', k, e, ek⟩ := dom_run ok
  exact s_runD (by simp [purs, pur_B]) e ek (dN_pur (pur_dom bs) _)
/-! ### arrows -/
def pr (p : Nat × Nat) : D := .tup [I p.1, I p.2]
theorem pur_pr (p : Nat × Nat) : pur (pr p) = true := rfl
theorem eqv_pr (p q : Nat × Nat) : PyData.eqv (.tuple [.int p.1, .int p.2]) (.tuple [.int q.1, .int q.2]) = decide (p = q) := by
  have e : PyData.eqv (.tuple [.int p.1, .int p.2]) (.tuple [.int q.1, .int q.2]) = (((p.1 : Int) == (q.1 : Int)) && (((p.2 : Int) == (q.2 : Int)) && true)) := by simp only [PyData.eqv, PyData.eqvAll]
  rw [e, beq_N, beq_N, Bool.and_true, Bool.eq_iff_iff, Bool.and_eq_true, decide_eq_true_eq, decide_eq_true_eq, decide_eq_true_eq, Prod.ext_iff]
  exact ⟨fun h => ⟨h.1.symm, h.2.symm⟩, fun h => ⟨h.1.symm, h.2.symm⟩⟩
theorem inL_P {neg : Bool} {p : Nat × Nat} {ps : List (Nat × Nat)} {h : AH} : inL neg (.tup [.int (p.1 : Int), .int (p.2 : Int)]) (ps.map pr) h = .ok (.bl (neg != decide (p ∈ ps))) h := by
  have e1 : pyd h 60 (.tup [.int (p.1 : Int), .int (p.2 : Int)]) = some (.tuple [.int p.1, .int p.2]) := rfl
  have e2 : pydL (pyd h 60) (ps.map pr) = some (ps.map fun q => PyData.tuple [.int q.1, .int q.2]) := pydL_map (fun _ => rfl) ps
  unfold inL
  rw [e1, e2]
  have e3 : ((ps.map fun q => PyData.tuple [.int (q.1 : Int), .int (q.2 : Int)]).any fun q => PyData.eqv q (.tuple [.int p.1, .int p.2])) = decide (p ∈ ps) := by
    rw [List.any_map, Bool.eq_iff_iff, List.any_eq_true, decide_eq_true_eq]
    constructor
    · rintro ⟨q, hq, e⟩
      have e' : PyData.eqv (.tuple [.int (q.1 : Int), .int (q.2 : Int)]) (.tuple [.int p.1, .int p.2]) = true := e
      rw [eqv_pr, decide_eq_true_eq] at e'
      rw [← e']; exact hq
    · intro hp
      refine ⟨p, hp, ?_⟩
      show PyData.eqv (.tuple [.int (p.1 : Int), .int (p.2 : Int)]) (.tuple [.int p.1, .int p.2]) = true
      rw [eqv_pr, decide_eq_true_eq]
  show R.ok (D.bl (neg != ((ps.map fun q => PyData.tuple [.int (q.1 : Int), .int (q.2 : Int)]).any fun q => PyData.eqv q (.tuple [.int p.1, .int p.2])))) h = _
  rw [e3]
def addP (f : List (Nat × Nat)) (p : Nat × Nat) : List (Nat × Nat) := if p ∈ f then f else f ++ [p]
def pairs (bs : List End) : List (Nat × Nat) := (met bs none).flatMap fun l => (waysAt bs l).map fun o => (l, o)
def arr (bs : List End) : List (Nat × Nat) := (pairs bs).foldl addP []
theorem addP_len (f : List (Nat × Nat)) (p : Nat × Nat) : (addP f p).length ≤ f.length + 1 := by unfold addP; split <;> simp
theorem foldP_len : ∀ (ps f : List (Nat × Nat)), (ps.foldl addP f).length ≤ f.length + ps.length
  | [], f => by simp
  | p :: ps, f => by
    have h1 := foldP_len ps (addP f p)
    have h2 := addP_len f p
    rw [List.foldl_cons, List.length_cons]; omega
theorem arr_mem (bs : List End) (p : Nat × Nat) : p ∈ arr bs ↔ p.1 ∈ met bs none ∧ p.2 ∈ waysAt bs p.1 := by
  unfold arr
  rw [fold_mem (N := fun x y => y = x) (fun x _ s y => by unfold addP; split <;> simp_all)]
  unfold pairs
  simp only [List.not_mem_nil, false_or, List.mem_flatMap, List.mem_map]
  constructor
  · rintro ⟨x, ⟨l, hl, o, ho, rfl⟩, rfl⟩
    exact ⟨hl, ho⟩
  · rintro ⟨h1, h2⟩
    exact ⟨p, ⟨p.1, h1, p.2, h2, rfl⟩, rfl⟩
theorem arr_nodup (bs : List End) : (arr bs).Nodup := by
  unfold arr
  refine fold_inv List.Nodup (fun p _ s hs => ?_) List.nodup_nil
  unfold addP
  split
  · exact hs
  · exact List.nodup_append.mpr ⟨hs, by simp, fun a ha b hb e => by rw [List.mem_singleton.mp hb] at e; subst e; contradiction⟩
abbrev aIn : SM := eIf (eB (eOp (oIn true) (eTup (aCons (eVar 2) (aCons (eVar 3) (aNil)))) (eVar 1))) (sDrop (eMeth .l (eVar 1) (aCons (eTup (aCons (eVar 2) (aCons (eVar 3) (aNil)))) (aNil)) oAppend)) (sNil)
theorem aIn_run {bs : List End} {f : List (Nat × Nat)} {gb : List Ob} {l o : Nat} (hf : f.length < 1000) : aIn [some (B bs), some (.ref 0), some (I l), some (I o)] (.lst (f.map pr) :: gb) = .ok (.nx [some (B bs), some (.ref 0), some (I l), some (I o)]) (.lst ((addP f (l, o)).map pr) :: gb) := by
  have h1 : f.length < 16777216 := by omega
  have hin := fun h => inL_P (neg := true) (p := (l, o)) (ps := f) (h := h)
  unfold addP
  by_cases hp : (l, o) ∈ f
  · simp [bodyM, sSeq, s_thenNx, s_thenRt, s_loopNx, s_loopRt, s_loopCt, s_loopBk, sAsg, sRet, sRetN, sDrop, sNil, sPar, sBrk, sCnt, eVar, eC, eOp, gmName, gmSub, eCallB, aCons, aNil, eB, eIf, eTru, mAnd, mOr, mNot, mYes, eMeth, eTup, eLst, eL, eDict0, eDict1, r_for1, forR_nat, r_forS, r_lc1, lcR_nat, r_lcS, n_non, n_bl, n_int, n_str, n_tup, n_rol, n_ref, b_non, b_bl, b_int, b_str, b_tup, b_rol, b_ref, eSetd, eItems, gmTup, gmCons, gmNil, dKey, eCall, eCallP, eDc, iSeq, wipeE, eUn, eIsi, eAnd, eOr, eNot, R.bind_ok, noX_ok, s_atI, s_atI0, s_atI1, s_atI2, s_atI3, s_atI4, s_atI5, s_add, s_sub, s_lt, s_le, s_gt, s_ge, s_isN, s_isB, s_eq_ii, s_eq_ss, s_eq_in, s_eq_ni, s_eq_nn, s_eq_sn, s_eq_ns, s_eq_bb, s_lenT, s_lenR, s_int, s_listT, s_listR, s_tupT, s_truB, s_truN, s_truI, s_truT, s_oB, s_itT, s_itR, s_inTI, s_inTS, s_isLst, r_in, r_inDi, r_inDs, inL_I, inL_S, r_ix, r_ixT, r_ixR, r_ixLi, r_ixDi, r_ixDs, r_len, r_list, r_tup, r_sort, r_tru, r_tyL, r_tyD, r_append, r_pop, r_extT, r_extR, r_it, I, szl, hin, hp]
  · simp [bodyM, sSeq, s_thenNx, s_thenRt, s_loopNx, s_loopRt, s_loopCt, s_loopBk, sAsg, sRet, sRetN, sDrop, sNil, sPar, sBrk, sCnt, eVar, eC, eOp, gmName, gmSub, eCallB, aCons, aNil, eB, eIf, eTru, mAnd, mOr, mNot, mYes, eMeth, eTup, eLst, eL, eDict0, eDict1, r_for1, forR_nat, r_forS, r_lc1, lcR_nat, r_lcS, n_non, n_bl, n_int, n_str, n_tup, n_rol, n_ref, b_non, b_bl, b_int, b_str, b_tup, b_rol, b_ref, eSetd, eItems, gmTup, gmCons, gmNil, dKey, eCall, eCallP, eDc, iSeq, wipeE, eUn, eIsi, eAnd, eOr, eNot, R.bind_ok, noX_ok, s_atI, s_atI0, s_atI1, s_atI2, s_atI3, s_atI4, s_atI5, s_add, s_sub, s_lt, s_le, s_gt, s_ge, s_isN, s_isB, s_eq_ii, s_eq_ss, s_eq_in, s_eq_ni, s_eq_nn, s_eq_sn, s_eq_ns, s_eq_bb, s_lenT, s_lenR, s_int, s_listT, s_listR, s_tupT, s_truB, s_truN, s_truI, s_truT, s_oB, s_itT, s_itR, s_inTI, s_inTS, s_isLst, r_in, r_inDi, r_inDs, inL_I, inL_S, r_ix, r_ixT, r_ixR, r_ixLi, r_ixDi, r_ixDs, r_len, r_list, r_tup, r_sort, r_tru, r_tyL, r_tyD, r_append, r_pop, r_extT, r_extR, r_it, I, szl, hin, hp, h1, pr]
abbrev aMid : SM := sFor (iSeq (eCallP (aCons (eOp oIx (eVar 0) (eVar 2)) (aNil)) mWaysOf)) (gmName 3) aIn
theorem aMid_run {bs : List End} {f : List (Nat × Nat)} {gb : List Ob} {l : Nat} {x3 : Option D} (hl : l < bs.length) (hf : f.length < 500) : ∃ x3' gb', aMid [some (B bs), some (.ref 0), some (I l), x3] (.lst (f.map pr) :: gb) = .ok (.nx [some (B bs), some (.ref 0), some (I l), x3']) (.lst ((((waysAt bs l).map fun o => (l, o)).foldl addP f).map pr) :: gb') := by
  obtain ⟨e, he⟩ := blk_at hl
  have hw := ways_len e
  obtain ⟨env', h', q, x3', e1, e2⟩ := for_run (xs := ways e) (F := I) (g := gmName 3) (b := aIn) (chk := fun h' => isLst ((ways e).map I) h'[gb.length + 1]?)
    (fun i env h => ∃ x3, env = [some (B bs), some (.ref 0), some (I l), x3] ∧ h = .lst (((((ways e).take i).map fun o => (l, o)).foldl addP f).map pr) :: (gb ++ [.lst ((ways e).map I)]))
    (fun i env h _ ⟨x3, _, e2⟩ => by subst e2; simp [isLst])
    (fun i o hi env h ⟨x3, e1, e2⟩ => by
      subst e1 e2
      refine ⟨_, _, _, _, rfl, aIn_run (by have := foldP_len (((ways e).take i).map fun o => (l, o)) f; rw [List.length_map, List.length_take] at this; omega), some (I o), rfl, ?_⟩
      rw [take_succ' hi, List.map_append, List.foldl_append]; rfl)
    (env := [some (B bs), some (.ref 0), some (I l), x3]) (h := .lst (f.map pr) :: (gb ++ [.lst ((ways e).map I)])) ⟨x3, rfl, rfl⟩
  subst e1 e2
  rw [List.take_length] at q
  refine ⟨x3', gb ++ [.lst ((ways e).map I)], ?_⟩
  rw [waysAt_of he, ← q]
  have hix := ixB (h := (.lst (f.map pr) :: gb)) he
  simp only [I] at hix
  simp [bodyM, sSeq, s_thenNx, s_thenRt, s_loopNx, s_loopRt, s_loopCt, s_loopBk, sAsg, sRet, sRetN, sDrop, sNil, sPar, sBrk, sCnt, eVar, eC, eOp, gmName, gmSub, eCallB, aCons, aNil, eB, eIf, eTru, mAnd, mOr, mNot, mYes, eMeth, eTup, eLst, eL, eDict0, eDict1, r_for1, forR_nat, r_forS, r_lc1, lcR_nat, r_lcS, n_non, n_bl, n_int, n_str, n_tup, n_rol, n_ref, b_non, b_bl, b_int, b_str, b_tup, b_rol, b_ref, eSetd, eItems, gmTup, gmCons, gmNil, dKey, eCall, eCallP, eDc, iSeq, wipeE, eUn, eIsi, eAnd, eOr, eNot, R.bind_ok, noX_ok, s_atI, s_atI0, s_atI1, s_atI2, s_atI3, s_atI4, s_atI5, s_add, s_sub, s_lt, s_le, s_gt, s_ge, s_isN, s_isB, s_eq_ii, s_eq_ss, s_eq_in, s_eq_ni, s_eq_nn, s_eq_sn, s_eq_ns, s_eq_bb, s_lenT, s_lenR, s_int, s_listT, s_listR, s_tupT, s_truB, s_truN, s_truI, s_truT, s_oB, s_itT, s_itR, s_inTI, s_inTS, s_isLst, r_in, r_inDi, r_inDs, inL_I, inL_S, r_ix, r_ixT, r_ixR, r_ixLi, r_ixDi, r_ixDs, r_len, r_list, r_tup, r_sort, r_tru, r_tyL, r_tyD, r_append, r_pop, r_extT, r_extR, r_it, I, hix, runWays]
theorem flat_len (bs : List End) : ∀ L : List Nat, (L.flatMap fun l => (waysAt bs l).map fun o => (l, o)).length ≤ 2 * L.length
  | [] => by simp
  | l :: L => by
    have h1 := flat_len bs L
    have h2 := waysAt_len bs l
    rw [List.flatMap_cons, List.length_append, List.length_map, List.length_cons]; omega
theorem arr_len {bs : List End} (ok : okB bs) : (arr bs).length ≤ 18 := by
  have h1 := foldP_len (pairs bs) []
  have h2 := flat_len bs (met bs none)
  have h3 := (met_ok ok none).len
  have h4 := ok.2.1
  unfold arr pairs at *
  simp only [List.length_nil, Nat.zero_add] at h1
  omega
theorem arrows_run {bs : List End} (ok : okB bs) : ∃ h' k, mArrows [B bs] [] = .ok (.ref k) h' ∧ h'[k]? = some (.lst ((arr bs).map pr)) := by
  have okm := met_ok ok none
  have hl9 : (met bs none).length ≤ 9 := by have := okm.len; have := ok.2.1; omega
  obtain ⟨env', h', q, x2, x3, gb, e1, e2⟩ := for_run (xs := met bs none) (F := I) (g := gmName 2) (b := aMid) (chk := fun _ => true)
    (fun i env h => ∃ x2 x3 gb, env = [some (B bs), some (.ref 0), x2, x3] ∧ h = .lst (((((met bs none).take i).flatMap fun l => (waysAt bs l).map fun o => (l, o)).foldl addP []).map pr) :: gb)
    (fun _ _ _ _ _ => rfl)
    (fun i l hi env h ⟨x2, x3, gb, e1, e2⟩ => by
      subst e1 e2
      obtain ⟨x3', gb', q⟩ := aMid_run (bs := bs) (f := (((met bs none).take i).flatMap fun l => (waysAt bs l).map fun o => (l, o)).foldl addP []) (gb := gb) (l := l) (x3 := x3) (okm.2 l (List.mem_of_getElem? hi)) (by
        have h1 := foldP_len (((met bs none).take i).flatMap fun l => (waysAt bs l).map fun o => (l, o)) []
        have h2 := flat_len bs ((met bs none).take i)
        rw [List.length_take] at h2
        simp only [List.length_nil, Nat.zero_add] at h1
        omega)
      refine ⟨_, _, _, _, rfl, q, some (I l), x3', gb', rfl, ?_⟩
      rw [take_succ' hi, List.flatMap_append, List.foldl_append]; simp)
    (env := [some (B bs), some (.ref 0), none, none]) (h := [.lst []]) ⟨none, none, [], rfl, rfl⟩
  subst e1 e2
  rw [List.take_length] at q
  refine ⟨.lst ((arr bs).map pr) :: gb, 0, ?_, rfl⟩
  unfold mArrows
  generalize hb : aMid = Bd at q
  simp [bodyM, sSeq, s_thenNx, s_thenRt, s_loopNx, s_loopRt, s_loopCt, s_loopBk, sAsg, sRet, sRetN, sDrop, sNil, sPar, sBrk, sCnt, eVar, eC, eOp, gmName, gmSub, eCallB, aCons, aNil, eB, eIf, eTru, mAnd, mOr, mNot, mYes, eMeth, eTup, eLst, eL, eDict0, eDict1, r_for1, forR_nat, r_forS, r_lc1, lcR_nat, r_lcS, n_non, n_bl, n_int, n_str, n_tup, n_rol, n_ref, b_non, b_bl, b_int, b_str, b_tup, b_rol, b_ref, eSetd, eItems, gmTup, gmCons, gmNil, dKey, eCall, eCallP, eDc, iSeq, wipeE, eUn, eIsi, eAnd, eOr, eNot, R.bind_ok, noX_ok, s_atI, s_atI0, s_atI1, s_atI2, s_atI3, s_atI4, s_atI5, s_add, s_sub, s_lt, s_le, s_gt, s_ge, s_isN, s_isB, s_eq_ii, s_eq_ss, s_eq_in, s_eq_ni, s_eq_nn, s_eq_sn, s_eq_ns, s_eq_bb, s_lenT, s_lenR, s_int, s_listT, s_listR, s_tupT, s_truB, s_truN, s_truI, s_truT, s_oB, s_itT, s_itR, s_inTI, s_inTS, s_isLst, r_in, r_inDi, r_inDs, inL_I, inL_S, r_ix, r_ixT, r_ixR, r_ixLi, r_ixDi, r_ixDs, r_len, r_list, r_tup, r_sort, r_tru, r_tyL, r_tyD, r_append, r_pop, r_extT, r_extR, r_it, run_reach ok, hb, q, szl]
  rfl
theorem run_arrows {bs : List End} (ok : okB bs) (h : AH) : runP mArrows [B bs] h = .ok (.ref h.length) (h ++ [.lst ((arr bs).map pr)]) := by
  obtain ⟨h', k, e, ek⟩ := arrows_run ok
  exact s_runL (by simp [purs, pur_B]) e ek (purs_map pur_pr _)
end K04

namespace K04
open PySem L2 PM
/-! ### within -/
theorem g_0 {β : Type} (h : List β) (a : β) (R : List β) : (h ++ a :: R)[h.length]? = some a := by simp
theorem g_1 {β : Type} (h : List β) (a b : β) (R : List β) : (h ++ a :: b :: R)[h.length + 1]? = some b := by simp
theorem g_2 {β : Type} (h : List β) (a b c : β) (R : List β) : (h ++ a :: b :: c :: R)[h.length + 1 + 1]? = some c := by
  rw [List.getElem?_append_right (by omega)]
  have : h.length + 1 + 1 - h.length = 2 := by omega
  rw [this]; rfl
theorem st_0 {β : Type} (h : List β) (a x : β) (R : List β) : (h ++ a :: R).set h.length x = h ++ x :: R := by simp
theorem st_1 {β : Type} (h : List β) (a b x : β) (R : List β) : (h ++ a :: b :: R).set (h.length + 1) x = h ++ a :: x :: R := by
  rw [List.set_append_right _ _ (by omega)]
  have : h.length + 1 - h.length = 1 := by omega
  rw [this]; rfl
theorem app_app {β : Type} (h : List β) (a b c : β) (R S : List β) : h ++ a :: b :: c :: R ++ S = h ++ a :: b :: c :: (R ++ S) := by simp
theorem len3 {β : Type} (h : List β) (a b c : β) (R : List β) : (h ++ a :: b :: c :: R).length = h.length + (R.length + 1 + 1 + 1) := by simp
theorem g_n {β : Type} (h : List β) (a b c o : β) (R : List β) : (h ++ a :: b :: c :: (R ++ [o]))[h.length + (R.length + 1 + 1 + 1)]? = some o := by
  rw [List.getElem?_append_right (by omega)]
  have : h.length + (R.length + 1 + 1 + 1) - h.length = R.length + 1 + 1 + 1 := by omega
  rw [this]; simp
def preds (bs : List End) (x : Nat) : List Nat := ((arr bs).filter fun p => decide (x = p.2)).map (·.1)
def succW (bs : List End) (hd x : Nat) : List Nat := if x = hd then [] else preds bs x
theorem preds_mem {bs : List End} (x y : Nat) : y ∈ preds bs x ↔ y ∈ met bs none ∧ x ∈ waysAt bs y := by
  unfold preds
  simp only [List.mem_map, List.mem_filter, decide_eq_true_eq]
  constructor
  · rintro ⟨p, ⟨hp, rfl⟩, rfl⟩
    exact (arr_mem bs p).mp hp
  · rintro ⟨h1, h2⟩
    exact ⟨(y, x), ⟨(arr_mem bs (y, x)).mpr ⟨h1, h2⟩, rfl⟩, rfl⟩
theorem preds_len {bs : List End} (ok : okB bs) (x : Nat) : (preds bs x).length ≤ 18 := by
  unfold preds
  rw [List.length_map]
  exact Nat.le_trans (List.length_filter_le _ _) (arr_len ok)
abbrev wLoop : SM := whileM (eTru (eVar 4)) (sSeq (sAsg (eMeth .l (eVar 4) aNil oPop) (gmName 6)) (eIf (eB (eOp (oIn true) (eVar 6) (eVar 3))) (sSeq (sAsg (eC (.bl true)) (gmSub (eVar 3) (eVar 6))) (sDrop (eMeth .l (eVar 4) (aCons (eL (lComp (iSeq (eVar 5)) [7, 8] (gmTup 2 (gmCons (gmName 7) (gmCons (gmName 8) (gmNil)))) (eB (eOp (oEq false) (eVar 8) (eVar 6))) (eVar 7))) (aNil)) oExtend))) (sNil))) 1000
def WithinS (bs : List End) (hd : Nat) (ends : List Nat) : Nat → Prop := Cl (fun x => x = hd ∨ x ∈ ends) (succW bs hd)
theorem within_loop {bs : List End} (ok : okB bs) {hd : Nat} (hhd : hd < bs.length) {ends : List Nat} (he : ∀ x ∈ ends, x < bs.length) (hel : ends.length ≤ 18) {e : D} (h : AH) :
    ∃ f x6 x7 x8 gb, wLoop [some (B bs), some (I hd), some e, some (.ref h.length), some (.ref (h.length + 1)), some (.ref (h.length + 1 + 1)), none, none, none] (h ++ .dic false (fd [hd]) :: .lst (ends.map I) :: .lst ((arr bs).map pr) :: []) =
      .ok (.nx [some (B bs), some (I hd), some e, some (.ref h.length), some (.ref (h.length + 1)), some (.ref (h.length + 1 + 1)), x6, x7, x8]) (h ++ .dic false (fd f) :: .lst [] :: .lst ((arr bs).map pr) :: gb) ∧ f.Nodup ∧ (∀ x ∈ f, x < bs.length) ∧ ∀ x, x ∈ f ↔ WithinS bs hd ends x := by
  have h9 := ok.2.1
  have al := arr_len ok
  obtain ⟨f, env, h', q, st, nd, fu, fm⟩ := wl_run (n0 := 1000) (k := 18) (U := List.range bs.length) (succ := succW bs hd) (S := fun x => x = hd ∨ x ∈ ends) (t := eTru (eVar 4))
    (b := (sSeq (sAsg (eMeth .l (eVar 4) aNil oPop) (gmName 6)) (eIf (eB (eOp (oIn true) (eVar 6) (eVar 3))) (sSeq (sAsg (eC (.bl true)) (gmSub (eVar 3) (eVar 6))) (sDrop (eMeth .l (eVar 4) (aCons (eL (lComp (iSeq (eVar 5)) [7, 8] (gmTup 2 (gmCons (gmName 7) (gmCons (gmName 8) (gmNil)))) (eB (eOp (oEq false) (eVar 8) (eVar 6))) (eVar 7))) (aNil)) oExtend))) (sNil))))
    (fun f td env hh => hd ∈ f ∧ ∃ x6 x7 x8 gb, env = [some (B bs), some (I hd), some e, some (.ref h.length), some (.ref (h.length + 1)), some (.ref (h.length + 1 + 1)), x6, x7, x8] ∧ hh = h ++ .dic false (fd f) :: .lst (td.map I) :: .lst ((arr bs).map pr) :: gb)
    (fun f td env hh ⟨_, x6, x7, x8, gb, e1, e2⟩ => by subst e1 e2; simp [bodyM, sSeq, s_thenNx, s_thenRt, s_loopNx, s_loopRt, s_loopCt, s_loopBk, sAsg, sRet, sRetN, sDrop, sNil, sPar, sBrk, sCnt, eVar, eC, eOp, gmName, gmSub, eCallB, aCons, aNil, eB, eIf, eTru, mAnd, mOr, mNot, mYes, eMeth, eTup, eLst, eL, eDict0, eDict1, r_for1, forR_nat, r_forS, r_lc1, lcR_nat, r_lcS, n_non, n_bl, n_int, n_str, n_tup, n_rol, n_ref, b_non, b_bl, b_int, b_str, b_tup, b_rol, b_ref, eSetd, eItems, gmTup, gmCons, gmNil, dKey, eCall, eCallP, eDc, iSeq, wipeE, eUn, eIsi, eAnd, eOr, eNot, R.bind_ok, noX_ok, s_atI, s_atI0, s_atI1, s_atI2, s_atI3, s_atI4, s_atI5, s_add, s_sub, s_lt, s_le, s_gt, s_ge, s_isN, s_isB, s_eq_ii, s_eq_ss, s_eq_in, s_eq_ni, s_eq_nn, s_eq_sn, s_eq_ns, s_eq_bb, s_lenT, s_lenR, s_int, s_listT, s_listR, s_tupT, s_truB, s_truN, s_truI, s_truT, s_oB, s_itT, s_itR, s_inTI, s_inTS, s_isLst, r_in, r_inDi, r_inDs, inL_I, inL_S, r_ix, r_ixT, r_ixR, r_ixLi, r_ixDi, r_ixDs, r_len, r_list, r_tup, r_sort, r_tru, r_tyL, r_tyD, r_append, r_pop, r_extT, r_extR, r_it])
    (fun f td x env hh ⟨hm, x6, x7, x8, gb, e1, e2⟩ nd fu xu ht => by
      subst e1 e2
      have hfl : f.length ≤ bs.length := by have := nodup_len nd fu; simpa using this
      have h1 : f.length < 16777216 := by omega
      by_cases hx : x ∈ f
      · refine ⟨[some (B bs), some (I hd), some e, some (.ref h.length), some (.ref (h.length + 1)), some (.ref (h.length + 1 + 1)), some (I x), x7, x8], h ++ .dic false (fd f) :: .lst (td.map I) :: .lst ((arr bs).map pr) :: gb, ?_, by rw [if_pos hx]; exact ⟨hm, some (I x), x7, x8, gb, rfl, rfl⟩⟩
        simp [bodyM, sSeq, s_thenNx, s_thenRt, s_loopNx, s_loopRt, s_loopCt, s_loopBk, sAsg, sRet, sRetN, sDrop, sNil, sPar, sBrk, sCnt, eVar, eC, eOp, gmName, gmSub, eCallB, aCons, aNil, eB, eIf, eTru, mAnd, mOr, mNot, mYes, eMeth, eTup, eLst, eL, eDict0, eDict1, r_for1, forR_nat, r_forS, r_lc1, lcR_nat, r_lcS, n_non, n_bl, n_int, n_str, n_tup, n_rol, n_ref, b_non, b_bl, b_int, b_str, b_tup, b_rol, b_ref, eSetd, eItems, gmTup, gmCons, gmNil, dKey, eCall, eCallP, eDc, iSeq, wipeE, eUn, eIsi, eAnd, eOr, eNot, R.bind_ok, noX_ok, s_atI, s_atI0, s_atI1, s_atI2, s_atI3, s_atI4, s_atI5, s_add, s_sub, s_lt, s_le, s_gt, s_ge, s_isN, s_isB, s_eq_ii, s_eq_ss, s_eq_in, s_eq_ni, s_eq_nn, s_eq_sn, s_eq_ns, s_eq_bb, s_lenT, s_lenR, s_int, s_listT, s_listR, s_tupT, s_truB, s_truN, s_truI, s_truT, s_oB, s_itT, s_itR, s_inTI, s_inTS, s_isLst, r_in, r_inDi, r_inDs, inL_I, inL_S, r_ix, r_ixT, r_ixR, r_ixLi, r_ixDi, r_ixDs, r_len, r_list, r_tup, r_sort, r_tru, r_tyL, r_tyD, r_append, r_pop, r_extT, r_extR, r_it, I, gt_fd, hx]
      · have hxh : ¬ x = hd := fun z => hx (by rw [z]; exact hm)
        have es : succW bs hd x = preds bs x := by unfold succW; rw [if_neg hxh]
        have q := lc_pure (xs := arr bs) (F := pr) (G := fun p => I p.1) (p := fun p => decide (x = p.2)) (env0 := [some (B bs), some (I hd), some e, some (.ref h.length), some (.ref (h.length + 1)), some (.ref (h.length + 1 + 1)), some (I x), none, none]) (g := gmTup 2 (gmCons (gmName 7) (gmCons (gmName 8) (gmNil)))) (t := eB (eOp (oEq false) (eVar 8) (eVar 6))) (e := eVar 7)
          (chk := fun h' => isLst ((arr bs).map pr) h'[h.length + 1 + 1]?) (h := h ++ .dic false (fd (f ++ [x])) :: .lst (td.map I) :: .lst ((arr bs).map pr) :: gb) (fun p => [some (B bs), some (I hd), some e, some (.ref h.length), some (.ref (h.length + 1)), some (.ref (h.length + 1 + 1)), some (I x), some (I p.1), some (I p.2)])
          (by rw [g_2]; exact s_isLst) (fun p _ => by simp [bodyM, sSeq, s_thenNx, s_thenRt, s_loopNx, s_loopRt, s_loopCt, s_loopBk, sAsg, sRet, sRetN, sDrop, sNil, sPar, sBrk, sCnt, eVar, eC, eOp, gmName, gmSub, eCallB, aCons, aNil, eB, eIf, eTru, mAnd, mOr, mNot, mYes, eMeth, eTup, eLst, eL, eDict0, eDict1, r_for1, forR_nat, r_forS, r_lc1, lcR_nat, r_lcS, n_non, n_bl, n_int, n_str, n_tup, n_rol, n_ref, b_non, b_bl, b_int, b_str, b_tup, b_rol, b_ref, eSetd, eItems, gmTup, gmCons, gmNil, dKey, eCall, eCallP, eDc, iSeq, wipeE, eUn, eIsi, eAnd, eOr, eNot, R.bind_ok, noX_ok, s_atI, s_atI0, s_atI1, s_atI2, s_atI3, s_atI4, s_atI5, s_add, s_sub, s_lt, s_le, s_gt, s_ge, s_isN, s_isB, s_eq_ii, s_eq_ss, s_eq_in, s_eq_ni, s_eq_nn, s_eq_sn, s_eq_ns, s_eq_bb, s_lenT, s_lenR, s_int, s_listT, s_listR, s_tupT, s_truB, s_truN, s_truI, s_truT, s_oB, s_itT, s_itR, s_inTI, s_inTS, s_isLst, r_in, r_inDi, r_inDs, inL_I, inL_S, r_ix, r_ixT, r_ixR, r_ixLi, r_ixDi, r_ixDs, r_len, r_list, r_tup, r_sort, r_tru, r_tyL, r_tyD, r_append, r_pop, r_extT, r_extR, r_it, pr]) (fun p _ => by simp [bodyM, sSeq, s_thenNx, s_thenRt, s_loopNx, s_loopRt, s_loopCt, s_loopBk, sAsg, sRet, sRetN, sDrop, sNil, sPar, sBrk, sCnt, eVar, eC, eOp, gmName, gmSub, eCallB, aCons, aNil, eB, eIf, eTru, mAnd, mOr, mNot, mYes, eMeth, eTup, eLst, eL, eDict0, eDict1, r_for1, forR_nat, r_forS, r_lc1, lcR_nat, r_lcS, n_non, n_bl, n_int, n_str, n_tup, n_rol, n_ref, b_non, b_bl, b_int, b_str, b_tup, b_rol, b_ref, eSetd, eItems, gmTup, gmCons, gmNil, dKey, eCall, eCallP, eDc, iSeq, wipeE, eUn, eIsi, eAnd, eOr, eNot, R.bind_ok, noX_ok, s_atI, s_atI0, s_atI1, s_atI2, s_atI3, s_atI4, s_atI5, s_add, s_sub, s_lt, s_le, s_gt, s_ge, s_isN, s_isB, s_eq_ii, s_eq_ss, s_eq_in, s_eq_ni, s_eq_nn, s_eq_sn, s_eq_ns, s_eq_bb, s_lenT, s_lenR, s_int, s_listT, s_listR, s_tupT, s_truB, s_truN, s_truI, s_truT, s_oB, s_itT, s_itR, s_inTI, s_inTS, s_isLst, r_in, r_inDi, r_inDs, inL_I, inL_S, r_ix, r_ixT, r_ixR, r_ixLi, r_ixDi, r_ixDs, r_len, r_list, r_tup, r_sort, r_tru, r_tyL, r_tyD, r_append, r_pop, r_extT, r_extR, r_it, I, beq_N]) (fun p _ _ => by simp [bodyM, sSeq, s_thenNx, s_thenRt, s_loopNx, s_loopRt, s_loopCt, s_loopBk, sAsg, sRet, sRetN, sDrop, sNil, sPar, sBrk, sCnt, eVar, eC, eOp, gmName, gmSub, eCallB, aCons, aNil, eB, eIf, eTru, mAnd, mOr, mNot, mYes, eMeth, eTup, eLst, eL, eDict0, eDict1, r_for1, forR_nat, r_forS, r_lc1, lcR_nat, r_lcS, n_non, n_bl, n_int, n_str, n_tup, n_rol, n_ref, b_non, b_bl, b_int, b_str, b_tup, b_rol, b_ref, eSetd, eItems, gmTup, gmCons, gmNil, dKey, eCall, eCallP, eDc, iSeq, wipeE, eUn, eIsi, eAnd, eOr, eNot, R.bind_ok, noX_ok, s_atI, s_atI0, s_atI1, s_atI2, s_atI3, s_atI4, s_atI5, s_add, s_sub, s_lt, s_le, s_gt, s_ge, s_isN, s_isB, s_eq_ii, s_eq_ss, s_eq_in, s_eq_ni, s_eq_nn, s_eq_sn, s_eq_ns, s_eq_bb, s_lenT, s_lenR, s_int, s_listT, s_listR, s_tupT, s_truB, s_truN, s_truI, s_truT, s_oB, s_itT, s_itR, s_inTI, s_inTS, s_isLst, r_in, r_inDi, r_inDs, inL_I, inL_S, r_ix, r_ixT, r_ixR, r_ixLi, r_ixDi, r_ixDs, r_len, r_list, r_tup, r_sort, r_tru, r_tyL, r_tyD, r_append, r_pop, r_extT, r_extR, r_it]) (by omega)
        have ep : ((arr bs).filter fun p => decide (x = p.2)).map (fun p => I p.1) = (preds bs x).map I := by simp [preds]
        rw [ep] at q
        have pl := preds_len ok x
        have h2 : td.length + (preds bs x).length ≤ 16777216 := by omega
        have q' : lcM [some (B bs), some (D.int (hd : Nat)), some e, some (.ref h.length), some (.ref (h.length + 1)), some (.ref (h.length + 1 + 1)), some (D.int (x : Nat)), none, none] (gmTup 2 (gmCons (gmName 7) (gmCons (gmName 8) (gmNil)))) (eB (eOp (oEq false) (eVar 8) (eVar 6))) (eVar 7) (fun h' => isLst ((arr bs).map pr) h'[h.length + 1 + 1]?) ((arr bs).map pr) [] (h ++ .dic false (fd (f ++ [x])) :: .lst (td.map I) :: .lst ((arr bs).map pr) :: gb) = _ := q
        refine ⟨[some (B bs), some (I hd), some e, some (.ref h.length), some (.ref (h.length + 1)), some (.ref (h.length + 1 + 1)), some (I x), x7, x8], h ++ .dic false (fd (f ++ [x])) :: .lst ((td ++ preds bs x).map I) :: .lst ((arr bs).map pr) :: (gb ++ [.lst ((preds bs x).map I)]), ?_, by rw [if_neg hx, es]; exact ⟨by simp [hm], some (I x), x7, x8, _, rfl, rfl⟩⟩
        simp [bodyM, sSeq, s_thenNx, s_thenRt, s_loopNx, s_loopRt, s_loopCt, s_loopBk, sAsg, sRet, sRetN, sDrop, sNil, sPar, sBrk, sCnt, eVar, eC, eOp, gmName, gmSub, eCallB, aCons, aNil, eB, eIf, eTru, mAnd, mOr, mNot, mYes, eMeth, eTup, eLst, eL, eDict0, eDict1, r_for1, forR_nat, r_forS, r_lc1, lcR_nat, r_lcS, n_non, n_bl, n_int, n_str, n_tup, n_rol, n_ref, b_non, b_bl, b_int, b_str, b_tup, b_rol, b_ref, eSetd, eItems, gmTup, gmCons, gmNil, dKey, eCall, eCallP, eDc, iSeq, wipeE, eUn, eIsi, eAnd, eOr, eNot, R.bind_ok, noX_ok, s_atI, s_atI0, s_atI1, s_atI2, s_atI3, s_atI4, s_atI5, s_add, s_sub, s_lt, s_le, s_gt, s_ge, s_isN, s_isB, s_eq_ii, s_eq_ss, s_eq_in, s_eq_ni, s_eq_nn, s_eq_sn, s_eq_ns, s_eq_bb, s_lenT, s_lenR, s_int, s_listT, s_listR, s_tupT, s_truB, s_truN, s_truI, s_truT, s_oB, s_itT, s_itR, s_inTI, s_inTS, s_isLst, r_in, r_inDi, r_inDs, inL_I, inL_S, r_ix, r_ixT, r_ixR, r_ixLi, r_ixDi, r_ixDs, r_len, r_list, r_tup, r_sort, r_tru, r_tyL, r_tyD, r_append, r_pop, r_extT, r_extR, r_it, I, gt_fd, hx, fd_len, h1, szl, pt_fd, g_2, q', h2, len3, g_n, st_1])
    (fun x _ y hy => by
      unfold succW at hy
      split at hy
      · cases hy
      · exact List.mem_range.mpr ((met_ok ok none).2 y ((preds_mem x y).mp hy).1)) (fun x _ => by unfold succW; split; simp; exact preds_len ok x) 1000 [hd] ends _ (h ++ .dic false (fd [hd]) :: .lst (ends.map I) :: .lst ((arr bs).map pr) :: []) (Nat.le_refl _) ⟨by simp, none, none, none, [], rfl, rfl⟩ (by simp) (by simpa using hhd) (fun y hy => List.mem_range.mpr (he y hy))
    (fun x hx y hy => by rw [List.mem_singleton.mp hx] at hy; unfold succW at hy; rw [if_pos rfl] at hy; cases hy) (fun x hx => by simpa using hx) (fun x hx => .base (.inl (by simpa using hx))) (fun x hx => .base (.inr hx)) (by simp; omega)
  obtain ⟨_, x6, x7, x8, gb, rfl, rfl⟩ := st
  exact ⟨f, x6, x7, x8, gb, q, nd, fun x hx => List.mem_range.mp (fu x hx), fm⟩
theorem within_run {bs : List End} (ok : okB bs) {hd : Nat} (hhd : hd < bs.length) {ends : List Nat} (he : ∀ x ∈ ends, x < bs.length) (hel : ends.length ≤ 18) {h : AH} {r : Nat} (hr : h[r]? = some (.lst (ends.map I))) :
    ∃ f g, mWithin [B bs, I hd, .ref r] h = .ok (.tup ((srtN f).map I)) (h ++ g) ∧ f.Nodup ∧ (∀ x ∈ f, x < bs.length) ∧ ∀ x, x ∈ f ↔ WithinS bs hd ends x := by
  obtain ⟨f, x6, x7, x8, gb, q, nd, fu, fm⟩ := within_loop ok hhd he hel (e := .ref r) h
  have hl : f.length < 64 := by have := nodup_len nd (m := List.range bs.length) (fun x hx => List.mem_range.mpr (fu x hx)); have := ok.2.1; simp at *; omega
  refine ⟨f, .dic false (fd f) :: .lst [] :: .lst ((arr bs).map pr) :: (gb ++ [.lst ((srtN f).map I)]), ?_, nd, fu, fm⟩
  have hr2 : ∀ o, (h ++ [o])[r]? = some (.lst (ends.map I)) := fun o => get_app hr
  have q' : whileM (eTru (eVar 4)) (sSeq (sAsg (eMeth .l (eVar 4) aNil oPop) (gmName 6)) (eIf (eB (eOp (oIn true) (eVar 6) (eVar 3))) (sSeq (sAsg (eC (.bl true)) (gmSub (eVar 3) (eVar 6))) (sDrop (eMeth .l (eVar 4) (aCons (eL (lComp (iSeq (eVar 5)) [7, 8] (gmTup 2 (gmCons (gmName 7) (gmCons (gmName 8) (gmNil)))) (eB (eOp (oEq false) (eVar 8) (eVar 6))) (eVar 7))) (aNil)) oExtend))) (sNil))) 1000 [some (B bs), some (D.int (hd : Nat)), some (.ref r), some (.ref h.length), some (.ref (h.length + 1)), some (.ref (h.length + 1 + 1)), none, none, none] (h ++ [.dic false [(.inl (hd : Int), .bl true)], .lst (ends.map I), .lst ((arr bs).map pr)]) = _ := q
  simp [mWithin, bodyM, sSeq, s_thenNx, s_thenRt, s_loopNx, s_loopRt, s_loopCt, s_loopBk, sAsg, sRet, sRetN, sDrop, sNil, sPar, sBrk, sCnt, eVar, eC, eOp, gmName, gmSub, eCallB, aCons, aNil, eB, eIf, eTru, mAnd, mOr, mNot, mYes, eMeth, eTup, eLst, eL, eDict0, eDict1, r_for1, forR_nat, r_forS, r_lc1, lcR_nat, r_lcS, n_non, n_bl, n_int, n_str, n_tup, n_rol, n_ref, b_non, b_bl, b_int, b_str, b_tup, b_rol, b_ref, eSetd, eItems, gmTup, gmCons, gmNil, dKey, eCall, eCallP, eDc, iSeq, wipeE, eUn, eIsi, eAnd, eOr, eNot, R.bind_ok, noX_ok, s_atI, s_atI0, s_atI1, s_atI2, s_atI3, s_atI4, s_atI5, s_add, s_sub, s_lt, s_le, s_gt, s_ge, s_isN, s_isB, s_eq_ii, s_eq_ss, s_eq_in, s_eq_ni, s_eq_nn, s_eq_sn, s_eq_ns, s_eq_bb, s_lenT, s_lenR, s_int, s_listT, s_listR, s_tupT, s_truB, s_truN, s_truI, s_truT, s_oB, s_itT, s_itR, s_inTI, s_inTS, s_isLst, r_in, r_inDi, r_inDs, inL_I, inL_S, r_ix, r_ixT, r_ixR, r_ixLi, r_ixDi, r_ixDs, r_len, r_list, r_tup, r_sort, r_tru, r_tyL, r_tyD, r_append, r_pop, r_extT, r_extR, r_it, I, hr2, run_arrows ok, q', keys_fd, sortL_N hl, len3, g_n, st_1]
end K04

namespace K04
open PySem L2 PM
/-! ### loops: which labels go back to a head -/
def isB (bs : List End) (p : Nat × Nat) : Bool := decide (p.1 = p.2) || decide (p.2 ∈ abv bs p.1)
def bk (bs : List End) (done : List (Nat × Nat)) (k : Nat) : List Nat := (done.filter fun p => decide (p.2 = k) && isB bs p).map (·.1)
theorem bk_app (bs : List End) (done : List (Nat × Nat)) (p : Nat × Nat) (k : Nat) : bk bs (done ++ [p]) k = bk bs done k ++ (if p.2 = k ∧ isB bs p = true then [p.1] else []) := by
  unfold bk
  rw [List.filter_append, List.map_append]
  congr 1
  by_cases h : p.2 = k ∧ isB bs p = true
  · rw [if_pos h, List.filter_cons_of_pos (by simp [h.1, h.2])]; rfl
  · rw [if_neg h, List.filter_cons_of_neg (by simpa using h)]; rfl
structure HB (bs : List End) (done : List (Nat × Nat)) (ks : List Nat) (rf : Nat → Nat) (h : AH) : Prop where
  told : h[0]? = some (.dic false (dN (aboveD bs) (met bs none)))
  dict : h[1]? = some (.dic false (dN (fun k => .ref (rf k)) ks))
  arrs : h[2]? = some (.lst ((arr bs).map pr))
  nd : ks.Nodup
  mem : ∀ k, k ∈ ks ↔ bk bs done k ≠ []
  lt : ∀ k ∈ ks, k < bs.length
  at_ : ∀ k ∈ ks, 3 ≤ rf k ∧ h[rf k]? = some (.lst ((bk bs done k).map I))
  inj : ∀ a ∈ ks, ∀ b ∈ ks, rf a = rf b → a = b
theorem dN_congr {F G : Nat → D} {L : List Nat} (h : ∀ l ∈ L, F l = G l) : dN F L = dN G L := by
  unfold dN
  apply List.map_congr_left
  intro l hl
  rw [h l hl]
abbrev lBody : SM := eIf (mOr (eB (eOp (oEq false) (eVar 4) (eVar 3))) (eB (eOp (oIn false) (eVar 4) (eOp oIx (eVar 1) (eVar 3))))) (sDrop (eMeth .l (eSetd (eVar 2) (eVar 4) (eLst (aNil))) (aCons (eVar 3) (aNil)) oAppend)) (sNil)
theorem lBody_run {bs : List End} (ok : okB bs) {done : List (Nat × Nat)} {ks : List Nat} {rf : Nat → Nat} {h : AH} (H : HB bs done ks rf h) {p : Nat × Nat} (hp : p ∈ arr bs) (hd : done.length < 1000) :
    ∃ ks' rf' h', lBody [some (B bs), some (.ref 0), some (.ref 1), some (I p.1), some (I p.2)] h = .ok (.nx [some (B bs), some (.ref 0), some (.ref 1), some (I p.1), some (I p.2)]) h' ∧ HB bs (done ++ [p]) ks' rf' h' := by
  have hpm := (arr_mem bs p).mp hp
  have hg : gtD (dN (aboveD bs) (met bs none)) (.inl (p.1 : Int)) = some (aboveD bs p.1) := by
    show gtD _ (kN p.1) = _
    rw [gt_dN, if_pos hpm.1]
  have hlt2 := waysAt_lt ok hpm.2
  have hbl : (bk bs done p.2).length < 16777216 := by
    unfold bk
    rw [List.length_map]
    have := List.length_filter_le (fun q => decide (q.2 = p.2) && isB bs q) done
    omega
  have hkl : ks.length ≤ bs.length := by
    have := nodup_len H.nd (m := List.range bs.length) fun x hx => List.mem_range.mpr (H.lt x hx)
    simpa using this
  have h9 := ok.2.1
  have hkl2 : (dN (fun k => D.ref (rf k)) ks).length < 16777216 := by rw [dN_len]; omega
  have h3 : 2 < h.length := (List.getElem?_eq_some_iff.mp H.arrs).1
  cases hb : isB bs p with
  | false =>
    refine ⟨ks, rf, h, ?_, ⟨H.told, H.dict, H.arrs, H.nd, fun k => ?_, H.lt, fun k hk => ?_, H.inj⟩⟩
    · unfold isB at hb
      rw [Bool.or_eq_false_iff, decide_eq_false_iff_not, decide_eq_false_iff_not] at hb
      simp [bodyM, sSeq, s_thenNx, s_thenRt, s_loopNx, s_loopRt, s_loopCt, s_loopBk, sAsg, sRet, sRetN, sDrop, sNil, sPar, sBrk, sCnt, eVar, eC, eOp, gmName, gmSub, eCallB, aCons, aNil, eB, eIf, eTru, mAnd, mOr, mNot, mYes, eMeth, eTup, eLst, eL, eDict0, eDict1, r_for1, forR_nat, r_forS, r_lc1, lcR_nat, r_lcS, n_non, n_bl, n_int, n_str, n_tup, n_rol, n_ref, b_non, b_bl, b_int, b_str, b_tup, b_rol, b_ref, eSetd, eItems, gmTup, gmCons, gmNil, dKey, eCall, eCallP, eDc, iSeq, wipeE, eUn, eIsi, eAnd, eOr, eNot, R.bind_ok, noX_ok, s_atI, s_atI0, s_atI1, s_atI2, s_atI3, s_atI4, s_atI5, s_add, s_sub, s_lt, s_le, s_gt, s_ge, s_isN, s_isB, s_eq_ii, s_eq_ss, s_eq_in, s_eq_ni, s_eq_nn, s_eq_sn, s_eq_ns, s_eq_bb, s_lenT, s_lenR, s_int, s_listT, s_listR, s_tupT, s_truB, s_truN, s_truI, s_truT, s_oB, s_itT, s_itR, s_inTI, s_inTS, s_isLst, r_in, r_inDi, r_inDs, inL_I, inL_S, r_ix, r_ixT, r_ixR, r_ixLi, r_ixDi, r_ixDs, r_len, r_list, r_tup, r_sort, r_tru, r_tyL, r_tyD, r_append, r_pop, r_extT, r_extR, r_it, I, beq_N, hb.1, H.told, hg, aboveD, r_inT, inL_N, hb.2]
    · rw [H.mem k, bk_app, if_neg (by rw [hb]; simp)]; simp
    · rw [bk_app, if_neg (by rw [hb]; simp), List.append_nil]; exact H.at_ k hk
  | true =>
    have test : mOr (eB (eOp (oEq false) (eVar 4) (eVar 3))) (eB (eOp (oIn false) (eVar 4) (eOp oIx (eVar 1) (eVar 3)))) [some (B bs), some (.ref 0), some (.ref 1), some (I p.1), some (I p.2)] h = .ok true h := by
      unfold isB at hb
      rw [Bool.or_eq_true, decide_eq_true_eq, decide_eq_true_eq] at hb
      by_cases e : p.1 = p.2
      · simp [bodyM, sSeq, s_thenNx, s_thenRt, s_loopNx, s_loopRt, s_loopCt, s_loopBk, sAsg, sRet, sRetN, sDrop, sNil, sPar, sBrk, sCnt, eVar, eC, eOp, gmName, gmSub, eCallB, aCons, aNil, eB, eIf, eTru, mAnd, mOr, mNot, mYes, eMeth, eTup, eLst, eL, eDict0, eDict1, r_for1, forR_nat, r_forS, r_lc1, lcR_nat, r_lcS, n_non, n_bl, n_int, n_str, n_tup, n_rol, n_ref, b_non, b_bl, b_int, b_str, b_tup, b_rol, b_ref, eSetd, eItems, gmTup, gmCons, gmNil, dKey, eCall, eCallP, eDc, iSeq, wipeE, eUn, eIsi, eAnd, eOr, eNot, R.bind_ok, noX_ok, s_atI, s_atI0, s_atI1, s_atI2, s_atI3, s_atI4, s_atI5, s_add, s_sub, s_lt, s_le, s_gt, s_ge, s_isN, s_isB, s_eq_ii, s_eq_ss, s_eq_in, s_eq_ni, s_eq_nn, s_eq_sn, s_eq_ns, s_eq_bb, s_lenT, s_lenR, s_int, s_listT, s_listR, s_tupT, s_truB, s_truN, s_truI, s_truT, s_oB, s_itT, s_itR, s_inTI, s_inTS, s_isLst, r_in, r_inDi, r_inDs, inL_I, inL_S, r_ix, r_ixT, r_ixR, r_ixLi, r_ixDi, r_ixDs, r_len, r_list, r_tup, r_sort, r_tru, r_tyL, r_tyD, r_append, r_pop, r_extT, r_extR, r_it, I, beq_N, e]
      · have e2 := hb.resolve_left e
        simp [bodyM, sSeq, s_thenNx, s_thenRt, s_loopNx, s_loopRt, s_loopCt, s_loopBk, sAsg, sRet, sRetN, sDrop, sNil, sPar, sBrk, sCnt, eVar, eC, eOp, gmName, gmSub, eCallB, aCons, aNil, eB, eIf, eTru, mAnd, mOr, mNot, mYes, eMeth, eTup, eLst, eL, eDict0, eDict1, r_for1, forR_nat, r_forS, r_lc1, lcR_nat, r_lcS, n_non, n_bl, n_int, n_str, n_tup, n_rol, n_ref, b_non, b_bl, b_int, b_str, b_tup, b_rol, b_ref, eSetd, eItems, gmTup, gmCons, gmNil, dKey, eCall, eCallP, eDc, iSeq, wipeE, eUn, eIsi, eAnd, eOr, eNot, R.bind_ok, noX_ok, s_atI, s_atI0, s_atI1, s_atI2, s_atI3, s_atI4, s_atI5, s_add, s_sub, s_lt, s_le, s_gt, s_ge, s_isN, s_isB, s_eq_ii, s_eq_ss, s_eq_in, s_eq_ni, s_eq_nn, s_eq_sn, s_eq_ns, s_eq_bb, s_lenT, s_lenR, s_int, s_listT, s_listR, s_tupT, s_truB, s_truN, s_truI, s_truT, s_oB, s_itT, s_itR, s_inTI, s_inTS, s_isLst, r_in, r_inDi, r_inDs, inL_I, inL_S, r_ix, r_ixT, r_ixR, r_ixLi, r_ixDi, r_ixDs, r_len, r_list, r_tup, r_sort, r_tru, r_tyL, r_tyD, r_append, r_pop, r_extT, r_extR, r_it, I, beq_N, e, H.told, hg, aboveD, r_inT, inL_N, e2]
    by_cases hk : p.2 ∈ ks
    · have hgk : gtD (dN (fun k => D.ref (rf k)) ks) (.inl (p.2 : Int)) = some (.ref (rf p.2)) := by
        show gtD _ (kN p.2) = _
        rw [gt_dN, if_pos hk]
      obtain ⟨r3, rat⟩ := H.at_ p.2 hk
      have rlt := (List.getElem?_eq_some_iff.mp rat).1
      have ra2 : (h ++ [Ob.lst []])[rf p.2]? = some (.lst ((bk bs done p.2).map I)) := get_app rat
      have hd2 : (h ++ [Ob.lst []])[1]? = some (.dic false (dN (fun k => .ref (rf k)) ks)) := get_app H.dict
      have hset : ∀ {j : Nat} {o : Ob}, h[j]? = some o → j ≠ rf p.2 → ((h ++ [Ob.lst []]).set (rf p.2) (.lst ((bk bs done p.2 ++ [p.1]).map I)))[j]? = some o := fun {j o} e ne => by
        rw [List.getElem?_set_ne (Ne.symm ne)]; exact get_app e
      refine ⟨ks, rf, (h ++ [Ob.lst []]).set (rf p.2) (.lst ((bk bs done p.2 ++ [p.1]).map I)), ?_, ⟨hset H.told (by omega), hset H.dict (by omega), hset H.arrs (by omega), H.nd, fun k => ?_, H.lt, fun k hk' => ⟨(H.at_ k hk').1, ?_⟩, H.inj⟩⟩
      · unfold lBody eIf
        rw [test, R.bind_ok, if_pos rfl]
        simp [bodyM, sSeq, s_thenNx, s_thenRt, s_loopNx, s_loopRt, s_loopCt, s_loopBk, sAsg, sRet, sRetN, sDrop, sNil, sPar, sBrk, sCnt, eVar, eC, eOp, gmName, gmSub, eCallB, aCons, aNil, eB, eIf, eTru, mAnd, mOr, mNot, mYes, eMeth, eTup, eLst, eL, eDict0, eDict1, r_for1, forR_nat, r_forS, r_lc1, lcR_nat, r_lcS, n_non, n_bl, n_int, n_str, n_tup, n_rol, n_ref, b_non, b_bl, b_int, b_str, b_tup, b_rol, b_ref, eSetd, eItems, gmTup, gmCons, gmNil, dKey, eCall, eCallP, eDc, iSeq, wipeE, eUn, eIsi, eAnd, eOr, eNot, R.bind_ok, noX_ok, s_atI, s_atI0, s_atI1, s_atI2, s_atI3, s_atI4, s_atI5, s_add, s_sub, s_lt, s_le, s_gt, s_ge, s_isN, s_isB, s_eq_ii, s_eq_ss, s_eq_in, s_eq_ni, s_eq_nn, s_eq_sn, s_eq_ns, s_eq_bb, s_lenT, s_lenR, s_int, s_listT, s_listR, s_tupT, s_truB, s_truN, s_truI, s_truT, s_oB, s_itT, s_itR, s_inTI, s_inTS, s_isLst, r_in, r_inDi, r_inDs, inL_I, inL_S, r_ix, r_ixT, r_ixR, r_ixLi, r_ixDi, r_ixDs, r_len, r_list, r_tup, r_sort, r_tru, r_tyL, r_tyD, r_append, r_pop, r_extT, r_extR, r_it, I, H.dict, szl, hd2, hgk, hkl2, ra2, hbl]
      · rw [H.mem k, bk_app]
        by_cases e : p.2 = k
        · subst e
          have := (H.mem p.2).mp hk
          simp [this]
        · rw [if_neg (fun z => e z.1), List.append_nil]
      · by_cases e : p.2 = k
        · subst e
          rw [List.getElem?_set_self (by simp; omega), bk_app, if_pos ⟨rfl, hb⟩]
        · rw [bk_app, if_neg (fun z => e z.1), List.append_nil]
          exact hset (H.at_ k hk').2 fun z => e (H.inj p.2 hk k hk' z.symm)
    · have hgk : gtD (dN (fun k => D.ref (rf k)) ks) (.inl (p.2 : Int)) = none := by
        show gtD _ (kN p.2) = _
        rw [gt_dN, if_neg hk]
      have hnil : bk bs done p.2 = [] := by
        by_cases z : bk bs done p.2 = []
        · exact z
        · exact absurd ((H.mem p.2).mpr z) hk
      have hd2 : (h ++ [Ob.lst []])[1]? = some (.dic false (dN (fun k => .ref (rf k)) ks)) := get_app H.dict
      have hpt : ptD (dN (fun k => D.ref (rf k)) ks) (.inl (p.2 : Int)) (.ref h.length) = dN (fun k => .ref (if k = p.2 then h.length else rf k)) (ks ++ [p.2]) := by
        have e1 : dN (fun k => D.ref (rf k)) ks = dN (fun k => .ref (if k = p.2 then h.length else rf k)) ks := dN_congr fun l hl => by
          have : l ≠ p.2 := fun z => hk (by rw [← z]; exact hl)
          rw [if_neg this]
        rw [e1]
        have := pt_dN (F := fun k => D.ref (if k = p.2 then h.length else rf k)) hk
        simp only [if_pos] at this
        exact this
      have hlast : ∀ o, (((h ++ [Ob.lst []]).set 1 o))[h.length]? = some (.lst []) := fun o => by
        rw [List.getElem?_set_ne (by omega)]; simp
      have hset : ∀ {j : Nat} {o o1 o2 : Ob}, h[j]? = some o → j ≠ 1 → (((h ++ [Ob.lst []]).set 1 o1).set h.length o2)[j]? = some o := fun {j o o1 o2} e ne => by
        have hj := (List.getElem?_eq_some_iff.mp e).1
        rw [List.getElem?_set_ne (by omega), List.getElem?_set_ne (Ne.symm ne)]; exact get_app e
      refine ⟨ks ++ [p.2], fun k => if k = p.2 then h.length else rf k, ((h ++ [Ob.lst []]).set 1 (.dic false (dN (fun k => .ref (if k = p.2 then h.length else rf k)) (ks ++ [p.2])))).set h.length (.lst [I p.1]), ?_, ⟨hset H.told (by omega), ?_, hset H.arrs (by omega), List.nodup_append.mpr ⟨H.nd, by simp, fun a ha b hb e => hk (by rw [← List.mem_singleton.mp hb, ← e]; exact ha)⟩, fun k => ?_, fun k hk' => ?_, fun k hk' => ?_, fun a ha b hb e => ?_⟩⟩
      · unfold lBody eIf
        rw [test, R.bind_ok, if_pos rfl]
        have hlastG : ∀ o (hh : h.length < ((h ++ [Ob.lst []]).set 1 o).length), ((h ++ [Ob.lst []]).set 1 o)[h.length]'hh = .lst [] := fun o hh => by
          have := hlast o
          rw [List.getElem?_eq_getElem hh] at this
          exact Option.some.inj this
        simp [bodyM, sSeq, s_thenNx, s_thenRt, s_loopNx, s_loopRt, s_loopCt, s_loopBk, sAsg, sRet, sRetN, sDrop, sNil, sPar, sBrk, sCnt, eVar, eC, eOp, gmName, gmSub, eCallB, aCons, aNil, eB, eIf, eTru, mAnd, mOr, mNot, mYes, eMeth, eTup, eLst, eL, eDict0, eDict1, r_for1, forR_nat, r_forS, r_lc1, lcR_nat, r_lcS, n_non, n_bl, n_int, n_str, n_tup, n_rol, n_ref, b_non, b_bl, b_int, b_str, b_tup, b_rol, b_ref, eSetd, eItems, gmTup, gmCons, gmNil, dKey, eCall, eCallP, eDc, iSeq, wipeE, eUn, eIsi, eAnd, eOr, eNot, R.bind_ok, noX_ok, s_atI, s_atI0, s_atI1, s_atI2, s_atI3, s_atI4, s_atI5, s_add, s_sub, s_lt, s_le, s_gt, s_ge, s_isN, s_isB, s_eq_ii, s_eq_ss, s_eq_in, s_eq_ni, s_eq_nn, s_eq_sn, s_eq_ns, s_eq_bb, s_lenT, s_lenR, s_int, s_listT, s_listR, s_tupT, s_truB, s_truN, s_truI, s_truT, s_oB, s_itT, s_itR, s_inTI, s_inTS, s_isLst, r_in, r_inDi, r_inDs, inL_I, inL_S, r_ix, r_ixT, r_ixR, r_ixLi, r_ixDi, r_ixDs, r_len, r_list, r_tup, r_sort, r_tru, r_tyL, r_tyD, r_append, r_pop, r_extT, r_extR, r_it, I, H.dict, szl, hd2, hgk, hkl2, hpt, hlastG]
      · rw [List.getElem?_set_ne (by omega), List.getElem?_set_self (by simp; omega)]
      · rw [bk_app, List.mem_append, List.mem_singleton, H.mem k]
        by_cases e : p.2 = k
        · subst e; rw [if_pos ⟨rfl, hb⟩]; simp
        · have : ¬ k = p.2 := fun z => e z.symm
          rw [if_neg (fun z => e z.1)]; simp [this]
      · rcases List.mem_append.mp hk' with q | q
        · exact H.lt k q
        · rw [List.mem_singleton.mp q]; exact hlt2
      · rcases List.mem_append.mp hk' with q | q
        · have ne : k ≠ p.2 := fun z => hk (by rw [← z]; exact q)
          have z := H.at_ k q
          refine ⟨by show 3 ≤ (if k = p.2 then h.length else rf k); rw [if_neg ne]; exact z.1, ?_⟩
          show (((h ++ [Ob.lst []]).set 1 _).set h.length _)[if k = p.2 then h.length else rf k]? = _
          rw [if_neg ne, bk_app, if_neg (fun w => ne w.1.symm), List.append_nil]
          exact hset z.2 (by omega)
        · have e := List.mem_singleton.mp q
          subst e
          refine ⟨by show 3 ≤ (if p.2 = p.2 then h.length else _); rw [if_pos rfl]; omega, ?_⟩
          show (((h ++ [Ob.lst []]).set 1 _).set h.length _)[if p.2 = p.2 then h.length else rf p.2]? = _
          rw [if_pos rfl, List.getElem?_set_self (by simp), bk_app, if_pos ⟨rfl, hb⟩, hnil]
          rfl
      · have hrl : ∀ k ∈ ks, rf k < h.length := fun k hk' => (List.getElem?_eq_some_iff.mp (H.at_ k hk').2).1
        have e' : (if a = p.2 then h.length else rf a) = (if b = p.2 then h.length else rf b) := e
        rcases List.mem_append.mp ha with qa | qa
        · have na : a ≠ p.2 := fun z => hk (by rw [← z]; exact qa)
          rw [if_neg na] at e'
          rcases List.mem_append.mp hb with qb | qb
          · have nb : b ≠ p.2 := fun z => hk (by rw [← z]; exact qb)
            rw [if_neg nb] at e'
            exact H.inj a qa b qb e'
          · rw [List.mem_singleton.mp qb, if_pos rfl] at e'
            have := hrl a qa
            omega
        · have ea := List.mem_singleton.mp qa
          rcases List.mem_append.mp hb with qb | qb
          · have nb : b ≠ p.2 := fun z => hk (by rw [← z]; exact qb)
            rw [if_neg nb, if_pos ea] at e'
            have := hrl b qb
            omega
          · rw [ea, List.mem_singleton.mp qb]
end K04

namespace K04
open PySem L2 PM
def lawEnds (bs : List End) (hd : Nat) : List Nat := (met bs none).filter fun l => decide (hd ∈ waysAt bs l) && (decide (l = hd) || decide (hd ∈ abv bs l))
theorem ends_mem (bs : List End) (hd x : Nat) : x ∈ lawEnds bs hd ↔ x ∈ met bs none ∧ hd ∈ waysAt bs x ∧ (x = hd ∨ hd ∈ abv bs x) := by
  unfold lawEnds
  rw [List.mem_filter, Bool.and_eq_true, Bool.or_eq_true, decide_eq_true_eq, decide_eq_true_eq, decide_eq_true_eq]
theorem bk_mem (bs : List End) (hd x : Nat) : x ∈ bk bs (arr bs) hd ↔ x ∈ lawEnds bs hd := by
  rw [ends_mem]
  unfold bk
  simp only [List.mem_map, List.mem_filter, Bool.and_eq_true, decide_eq_true_eq]
  constructor
  · rintro ⟨p, ⟨hp, e, hb⟩, rfl⟩
    subst e
    have := (arr_mem bs p).mp hp
    unfold isB at hb
    rw [Bool.or_eq_true, decide_eq_true_eq, decide_eq_true_eq] at hb
    exact ⟨this.1, this.2, hb⟩
  · rintro ⟨h1, h2, h3⟩
    refine ⟨(x, hd), ⟨(arr_mem bs (x, hd)).mpr ⟨h1, h2⟩, rfl, ?_⟩, rfl⟩
    unfold isB
    rw [Bool.or_eq_true, decide_eq_true_eq, decide_eq_true_eq]
    exact h3
theorem bk_nil (bs : List End) (hd : Nat) : bk bs (arr bs) hd ≠ [] ↔ lawEnds bs hd ≠ [] := by
  rw [Ne, Ne, List.eq_nil_iff_forall_not_mem, List.eq_nil_iff_forall_not_mem]
  simp only [bk_mem]
theorem bk_len {bs : List End} (ok : okB bs) (hd : Nat) : (bk bs (arr bs) hd).length ≤ 18 := by
  unfold bk
  rw [List.length_map]
  exact Nat.le_trans (List.length_filter_le _ _) (arr_len ok)
/-! the law's own closure -/
def canR (bs : List End) (hd : Nat) (rows : List Nat) (l : Nat) : Bool := decide (l ∉ rows) && (waysAt bs l).any fun o => decide (o ∈ rows) && decide (o ≠ hd)
def stepR (bs : List End) (hd : Nat) (rows : List Nat) (l : Nat) : List Nat := if canR bs hd rows l = true then rows ++ [l] else rows
def passR (bs : List End) (hd : Nat) (rows : List Nat) : List Nat := (met bs none).foldl (stepR bs hd) rows
def rows0 (bs : List End) (hd : Nat) : List Nat := hd :: (lawEnds bs hd).filter fun l => decide (l ≠ hd)
def itR (bs : List End) (hd : Nat) : Nat → List Nat
  | 0 => rows0 bs hd
  | n + 1 => passR bs hd (itR bs hd n)
theorem stepR_sub {bs : List End} {hd : Nat} {rows : List Nat} {l x : Nat} (h : x ∈ rows) : x ∈ stepR bs hd rows l := by
  unfold stepR; split
  · simp [h]
  · exact h
theorem foldR_sub {bs : List End} {hd x : Nat} : ∀ (L rows : List Nat), x ∈ rows → x ∈ L.foldl (stepR bs hd) rows
  | [], _, h => h
  | l :: L, rows, h => foldR_sub L _ (stepR_sub h)
theorem foldR_has {bs : List End} {hd y o : Nat} : ∀ (L rows : List Nat), y ∈ L → o ∈ waysAt bs y → o ∈ rows → o ≠ hd → y ∈ L.foldl (stepR bs hd) rows
  | [], _, h, _, _, _ => nomatch h
  | l :: L, rows, h, ho, hr, hn => by
    rw [List.foldl_cons]
    rcases List.mem_cons.mp h with rfl | h
    · refine foldR_sub L _ ?_
      unfold stepR canR
      by_cases q : y ∈ rows
      · simp [q]
      · have : ((waysAt bs y).any fun o => decide (o ∈ rows) && decide (o ≠ hd)) = true := List.any_eq_true.mpr ⟨o, ho, by simp [hr, hn]⟩
        rw [this]; simp [q]
    · exact foldR_has L _ h ho (stepR_sub hr) hn
theorem passR_ok {bs : List End} (ok : okB bs) {hd : Nat} {rows : List Nat} (h : OkF bs rows) : OkF bs (passR bs hd rows) :=
  fold_inv (OkF bs) (fun l hl s hs => by
    unfold stepR
    split
    · rename_i q
      unfold canR at q
      rw [Bool.and_eq_true, decide_eq_true_eq] at q
      refine ⟨List.nodup_append.mpr ⟨hs.1, by simp, fun a ha b hb e => q.1 (by rw [← List.mem_singleton.mp hb, ← e]; exact ha)⟩, fun y hy => ?_⟩
      rcases List.mem_append.mp hy with z | z
      · exact hs.2 y z
      · rw [List.mem_singleton.mp z]; exact (met_ok ok none).2 l hl
    · exact hs) h
theorem rows0_ok {bs : List End} (ok : okB bs) {hd : Nat} (hh : hd < bs.length) : OkF bs (rows0 bs hd) := by
  have okm := met_ok ok none
  refine ⟨List.nodup_cons.mpr ⟨by simp, (okm.1.filter _).filter _⟩, fun y hy => ?_⟩
  rcases List.mem_cons.mp hy with rfl | hy
  · exact hh
  · exact okm.2 y ((ends_mem bs hd y).mp (List.mem_filter.mp hy).1).1
theorem itR_ok {bs : List End} (ok : okB bs) {hd : Nat} (hh : hd < bs.length) : ∀ n, OkF bs (itR bs hd n)
  | 0 => rows0_ok ok hh
  | n + 1 => passR_ok ok (itR_ok ok hh n)
theorem itR_set {bs : List End} (ok : okB bs) {hd : Nat} (hh : hd < bs.length) (x : Nat) : x ∈ itR bs hd bs.length ↔ WithinS bs hd (lawEnds bs hd) x := by
  obtain ⟨_, _, z⟩ := passes (U := List.range bs.length) (S := fun x => x = hd ∨ x ∈ lawEnds bs hd) (succ := succW bs hd) (itR bs hd) (fun i nd fu fc => by
      have hf : OkF bs (itR bs hd i) := itR_ok ok hh i
      have hf' := passR_ok ok (hd := hd) hf
      refine ⟨hf'.1, fun y hy => List.mem_range.mpr (hf'.2 y hy), ?_, fun y hy => foldR_sub _ _ hy, fun x hx y hy => ?_⟩
      · show ∀ y ∈ (met bs none).foldl (stepR bs hd) (itR bs hd i), _
        exact fold_inv (fun s => ∀ y ∈ s, Cl (fun x => x = hd ∨ x ∈ lawEnds bs hd) (succW bs hd) y) (fun l hl s hs y hy => by
          unfold stepR at hy
          split at hy
          · rename_i q
            rcases List.mem_append.mp hy with w | w
            · exact hs y w
            · rw [List.mem_singleton.mp w]
              unfold canR at q
              rw [Bool.and_eq_true, List.any_eq_true] at q
              obtain ⟨o, ho, q2⟩ := q.2
              rw [Bool.and_eq_true, decide_eq_true_eq, decide_eq_true_eq] at q2
              refine .step (hs o q2.1) ?_
              unfold succW
              rw [if_neg q2.2]
              exact (preds_mem o l).mpr ⟨hl, ho⟩
          · exact hs y hy) fc
      · unfold succW at hy
        split at hy
        · cases hy
        · rename_i hne
          have := (preds_mem x y).mp hy
          exact foldR_has _ _ this.1 this.2 hx hne)
    (itR_ok ok hh 0).1 (fun y hy => List.mem_range.mpr ((itR_ok ok hh 0).2 y hy)) (fun y hy => by
      rcases List.mem_cons.mp hy with rfl | hy
      · exact .base (.inl rfl)
      · exact .base (.inr (List.mem_filter.mp hy).1)) (fun x hx => by
      show x ∈ rows0 bs hd
      unfold rows0
      by_cases e : x = hd
      · simp [e]
      · rcases hx with hx | hx
        · exact absurd hx e
        · simp [hx, e]) (n := bs.length) (by simp)
  exact z x
def inn (bs : List End) (hd : Nat) : List Nat := srtN (itR bs hd bs.length)
theorem within_inn {bs : List End} (ok : okB bs) {hd : Nat} (hhd : hd < bs.length) {h : AH} {r : Nat} (hr : h[r]? = some (.lst ((bk bs (arr bs) hd).map I))) : ∃ g, mWithin [B bs, I hd, .ref r] h = .ok (.tup ((inn bs hd).map I)) (h ++ g) := by
  obtain ⟨f, g, e, nd, fu, fm⟩ := within_run ok hhd (ends := bk bs (arr bs) hd) (fun x hx => (met_ok ok none).2 x ((ends_mem bs hd x).mp ((bk_mem bs hd x).mp hx)).1) (bk_len ok hd) hr
  have es : srtN f = inn bs hd := srtN_set nd (itR_ok ok hhd bs.length).1 fun x => by
    rw [fm x, itR_set ok hhd x]
    exact Cl.congr (fun y => by rw [bk_mem]) (fun _ _ => Iff.rfl) x
  exact ⟨g, by rw [e, es]⟩
def heads (bs : List End) : List Nat := (met bs none).filter fun hd => decide (lawEnds bs hd ≠ [])
theorem srtN_id {l : List Nat} (h : l.Pairwise (· ≤ ·)) : srtN l = l :=
  List.Perm.eq_of_pairwise (fun a b _ _ h1 h2 => by omega) (srtN_sorted l) h (srtN_perm l)
theorem met_closed {bs : List End} (ok : okB bs) {x y : Nat} (hx : x ∈ met bs none) (hy : y ∈ waysAt bs x) : y ∈ met bs none :=
  (met_mem ok none y).mpr (.step ((met_mem ok none x).mp hx) (List.mem_filter.mpr ⟨hy, by simp⟩))
theorem heads_eq {bs : List End} (ok : okB bs) {ks : List Nat} (nd : ks.Nodup) (h : ∀ k, k ∈ ks ↔ bk bs (arr bs) k ≠ []) : srtN ks = heads bs := by
  have okm := met_ok ok none
  have e : srtN ks = srtN (heads bs) := srtN_set nd (okm.1.filter _) fun x => by
    rw [h, bk_nil]
    unfold heads
    rw [List.mem_filter, decide_eq_true_eq]
    refine ⟨fun z => ⟨?_, z⟩, fun z => z.2⟩
    obtain ⟨l, hl⟩ := List.exists_mem_of_ne_nil _ z
    have := (ends_mem bs x l).mp hl
    exact met_closed ok this.1 this.2.1
  rw [e]
  exact srtN_id ((srtN_sorted _).filter _)
def loopD (bs : List End) (hd : Nat) : D := .tup [I hd, .tup ((inn bs hd).map I)]
theorem pur_loop (bs : List End) (hd : Nat) : pur (loopD bs hd) = true := by simp [loopD, pur, purs, pur_I, pur_map_I]
theorem loopsFor {bs : List End} (ok : okB bs) : ∃ x3 x4 ks rf h', PM.forM (gmTup 2 (gmCons (gmName 3) (gmCons (gmName 4) (gmNil)))) lBody (fun h' => isLst ((arr bs).map pr) h'[2]?) ((arr bs).map pr) [some (B bs), some (.ref 0), some (.ref 1), none, none] [.dic false (dN (aboveD bs) (met bs none)), .dic false [], .lst ((arr bs).map pr)] =
    .ok (.nx [some (B bs), some (.ref 0), some (.ref 1), x3, x4]) h' ∧ HB bs (arr bs) ks rf h' := by
  have al := arr_len ok
  obtain ⟨env', h', q, x3, x4, ks, rf, e1, H⟩ := for_run (xs := arr bs) (F := pr) (g := gmTup 2 (gmCons (gmName 3) (gmCons (gmName 4) (gmNil)))) (b := lBody) (chk := fun h' => isLst ((arr bs).map pr) h'[2]?)
    (fun i env h => ∃ x3 x4 ks rf, env = [some (B bs), some (.ref 0), some (.ref 1), x3, x4] ∧ HB bs ((arr bs).take i) ks rf h)
    (fun i env h _ ⟨_, _, _, _, _, H⟩ => by rw [H.arrs]; exact s_isLst)
    (fun i p hi env h ⟨x3, x4, ks, rf, e1, H⟩ => by
      subst e1
      obtain ⟨ks', rf', h', q, H'⟩ := lBody_run ok H (List.mem_of_getElem? hi) (by rw [List.length_take]; omega)
      exact ⟨_, _, _, h', by simp [bodyM, sSeq, s_thenNx, s_thenRt, s_loopNx, s_loopRt, s_loopCt, s_loopBk, sAsg, sRet, sRetN, sDrop, sNil, sPar, sBrk, sCnt, eVar, eC, eOp, gmName, gmSub, eCallB, aCons, aNil, eB, eIf, eTru, mAnd, mOr, mNot, mYes, eMeth, eTup, eLst, eL, eDict0, eDict1, r_for1, forR_nat, r_forS, r_lc1, lcR_nat, r_lcS, n_non, n_bl, n_int, n_str, n_tup, n_rol, n_ref, b_non, b_bl, b_int, b_str, b_tup, b_rol, b_ref, eSetd, eItems, gmTup, gmCons, gmNil, dKey, eCall, eCallP, eDc, iSeq, wipeE, eUn, eIsi, eAnd, eOr, eNot, R.bind_ok, noX_ok, s_atI, s_atI0, s_atI1, s_atI2, s_atI3, s_atI4, s_atI5, s_add, s_sub, s_lt, s_le, s_gt, s_ge, s_isN, s_isB, s_eq_ii, s_eq_ss, s_eq_in, s_eq_ni, s_eq_nn, s_eq_sn, s_eq_ns, s_eq_bb, s_lenT, s_lenR, s_int, s_listT, s_listR, s_tupT, s_truB, s_truN, s_truI, s_truT, s_oB, s_itT, s_itR, s_inTI, s_inTS, s_isLst, r_in, r_inDi, r_inDs, inL_I, inL_S, r_ix, r_ixT, r_ixR, r_ixLi, r_ixDi, r_ixDs, r_len, r_list, r_tup, r_sort, r_tru, r_tyL, r_tyD, r_append, r_pop, r_extT, r_extR, r_it, pr], q, some (I p.1), some (I p.2), ks', rf', rfl, by rw [take_succ' hi]; exact H'⟩)
    (env := [some (B bs), some (.ref 0), some (.ref 1), none, none]) (h := [.dic false (dN (aboveD bs) (met bs none)), .dic false [], .lst ((arr bs).map pr)]) ⟨none, none, [], fun _ => 0, rfl, ⟨rfl, rfl, rfl, List.nodup_nil, fun k => by simp [bk], fun k hk => (nomatch hk), fun k hk => (nomatch hk), fun a ha => (nomatch ha)⟩⟩
  subst e1
  rw [List.take_length] at H
  exact ⟨x3, x4, ks, rf, h', q, H⟩
theorem loops_run {bs : List End} (ok : okB bs) : ∃ h', mLoops [B bs] [] = .ok (.tup ((heads bs).map (loopD bs))) h' := by
  obtain ⟨x3, x4, ks, rf, h1, q, H⟩ := loopsFor ok
  have h9 := ok.2.1
  have hkl : ks.length ≤ bs.length := by
    have := nodup_len H.nd (m := List.range bs.length) fun x hx => List.mem_range.mpr (H.lt x hx)
    simpa using this
  have hk64 : ks.length < 64 := by omega
  have hsk := heads_eq ok H.nd H.mem
  obtain ⟨h', q2, gb, e2⟩ := lc_run (xs := srtN ks) (F := I) (G := loopD bs) (p := fun _ => true) (env0 := [some (B bs), some (.ref 0), some (.ref 1), x3, none]) (g := gmName 4) (t := mYes) (e := eTup (aCons (eVar 4) (aCons (eCall (aCons (eVar 0) (aCons (eVar 4) (aCons (eOp oIx (eVar 2) (eVar 4)) (aNil)))) mWithin) (aNil))))
    (chk := fun h' => isLst ((srtN ks).map I) h'[h1.length]?) (fun hh => ∃ gb, hh = h1 ++ .lst ((srtN ks).map I) :: gb) (fun hh ⟨gb, e⟩ => by subst e; rw [g_0]; exact s_isLst)
    (fun k hk hh ⟨gb, e⟩ => by
      subst e
      have hk' := (srtN_mem ks k).mp hk
      obtain ⟨_, hat⟩ := H.at_ k hk'
      have hat2 : (h1 ++ Ob.lst ((srtN ks).map I) :: gb)[rf k]? = some (.lst ((bk bs (arr bs) k).map I)) := get_app hat
      have hd2 : (h1 ++ Ob.lst ((srtN ks).map I) :: gb)[1]? = some (.dic false (dN (fun k => .ref (rf k)) ks)) := get_app H.dict
      have hgk : gtD (dN (fun k => D.ref (rf k)) ks) (.inl (k : Int)) = some (.ref (rf k)) := by
        show gtD _ (kN k) = _
        rw [gt_dN, if_pos hk']
      obtain ⟨g, qw⟩ := within_inn ok (H.lt k hk') hat2
      simp only [I] at qw
      refine ⟨_, _, h1 ++ .lst ((srtN ks).map I) :: gb, rfl, rfl, fun z => (nomatch z), fun _ => ⟨h1 ++ .lst ((srtN ks).map I) :: (gb ++ g), ?_, gb ++ g, rfl⟩⟩
      simp [bodyM, sSeq, s_thenNx, s_thenRt, s_loopNx, s_loopRt, s_loopCt, s_loopBk, sAsg, sRet, sRetN, sDrop, sNil, sPar, sBrk, sCnt, eVar, eC, eOp, gmName, gmSub, eCallB, aCons, aNil, eB, eIf, eTru, mAnd, mOr, mNot, mYes, eMeth, eTup, eLst, eL, eDict0, eDict1, r_for1, forR_nat, r_forS, r_lc1, lcR_nat, r_lcS, n_non, n_bl, n_int, n_str, n_tup, n_rol, n_ref, b_non, b_bl, b_int, b_str, b_tup, b_rol, b_ref, eSetd, eItems, gmTup, gmCons, gmNil, dKey, eCall, eCallP, eDc, iSeq, wipeE, eUn, eIsi, eAnd, eOr, eNot, R.bind_ok, noX_ok, s_atI, s_atI0, s_atI1, s_atI2, s_atI3, s_atI4, s_atI5, s_add, s_sub, s_lt, s_le, s_gt, s_ge, s_isN, s_isB, s_eq_ii, s_eq_ss, s_eq_in, s_eq_ni, s_eq_nn, s_eq_sn, s_eq_ns, s_eq_bb, s_lenT, s_lenR, s_int, s_listT, s_listR, s_tupT, s_truB, s_truN, s_truI, s_truT, s_oB, s_itT, s_itR, s_inTI, s_inTS, s_isLst, r_in, r_inDi, r_inDs, inL_I, inL_S, r_ix, r_ixT, r_ixR, r_ixLi, r_ixDi, r_ixDs, r_len, r_list, r_tup, r_sort, r_tru, r_tyL, r_tyD, r_append, r_pop, r_extT, r_extR, r_it, I, hd2, hgk, qw, szl, loopD])
    [] (h1 ++ [.lst ((srtN ks).map I)]) ⟨[], rfl⟩ (by rw [(srtN_perm ks).length_eq]; simp; omega)
  subst e2
  refine ⟨h1 ++ .lst ((srtN ks).map I) :: (gb ++ [.lst ((heads bs).map (loopD bs))]), ?_⟩
  unfold mLoops
  generalize hb : lBody = Bd at q
  generalize he : eTup (aCons (eVar 4) (aCons (eCall (aCons (eVar 0) (aCons (eVar 4) (aCons (eOp oIx (eVar 2) (eVar 4)) (aNil)))) mWithin) (aNil))) = Ed at q2 ⊢
  have hkeys : (dN (fun k => D.ref (rf k)) ks).map (fun p => keyD p.1) = ks.map I := keys_dN _ _
  simp [bodyM, sSeq, s_thenNx, s_thenRt, s_loopNx, s_loopRt, s_loopCt, s_loopBk, sAsg, sRet, sRetN, sDrop, sNil, sPar, sBrk, sCnt, eVar, eC, eOp, gmName, gmSub, eCallB, aCons, aNil, eB, eIf, eTru, mAnd, mOr, mNot, mYes, eMeth, eTup, eLst, eL, eDict0, eDict1, r_for1, forR_nat, r_forS, r_lc1, lcR_nat, r_lcS, n_non, n_bl, n_int, n_str, n_tup, n_rol, n_ref, b_non, b_bl, b_int, b_str, b_tup, b_rol, b_ref, eSetd, eItems, gmTup, gmCons, gmNil, dKey, eCall, eCallP, eDc, iSeq, wipeE, eUn, eIsi, eAnd, eOr, eNot, R.bind_ok, noX_ok, s_atI, s_atI0, s_atI1, s_atI2, s_atI3, s_atI4, s_atI5, s_add, s_sub, s_lt, s_le, s_gt, s_ge, s_isN, s_isB, s_eq_ii, s_eq_ss, s_eq_in, s_eq_ni, s_eq_nn, s_eq_sn, s_eq_ns, s_eq_bb, s_lenT, s_lenR, s_int, s_listT, s_listR, s_tupT, s_truB, s_truN, s_truI, s_truT, s_oB, s_itT, s_itR, s_inTI, s_inTS, s_isLst, r_in, r_inDi, r_inDs, inL_I, inL_S, r_ix, r_ixT, r_ixR, r_ixLi, r_ixDi, r_ixDs, r_len, r_list, r_tup, r_sort, r_tru, r_tyL, r_tyD, r_append, r_pop, r_extT, r_extR, r_it, run_over ok, run_arrows ok, hb, q, H.dict, hkeys, sortL_N hk64, q2]
  rw [List.filter_eq_self.mpr (fun _ _ => rfl), hsk]
theorem run_loops {bs : List End} (ok : okB bs) (h : AH) : runP mLoops [B bs] h = .ok (.tup ((heads bs).map (loopD bs))) h := by
  obtain ⟨h', e⟩ := loops_run ok
  exact s_runP (by simp [purs, pur_B]) e (purs_map (pur_loop bs) _)
end K04

namespace K04
open PySem L2 PM
theorem eqvAll_nil : ∀ ns : List Nat, PyData.eqv (.list (ns.map fun n : Nat => PyData.int (n : Int))) (.list []) = ns.isEmpty
  | [] => by simp [PyData.eqv, PyData.eqvAll]
  | n :: ns => by simp [PyData.eqv, PyData.eqvAll]
theorem eqL_nil {h : AH} {r r2 : Nat} {L : List Nat} (e1 : h[r]? = some (.lst (L.map I))) (e2 : h[r2]? = some (.lst [])) : oEq true (.ref r) (.ref r2) h = .ok (.bl (!L.isEmpty)) h := by
  have p1 : pyd h 60 (.ref r) = some (.list (L.map fun n : Nat => PyData.int (n : Int))) := by
    show (match h[r]? with | some (.lst xs) => (pydL (pyd h 59) xs).map PyData.list | _ => none) = _
    rw [e1]
    show (pydL (pyd h 59) (L.map I)).map PyData.list = _
    rw [pydL_map (q := fun n : Nat => PyData.int (n : Int)) (fun _ => rfl)]
    rfl
  have p2 : pyd h 60 (.ref r2) = some (.list []) := by
    show (match h[r2]? with | some (.lst xs) => (pydL (pyd h 59) xs).map PyData.list | _ => none) = _
    rw [e2]
    rfl
  unfold oEq
  rw [p1, p2]
  show R.ok (D.bl (true != PyData.eqv _ _)) h = _
  rw [eqvAll_nil, Bool.true_bne]
abbrev tR : TM := mAnd (eB (eOp (oIn true) (eVar 8) (eVar 6))) (eB (eOp (oEq true) (eL (lComp (iSeq (eCallP (aCons (eOp oIx (eVar 0) (eVar 8)) (aNil)) mLawWays)) [9] (gmName 9) (mAnd (eB (eOp (oIn false) (eVar 9) (eVar 6))) (eB (eOp (oEq true) (eVar 9) (eVar 4)))) (eVar 9))) (eLst (aNil))))
theorem any_filter {α : Type} (p : α → Bool) (l : List α) : (!(l.filter p).isEmpty) = l.any p := by
  induction l with
  | nil => rfl
  | cons x l ih =>
    rw [List.any_cons]
    cases h : p x with
    | true => rw [List.filter_cons_of_pos h]; rfl
    | false => rw [List.filter_cons_of_neg (by rw [h]; exact Bool.false_ne_true), ih]; rfl
theorem tR_run {bs : List End} {hd l r : Nat} {x1 x2 x3 x5 x7 x9 : Option D} {rows : List Nat} {hh : AH} (hr : hh[r]? = some (.lst (rows.map I))) (hl : l < bs.length) :
    ∃ g, tR [some (B bs), x1, x2, x3, some (I hd), x5, some (.ref r), x7, some (I l), x9] hh = .ok (canR bs hd rows l) (hh ++ g) := by
  obtain ⟨e, he⟩ := blk_at hl
  unfold canR
  by_cases hm : l ∈ rows
  · refine ⟨[], ?_⟩
    simp [bodyM, sSeq, s_thenNx, s_thenRt, s_loopNx, s_loopRt, s_loopCt, s_loopBk, sAsg, sRet, sRetN, sDrop, sNil, sPar, sBrk, sCnt, eVar, eC, eOp, gmName, gmSub, eCallB, aCons, aNil, eB, eIf, eTru, mAnd, mOr, mNot, mYes, eMeth, eTup, eLst, eL, eDict0, eDict1, r_for1, forR_nat, r_forS, r_lc1, lcR_nat, r_lcS, n_non, n_bl, n_int, n_str, n_tup, n_rol, n_ref, b_non, b_bl, b_int, b_str, b_tup, b_rol, b_ref, eSetd, eItems, gmTup, gmCons, gmNil, dKey, eCall, eCallP, eDc, iSeq, wipeE, eUn, eIsi, eAnd, eOr, eNot, R.bind_ok, noX_ok, s_atI, s_atI0, s_atI1, s_atI2, s_atI3, s_atI4, s_atI5, s_add, s_sub, s_lt, s_le, s_gt, s_ge, s_isN, s_isB, s_eq_ii, s_eq_ss, s_eq_in, s_eq_ni, s_eq_nn, s_eq_sn, s_eq_ns, s_eq_bb, s_lenT, s_lenR, s_int, s_listT, s_listR, s_tupT, s_truB, s_truN, s_truI, s_truT, s_oB, s_itT, s_itR, s_inTI, s_inTS, s_isLst, r_in, r_inDi, r_inDs, inL_I, inL_S, r_ix, r_ixT, r_ixR, r_ixLi, r_ixDi, r_ixDs, r_len, r_list, r_tup, r_sort, r_tru, r_tyL, r_tyD, r_append, r_pop, r_extT, r_extR, r_it, I, hr, inL_N, hm]
  · have hr2 : (hh ++ [Ob.lst ((ways e).map I)])[r]? = some (.lst (rows.map I)) := get_app hr
    have hw := ways_len e
    have q := lc_pure (xs := ways e) (F := I) (G := I) (p := fun o => decide (o ∈ rows) && decide (o ≠ hd)) (env0 := [some (B bs), x1, x2, x3, some (I hd), x5, some (.ref r), x7, some (I l), none]) (g := gmName 9) (t := mAnd (eB (eOp (oIn false) (eVar 9) (eVar 6))) (eB (eOp (oEq true) (eVar 9) (eVar 4)))) (e := eVar 9)
      (chk := fun h' => isLst ((ways e).map I) h'[hh.length]?) (h := hh ++ [Ob.lst ((ways e).map I)]) (fun y => [some (B bs), x1, x2, x3, some (I hd), x5, some (.ref r), x7, some (I l), some (I y)])
      (by rw [g_0]; exact s_isLst) (fun y _ => by simp [gmName]) (fun y _ => by
        by_cases ho : y ∈ rows
        · by_cases hq : y = hd
          · subst hq; simp [bodyM, sSeq, s_thenNx, s_thenRt, s_loopNx, s_loopRt, s_loopCt, s_loopBk, sAsg, sRet, sRetN, sDrop, sNil, sPar, sBrk, sCnt, eVar, eC, eOp, gmName, gmSub, eCallB, aCons, aNil, eB, eIf, eTru, mAnd, mOr, mNot, mYes, eMeth, eTup, eLst, eL, eDict0, eDict1, r_for1, forR_nat, r_forS, r_lc1, lcR_nat, r_lcS, n_non, n_bl, n_int, n_str, n_tup, n_rol, n_ref, b_non, b_bl, b_int, b_str, b_tup, b_rol, b_ref, eSetd, eItems, gmTup, gmCons, gmNil, dKey, eCall, eCallP, eDc, iSeq, wipeE, eUn, eIsi, eAnd, eOr, eNot, R.bind_ok, noX_ok, s_atI, s_atI0, s_atI1, s_atI2, s_atI3, s_atI4, s_atI5, s_add, s_sub, s_lt, s_le, s_gt, s_ge, s_isN, s_isB, s_eq_ii, s_eq_ss, s_eq_in, s_eq_ni, s_eq_nn, s_eq_sn, s_eq_ns, s_eq_bb, s_lenT, s_lenR, s_int, s_listT, s_listR, s_tupT, s_truB, s_truN, s_truI, s_truT, s_oB, s_itT, s_itR, s_inTI, s_inTS, s_isLst, r_in, r_inDi, r_inDs, inL_I, inL_S, r_ix, r_ixT, r_ixR, r_ixLi, r_ixDi, r_ixDs, r_len, r_list, r_tup, r_sort, r_tru, r_tyL, r_tyD, r_append, r_pop, r_extT, r_extR, r_it, I, hr2, inL_N, ho]
          · have hq' : ¬ hd = y := fun z => hq z.symm
            simp [bodyM, sSeq, s_thenNx, s_thenRt, s_loopNx, s_loopRt, s_loopCt, s_loopBk, sAsg, sRet, sRetN, sDrop, sNil, sPar, sBrk, sCnt, eVar, eC, eOp, gmName, gmSub, eCallB, aCons, aNil, eB, eIf, eTru, mAnd, mOr, mNot, mYes, eMeth, eTup, eLst, eL, eDict0, eDict1, r_for1, forR_nat, r_forS, r_lc1, lcR_nat, r_lcS, n_non, n_bl, n_int, n_str, n_tup, n_rol, n_ref, b_non, b_bl, b_int, b_str, b_tup, b_rol, b_ref, eSetd, eItems, gmTup, gmCons, gmNil, dKey, eCall, eCallP, eDc, iSeq, wipeE, eUn, eIsi, eAnd, eOr, eNot, R.bind_ok, noX_ok, s_atI, s_atI0, s_atI1, s_atI2, s_atI3, s_atI4, s_atI5, s_add, s_sub, s_lt, s_le, s_gt, s_ge, s_isN, s_isB, s_eq_ii, s_eq_ss, s_eq_in, s_eq_ni, s_eq_nn, s_eq_sn, s_eq_ns, s_eq_bb, s_lenT, s_lenR, s_int, s_listT, s_listR, s_tupT, s_truB, s_truN, s_truI, s_truT, s_oB, s_itT, s_itR, s_inTI, s_inTS, s_isLst, r_in, r_inDi, r_inDs, inL_I, inL_S, r_ix, r_ixT, r_ixR, r_ixLi, r_ixDi, r_ixDs, r_len, r_list, r_tup, r_sort, r_tru, r_tyL, r_tyD, r_append, r_pop, r_extT, r_extR, r_it, I, hr2, inL_N, ho, beq_N, hq, hq']
        · simp [bodyM, sSeq, s_thenNx, s_thenRt, s_loopNx, s_loopRt, s_loopCt, s_loopBk, sAsg, sRet, sRetN, sDrop, sNil, sPar, sBrk, sCnt, eVar, eC, eOp, gmName, gmSub, eCallB, aCons, aNil, eB, eIf, eTru, mAnd, mOr, mNot, mYes, eMeth, eTup, eLst, eL, eDict0, eDict1, r_for1, forR_nat, r_forS, r_lc1, lcR_nat, r_lcS, n_non, n_bl, n_int, n_str, n_tup, n_rol, n_ref, b_non, b_bl, b_int, b_str, b_tup, b_rol, b_ref, eSetd, eItems, gmTup, gmCons, gmNil, dKey, eCall, eCallP, eDc, iSeq, wipeE, eUn, eIsi, eAnd, eOr, eNot, R.bind_ok, noX_ok, s_atI, s_atI0, s_atI1, s_atI2, s_atI3, s_atI4, s_atI5, s_add, s_sub, s_lt, s_le, s_gt, s_ge, s_isN, s_isB, s_eq_ii, s_eq_ss, s_eq_in, s_eq_ni, s_eq_nn, s_eq_sn, s_eq_ns, s_eq_bb, s_lenT, s_lenR, s_int, s_listT, s_listR, s_tupT, s_truB, s_truN, s_truI, s_truT, s_oB, s_itT, s_itR, s_inTI, s_inTS, s_isLst, r_in, r_inDi, r_inDs, inL_I, inL_S, r_ix, r_ixT, r_ixR, r_ixLi, r_ixDi, r_ixDs, r_len, r_list, r_tup, r_sort, r_tru, r_tyL, r_tyD, r_append, r_pop, r_extT, r_extR, r_it, I, hr2, inL_N, ho]) (fun y _ _ => by simp [bodyM, sSeq, s_thenNx, s_thenRt, s_loopNx, s_loopRt, s_loopCt, s_loopBk, sAsg, sRet, sRetN, sDrop, sNil, sPar, sBrk, sCnt, eVar, eC, eOp, gmName, gmSub, eCallB, aCons, aNil, eB, eIf, eTru, mAnd, mOr, mNot, mYes, eMeth, eTup, eLst, eL, eDict0, eDict1, r_for1, forR_nat, r_forS, r_lc1, lcR_nat, r_lcS, n_non, n_bl, n_int, n_str, n_tup, n_rol, n_ref, b_non, b_bl, b_int, b_str, b_tup, b_rol, b_ref, eSetd, eItems, gmTup, gmCons, gmNil, dKey, eCall, eCallP, eDc, iSeq, wipeE, eUn, eIsi, eAnd, eOr, eNot, R.bind_ok, noX_ok, s_atI, s_atI0, s_atI1, s_atI2, s_atI3, s_atI4, s_atI5, s_add, s_sub, s_lt, s_le, s_gt, s_ge, s_isN, s_isB, s_eq_ii, s_eq_ss, s_eq_in, s_eq_ni, s_eq_nn, s_eq_sn, s_eq_ns, s_eq_bb, s_lenT, s_lenR, s_int, s_listT, s_listR, s_tupT, s_truB, s_truN, s_truI, s_truT, s_oB, s_itT, s_itR, s_inTI, s_inTS, s_isLst, r_in, r_inDi, r_inDs, inL_I, inL_S, r_ix, r_ixT, r_ixR, r_ixLi, r_ixDi, r_ixDs, r_len, r_list, r_tup, r_sort, r_tru, r_tyL, r_tyD, r_append, r_pop, r_extT, r_extR, r_it]) (by omega)
    have q' : lcM [some (B bs), x1, x2, x3, some (D.int (hd : Nat)), x5, some (.ref r), x7, some (D.int (l : Nat)), none] (gmName 9) (mAnd (eB (eOp (oIn false) (eVar 9) (eVar 6))) (eB (eOp (oEq true) (eVar 9) (eVar 4)))) (eVar 9) (fun h' => isLst ((ways e).map I) h'[hh.length]?) ((ways e).map I) [] (hh ++ [Ob.lst ((ways e).map I)]) = _ := q
    have hix := ixB (h := hh) he
    simp only [I] at hix
    generalize hK : (ways e).filter (fun o => decide (o ∈ rows) && decide (o ≠ hd)) = K at q'
    have hany : (!K.isEmpty) = ((waysAt bs l).any fun o => decide (o ∈ rows) && decide (o ≠ hd)) := by rw [← hK, any_filter, waysAt_of he]
    rw [← hany]
    refine ⟨[Ob.lst ((ways e).map I), .lst (K.map I), .lst []], ?_⟩
    have e1 : (hh ++ [Ob.lst ((ways e).map I), .lst (K.map I), .lst []])[hh.length + 1]? = some (.lst (K.map I)) := g_1 _ _ _ _
    have e2 : (hh ++ [Ob.lst ((ways e).map I), .lst (K.map I), .lst []])[hh.length + 1 + 1]? = some (.lst []) := g_2 _ _ _ _ _
    have eq := eqL_nil e1 e2
    simp [bodyM, sSeq, s_thenNx, s_thenRt, s_loopNx, s_loopRt, s_loopCt, s_loopBk, sAsg, sRet, sRetN, sDrop, sNil, sPar, sBrk, sCnt, eVar, eC, eOp, gmName, gmSub, eCallB, aCons, aNil, eB, eIf, eTru, mAnd, mOr, mNot, mYes, eMeth, eTup, eLst, eL, eDict0, eDict1, r_for1, forR_nat, r_forS, r_lc1, lcR_nat, r_lcS, n_non, n_bl, n_int, n_str, n_tup, n_rol, n_ref, b_non, b_bl, b_int, b_str, b_tup, b_rol, b_ref, eSetd, eItems, gmTup, gmCons, gmNil, dKey, eCall, eCallP, eDc, iSeq, wipeE, eUn, eIsi, eAnd, eOr, eNot, R.bind_ok, noX_ok, s_atI, s_atI0, s_atI1, s_atI2, s_atI3, s_atI4, s_atI5, s_add, s_sub, s_lt, s_le, s_gt, s_ge, s_isN, s_isB, s_eq_ii, s_eq_ss, s_eq_in, s_eq_ni, s_eq_nn, s_eq_sn, s_eq_ns, s_eq_bb, s_lenT, s_lenR, s_int, s_listT, s_listR, s_tupT, s_truB, s_truN, s_truI, s_truT, s_oB, s_itT, s_itR, s_inTI, s_inTS, s_isLst, r_in, r_inDi, r_inDs, inL_I, inL_S, r_ix, r_ixT, r_ixR, r_ixLi, r_ixDi, r_ixDs, r_len, r_list, r_tup, r_sort, r_tru, r_tyL, r_tyD, r_append, r_pop, r_extT, r_extR, r_it, I, hr, inL_N, hm, hix, runLawWays]
    generalize hM : mAnd (eB (eOp (oIn false) (eVar 9) (eVar 6))) (eB (eOp (oEq true) (eVar 9) (eVar 4))) = Md at q' ⊢
    simp [bodyM, sSeq, s_thenNx, s_thenRt, s_loopNx, s_loopRt, s_loopCt, s_loopBk, sAsg, sRet, sRetN, sDrop, sNil, sPar, sBrk, sCnt, eVar, eC, eOp, gmName, gmSub, eCallB, aCons, aNil, eB, eIf, eTru, mAnd, mOr, mNot, mYes, eMeth, eTup, eLst, eL, eDict0, eDict1, r_for1, forR_nat, r_forS, r_lc1, lcR_nat, r_lcS, n_non, n_bl, n_int, n_str, n_tup, n_rol, n_ref, b_non, b_bl, b_int, b_str, b_tup, b_rol, b_ref, eSetd, eItems, gmTup, gmCons, gmNil, dKey, eCall, eCallP, eDc, iSeq, wipeE, eUn, eIsi, eAnd, eOr, eNot, R.bind_ok, noX_ok, s_atI, s_atI0, s_atI1, s_atI2, s_atI3, s_atI4, s_atI5, s_add, s_sub, s_lt, s_le, s_gt, s_ge, s_isN, s_isB, s_eq_ii, s_eq_ss, s_eq_in, s_eq_ni, s_eq_nn, s_eq_sn, s_eq_ns, s_eq_bb, s_lenT, s_lenR, s_int, s_listT, s_listR, s_tupT, s_truB, s_truN, s_truI, s_truT, s_oB, s_itT, s_itR, s_inTI, s_inTS, s_isLst, r_in, r_inDi, r_inDs, inL_I, inL_S, r_ix, r_ixT, r_ixR, r_ixLi, r_ixDi, r_ixDs, r_len, r_list, r_tup, r_sort, r_tru, r_tyL, r_tyD, r_append, r_pop, r_extT, r_extR, r_it, q', szl, eq]
abbrev rBd : SM := eIf tR (sDrop (eMeth .l (eVar 6) (aCons (eVar 8) (aNil)) oAppend)) (sNil)
theorem rBd_run {bs : List End} (ok : okB bs) {hd l : Nat} {x1 x2 x3 x5 x7 x9 : Option D} {rows : List Nat} {H0 gb : AH} (hf : OkF bs rows) (hl : l < bs.length) :
    ∃ gb', rBd [some (B bs), x1, x2, x3, some (I hd), x5, some (.ref H0.length), x7, some (I l), x9] (H0 ++ .lst (rows.map I) :: gb) = .ok (.nx [some (B bs), x1, x2, x3, some (I hd), x5, some (.ref H0.length), x7, some (I l), x9]) (H0 ++ .lst ((stepR bs hd rows l).map I) :: gb') := by
  obtain ⟨g, q⟩ := tR_run (bs := bs) (hd := hd) (l := l) (x1 := x1) (x2 := x2) (x3 := x3) (x5 := x5) (x7 := x7) (x9 := x9) (g_0 H0 (Ob.lst (rows.map I)) gb) hl
  have h9 := ok.2.1
  have hfl := hf.len
  have h1 : rows.length < 16777216 := by omega
  refine ⟨gb ++ g, ?_⟩
  unfold rBd eIf stepR
  rw [q, R.bind_ok]
  cases hc : canR bs hd rows l with
  | false => simp [bodyM, sSeq, s_thenNx, s_thenRt, s_loopNx, s_loopRt, s_loopCt, s_loopBk, sAsg, sRet, sRetN, sDrop, sNil, sPar, sBrk, sCnt, eVar, eC, eOp, gmName, gmSub, eCallB, aCons, aNil, eB, eIf, eTru, mAnd, mOr, mNot, mYes, eMeth, eTup, eLst, eL, eDict0, eDict1, r_for1, forR_nat, r_forS, r_lc1, lcR_nat, r_lcS, n_non, n_bl, n_int, n_str, n_tup, n_rol, n_ref, b_non, b_bl, b_int, b_str, b_tup, b_rol, b_ref, eSetd, eItems, gmTup, gmCons, gmNil, dKey, eCall, eCallP, eDc, iSeq, wipeE, eUn, eIsi, eAnd, eOr, eNot, R.bind_ok, noX_ok, s_atI, s_atI0, s_atI1, s_atI2, s_atI3, s_atI4, s_atI5, s_add, s_sub, s_lt, s_le, s_gt, s_ge, s_isN, s_isB, s_eq_ii, s_eq_ss, s_eq_in, s_eq_ni, s_eq_nn, s_eq_sn, s_eq_ns, s_eq_bb, s_lenT, s_lenR, s_int, s_listT, s_listR, s_tupT, s_truB, s_truN, s_truI, s_truT, s_oB, s_itT, s_itR, s_inTI, s_inTS, s_isLst, r_in, r_inDi, r_inDs, inL_I, inL_S, r_ix, r_ixT, r_ixR, r_ixLi, r_ixDi, r_ixDs, r_len, r_list, r_tup, r_sort, r_tru, r_tyL, r_tyD, r_append, r_pop, r_extT, r_extR, r_it]
  | true => simp [bodyM, sSeq, s_thenNx, s_thenRt, s_loopNx, s_loopRt, s_loopCt, s_loopBk, sAsg, sRet, sRetN, sDrop, sNil, sPar, sBrk, sCnt, eVar, eC, eOp, gmName, gmSub, eCallB, aCons, aNil, eB, eIf, eTru, mAnd, mOr, mNot, mYes, eMeth, eTup, eLst, eL, eDict0, eDict1, r_for1, forR_nat, r_forS, r_lc1, lcR_nat, r_lcS, n_non, n_bl, n_int, n_str, n_tup, n_rol, n_ref, b_non, b_bl, b_int, b_str, b_tup, b_rol, b_ref, eSetd, eItems, gmTup, gmCons, gmNil, dKey, eCall, eCallP, eDc, iSeq, wipeE, eUn, eIsi, eAnd, eOr, eNot, R.bind_ok, noX_ok, s_atI, s_atI0, s_atI1, s_atI2, s_atI3, s_atI4, s_atI5, s_add, s_sub, s_lt, s_le, s_gt, s_ge, s_isN, s_isB, s_eq_ii, s_eq_ss, s_eq_in, s_eq_ni, s_eq_nn, s_eq_sn, s_eq_ns, s_eq_bb, s_lenT, s_lenR, s_int, s_listT, s_listR, s_tupT, s_truB, s_truN, s_truI, s_truT, s_oB, s_itT, s_itR, s_inTI, s_inTS, s_isLst, r_in, r_inDi, r_inDs, inL_I, inL_S, r_ix, r_ixT, r_ixR, r_ixLi, r_ixDi, r_ixDs, r_len, r_list, r_tup, r_sort, r_tru, r_tyL, r_tyD, r_append, r_pop, r_extT, r_extR, r_it, szl, h1]
abbrev rMid : SM := sFor (iSeq (eVar 2)) (gmName 8) rBd
theorem rMid_run {bs : List End} (ok : okB bs) {hd m : Nat} {x1 x3 x5 x7 x8 x9 : Option D} {rows : List Nat} {H0 gb : AH} (hf : OkF bs rows) (hm : H0[m]? = some (.lst ((met bs none).map I))) :
    ∃ x8' gb', rMid [some (B bs), x1, some (.ref m), x3, some (I hd), x5, some (.ref H0.length), x7, x8, x9] (H0 ++ .lst (rows.map I) :: gb) = .ok (.nx [some (B bs), x1, some (.ref m), x3, some (I hd), x5, some (.ref H0.length), x7, x8', x9]) (H0 ++ .lst ((passR bs hd rows).map I) :: gb') := by
  have hma : ∀ R, (H0 ++ R)[m]? = some (.lst ((met bs none).map I)) := fun R => get_app hm
  obtain ⟨env', h', q, x8', gb', e1, e2⟩ := for_run (xs := met bs none) (F := I) (g := gmName 8) (b := rBd) (chk := fun h' => isLst ((met bs none).map I) h'[m]?)
    (fun i env h => ∃ x8 gb, env = [some (B bs), x1, some (.ref m), x3, some (I hd), x5, some (.ref H0.length), x7, x8, x9] ∧ h = H0 ++ .lst ((((met bs none).take i).foldl (stepR bs hd) rows).map I) :: gb)
    (fun i env h _ ⟨x8, gb, _, e2⟩ => by subst e2; rw [hma]; exact s_isLst)
    (fun i l hi env h ⟨x8, gb, e1, e2⟩ => by
      subst e1 e2
      have hlm := List.mem_of_getElem? hi
      have okp : OkF bs (((met bs none).take i).foldl (stepR bs hd) rows) := fold_inv (OkF bs) (fun y hy s hs => by
        unfold stepR
        split
        · rename_i q
          unfold canR at q
          rw [Bool.and_eq_true, decide_eq_true_eq] at q
          refine ⟨List.nodup_append.mpr ⟨hs.1, by simp, fun a ha b hb e => q.1 (by rw [← List.mem_singleton.mp hb, ← e]; exact ha)⟩, fun z hz => ?_⟩
          rcases List.mem_append.mp hz with w | w
          · exact hs.2 z w
          · rw [List.mem_singleton.mp w]; exact (met_ok ok none).2 y (List.mem_of_mem_take hy)
        · exact hs) hf
      obtain ⟨gb', q⟩ := rBd_run ok (hd := hd) (l := l) (x1 := x1) (x2 := some (.ref m)) (x3 := x3) (x5 := x5) (x7 := x7) (x9 := x9) (H0 := H0) (gb := gb) okp ((met_ok ok none).2 l hlm)
      exact ⟨_, _, _, _, rfl, q, some (I l), gb', rfl, by rw [take_succ' hi, List.foldl_append]; rfl⟩)
    (env := [some (B bs), x1, some (.ref m), x3, some (I hd), x5, some (.ref H0.length), x7, x8, x9]) (h := H0 ++ .lst (rows.map I) :: gb) ⟨x8, gb, rfl, rfl⟩
  subst e1 e2
  rw [List.take_length] at q
  refine ⟨x8', gb', ?_⟩
  have e : ((met bs none).foldl (stepR bs hd) rows) = passR bs hd rows := rfl
  rw [e] at q
  rw [← q]
  simp [bodyM, sSeq, s_thenNx, s_thenRt, s_loopNx, s_loopRt, s_loopCt, s_loopBk, sAsg, sRet, sRetN, sDrop, sNil, sPar, sBrk, sCnt, eVar, eC, eOp, gmName, gmSub, eCallB, aCons, aNil, eB, eIf, eTru, mAnd, mOr, mNot, mYes, eMeth, eTup, eLst, eL, eDict0, eDict1, r_for1, forR_nat, r_forS, r_lc1, lcR_nat, r_lcS, n_non, n_bl, n_int, n_str, n_tup, n_rol, n_ref, b_non, b_bl, b_int, b_str, b_tup, b_rol, b_ref, eSetd, eItems, gmTup, gmCons, gmNil, dKey, eCall, eCallP, eDc, iSeq, wipeE, eUn, eIsi, eAnd, eOr, eNot, R.bind_ok, noX_ok, s_atI, s_atI0, s_atI1, s_atI2, s_atI3, s_atI4, s_atI5, s_add, s_sub, s_lt, s_le, s_gt, s_ge, s_isN, s_isB, s_eq_ii, s_eq_ss, s_eq_in, s_eq_ni, s_eq_nn, s_eq_sn, s_eq_ns, s_eq_bb, s_lenT, s_lenR, s_int, s_listT, s_listR, s_tupT, s_truB, s_truN, s_truI, s_truT, s_oB, s_itT, s_itR, s_inTI, s_inTS, s_isLst, r_in, r_inDi, r_inDs, inL_I, inL_S, r_ix, r_ixT, r_ixR, r_ixLi, r_ixDi, r_ixDs, r_len, r_list, r_tup, r_sort, r_tru, r_tyL, r_tyD, r_append, r_pop, r_extT, r_extR, r_it, hma]
theorem rOut_run {bs : List End} (ok : okB bs) {hd m : Nat} (hh : hd < bs.length) {x1 x3 x5 x7 x8 x9 : Option D} {H0 : AH} (hm : H0[m]? = some (.lst ((met bs none).map I))) :
    ∃ x7' x8' gb', sFor (iRange1 (aCons (eCallB (aCons (eVar 0) (aNil)) oLen) (aNil))) (gmName 7) rMid [some (B bs), x1, some (.ref m), x3, some (I hd), x5, some (.ref H0.length), x7, x8, x9] (H0 ++ [.lst ((rows0 bs hd).map I)]) = .ok (.nx [some (B bs), x1, some (.ref m), x3, some (I hd), x5, some (.ref H0.length), x7', x8', x9]) (H0 ++ .lst ((itR bs hd bs.length).map I) :: gb') := by
  obtain ⟨env', h', q, x7', x8', gb', e1, e2⟩ := for_run (xs := List.range bs.length) (F := fun i : Nat => D.int ((i : Nat) : Int)) (g := gmName 7) (b := rMid) (chk := fun _ => true)
    (fun i env h => ∃ x7 x8 gb, env = [some (B bs), x1, some (.ref m), x3, some (I hd), x5, some (.ref H0.length), x7, x8, x9] ∧ h = H0 ++ .lst ((itR bs hd i).map I) :: gb)
    (fun _ _ _ _ _ => rfl)
    (fun i t hi env h ⟨x7, x8, gb, e1, e2⟩ => by
      subst e1 e2
      obtain ⟨x8', gb', q⟩ := rMid_run ok (hd := hd) (m := m) (x1 := x1) (x3 := x3) (x5 := x5) (x7 := some (.int (t : Int))) (x8 := x8) (x9 := x9) (H0 := H0) (gb := gb) (itR_ok ok hh i) hm
      exact ⟨_, _, _, _, rfl, q, some (.int (t : Int)), x8', gb', rfl, rfl⟩)
    (env := [some (B bs), x1, some (.ref m), x3, some (I hd), x5, some (.ref H0.length), x7, x8, x9]) (h := H0 ++ [.lst ((rows0 bs hd).map I)]) ⟨x7, x8, [], rfl, rfl⟩
  subst e1 e2
  rw [List.length_range] at q
  refine ⟨x7', x8', gb', ?_⟩
  have hb : SmN bs.length := by have := ok.2.1; unfold SmN; omega
  rw [← q]
  generalize rMid = Md
  simp [bodyM, sSeq, s_thenNx, s_thenRt, s_loopNx, s_loopRt, s_loopCt, s_loopBk, sAsg, sRet, sRetN, sDrop, sNil, sPar, sBrk, sCnt, eVar, eC, eOp, gmName, gmSub, eCallB, aCons, aNil, eB, eIf, eTru, mAnd, mOr, mNot, mYes, eMeth, eTup, eLst, eL, eDict0, eDict1, r_for1, forR_nat, r_forS, r_lc1, lcR_nat, r_lcS, n_non, n_bl, n_int, n_str, n_tup, n_rol, n_ref, b_non, b_bl, b_int, b_str, b_tup, b_rol, b_ref, eSetd, eItems, gmTup, gmCons, gmNil, dKey, eCall, eCallP, eDc, iSeq, wipeE, eUn, eIsi, eAnd, eOr, eNot, R.bind_ok, noX_ok, s_atI, s_atI0, s_atI1, s_atI2, s_atI3, s_atI4, s_atI5, s_add, s_sub, s_lt, s_le, s_gt, s_ge, s_isN, s_isB, s_eq_ii, s_eq_ss, s_eq_in, s_eq_ni, s_eq_nn, s_eq_sn, s_eq_ns, s_eq_bb, s_lenT, s_lenR, s_int, s_listT, s_listR, s_tupT, s_truB, s_truN, s_truI, s_truT, s_oB, s_itT, s_itR, s_inTI, s_inTS, s_isLst, r_in, r_inDi, r_inDs, inL_I, inL_S, r_ix, r_ixT, r_ixR, r_ixLi, r_ixDi, r_ixDs, r_len, r_list, r_tup, r_sort, r_tru, r_tyL, r_tyD, r_append, r_pop, r_extT, r_extR, r_it, lenB, hb]
end K04

namespace K04
open PySem L2 PM
def aboveL (bs : List End) : List D := (List.range bs.length).map (aboveD bs)
theorem above_at {bs : List End} {l : Nat} (h : l < bs.length) : (aboveL bs)[l]? = some (aboveD bs l) := by
  unfold aboveL
  rw [List.getElem?_map, List.getElem?_range h]; rfl
theorem sq_eq {s t : SM} {env : PM.Env} {h : AH} : sSeq s t env h = (s env h).bind (thenS t) := rfl
theorem if_eq {t : TM} {a b : SM} {env : PM.Env} {h : AH} : eIf t a b env h = (t env h).bind fun k h1 => if k = true then a env h1 else b env h1 := rfl
abbrev tE1 : TM := mAnd (eB (eOp (oIn false) (eVar 4) (eCallP (aCons (eOp oIx (eVar 0) (eVar 8)) (aNil)) mLawWays))) (mOr (eB (eOp (oEq false) (eVar 4) (eVar 8))) (eB (eOp (oIn false) (eVar 4) (eOp oIx (eVar 1) (eVar 8)))))
theorem ends_run {bs : List End} (ok : okB bs) {hd m a : Nat} {x3 x5 x6 x7 x9 : Option D} {hh : AH} (hm : hh[m]? = some (Ob.lst ((met bs none).map I))) (ha : hh[a]? = some (Ob.lst (aboveL bs))) :
    ∃ g, lcM [some (B bs), some (.ref a), some (.ref m), x3, some (I hd), x5, x6, x7, none, x9] (gmName 8) tE1 (eVar 8) (fun h' => isLst ((met bs none).map I) h'[m]?) ((met bs none).map I) [] hh = .ok ((lawEnds bs hd).map I) (hh ++ g) := by
  have okm := met_ok ok none
  obtain ⟨h', q, g, e⟩ := lc_run (xs := met bs none) (F := I) (G := I) (p := fun l => decide (hd ∈ waysAt bs l) && (decide (l = hd) || decide (hd ∈ abv bs l))) (env0 := [some (B bs), some (.ref a), some (.ref m), x3, some (I hd), x5, x6, x7, none, x9]) (g := gmName 8) (t := tE1) (e := eVar 8)
    (chk := fun h' => isLst ((met bs none).map I) h'[m]?) (fun h => ∃ g, h = hh ++ g) (fun h ⟨g, e⟩ => by subst e; rw [get_app hm]; exact s_isLst)
    (fun l hl h ⟨g, e⟩ => by
      subst e
      have hlt := okm.2 l hl
      obtain ⟨e, he⟩ := blk_at hlt
      have hix := ixB (h := hh ++ g) he
      simp only [I] at hix
      have haa : ∀ R, (hh ++ R)[a]? = some (Ob.lst (aboveL bs)) := fun R => get_app ha
      have hab := above_at hlt
      refine ⟨[some (B bs), some (.ref a), some (.ref m), x3, some (I hd), x5, x6, x7, some (I l), x9], hh ++ g, hh ++ (g ++ [Ob.lst ((ways e).map I)]), rfl, ?_, fun _ => ⟨_, rfl⟩, fun _ => ⟨_, rfl, _, rfl⟩⟩
      rw [waysAt_of he]
      by_cases h1 : hd ∈ ways e
      · by_cases h2 : l = hd
        · subst h2; simp [bodyM, sSeq, s_thenNx, s_thenRt, s_loopNx, s_loopRt, s_loopCt, s_loopBk, sAsg, sRet, sRetN, sDrop, sNil, sPar, sBrk, sCnt, eVar, eC, eOp, gmName, gmSub, eCallB, aCons, aNil, eB, eIf, eTru, mAnd, mOr, mNot, mYes, eMeth, eTup, eLst, eL, eDict0, eDict1, r_for1, forR_nat, r_forS, r_lc1, lcR_nat, r_lcS, n_non, n_bl, n_int, n_str, n_tup, n_rol, n_ref, b_non, b_bl, b_int, b_str, b_tup, b_rol, b_ref, eSetd, eItems, gmTup, gmCons, gmNil, dKey, eCall, eCallP, eDc, iSeq, wipeE, eUn, eIsi, eAnd, eOr, eNot, R.bind_ok, noX_ok, s_atI, s_atI0, s_atI1, s_atI2, s_atI3, s_atI4, s_atI5, s_add, s_sub, s_lt, s_le, s_gt, s_ge, s_isN, s_isB, s_eq_ii, s_eq_ss, s_eq_in, s_eq_ni, s_eq_nn, s_eq_sn, s_eq_ns, s_eq_bb, s_lenT, s_lenR, s_int, s_listT, s_listR, s_tupT, s_truB, s_truN, s_truI, s_truT, s_oB, s_itT, s_itR, s_inTI, s_inTS, s_isLst, r_in, r_inDi, r_inDs, inL_I, inL_S, r_ix, r_ixT, r_ixR, r_ixLi, r_ixDi, r_ixDs, r_len, r_list, r_tup, r_sort, r_tru, r_tyL, r_tyD, r_append, r_pop, r_extT, r_extR, r_it, I, hix, runLawWays, inL_N, h1]
        · by_cases h3 : hd ∈ abv bs l
          · simp [bodyM, sSeq, s_thenNx, s_thenRt, s_loopNx, s_loopRt, s_loopCt, s_loopBk, sAsg, sRet, sRetN, sDrop, sNil, sPar, sBrk, sCnt, eVar, eC, eOp, gmName, gmSub, eCallB, aCons, aNil, eB, eIf, eTru, mAnd, mOr, mNot, mYes, eMeth, eTup, eLst, eL, eDict0, eDict1, r_for1, forR_nat, r_forS, r_lc1, lcR_nat, r_lcS, n_non, n_bl, n_int, n_str, n_tup, n_rol, n_ref, b_non, b_bl, b_int, b_str, b_tup, b_rol, b_ref, eSetd, eItems, gmTup, gmCons, gmNil, dKey, eCall, eCallP, eDc, iSeq, wipeE, eUn, eIsi, eAnd, eOr, eNot, R.bind_ok, noX_ok, s_atI, s_atI0, s_atI1, s_atI2, s_atI3, s_atI4, s_atI5, s_add, s_sub, s_lt, s_le, s_gt, s_ge, s_isN, s_isB, s_eq_ii, s_eq_ss, s_eq_in, s_eq_ni, s_eq_nn, s_eq_sn, s_eq_ns, s_eq_bb, s_lenT, s_lenR, s_int, s_listT, s_listR, s_tupT, s_truB, s_truN, s_truI, s_truT, s_oB, s_itT, s_itR, s_inTI, s_inTS, s_isLst, r_in, r_inDi, r_inDs, inL_I, inL_S, r_ix, r_ixT, r_ixR, r_ixLi, r_ixDi, r_ixDs, r_len, r_list, r_tup, r_sort, r_tru, r_tyL, r_tyD, r_append, r_pop, r_extT, r_extR, r_it, I, hix, runLawWays, inL_N, h1, beq_N, h2, haa, hab, aboveD, r_inT, h3]
          · simp [bodyM, sSeq, s_thenNx, s_thenRt, s_loopNx, s_loopRt, s_loopCt, s_loopBk, sAsg, sRet, sRetN, sDrop, sNil, sPar, sBrk, sCnt, eVar, eC, eOp, gmName, gmSub, eCallB, aCons, aNil, eB, eIf, eTru, mAnd, mOr, mNot, mYes, eMeth, eTup, eLst, eL, eDict0, eDict1, r_for1, forR_nat, r_forS, r_lc1, lcR_nat, r_lcS, n_non, n_bl, n_int, n_str, n_tup, n_rol, n_ref, b_non, b_bl, b_int, b_str, b_tup, b_rol, b_ref, eSetd, eItems, gmTup, gmCons, gmNil, dKey, eCall, eCallP, eDc, iSeq, wipeE, eUn, eIsi, eAnd, eOr, eNot, R.bind_ok, noX_ok, s_atI, s_atI0, s_atI1, s_atI2, s_atI3, s_atI4, s_atI5, s_add, s_sub, s_lt, s_le, s_gt, s_ge, s_isN, s_isB, s_eq_ii, s_eq_ss, s_eq_in, s_eq_ni, s_eq_nn, s_eq_sn, s_eq_ns, s_eq_bb, s_lenT, s_lenR, s_int, s_listT, s_listR, s_tupT, s_truB, s_truN, s_truI, s_truT, s_oB, s_itT, s_itR, s_inTI, s_inTS, s_isLst, r_in, r_inDi, r_inDs, inL_I, inL_S, r_ix, r_ixT, r_ixR, r_ixLi, r_ixDi, r_ixDs, r_len, r_list, r_tup, r_sort, r_tru, r_tyL, r_tyD, r_append, r_pop, r_extT, r_extR, r_it, I, hix, runLawWays, inL_N, h1, beq_N, h2, haa, hab, aboveD, r_inT, h3]
      · simp [bodyM, sSeq, s_thenNx, s_thenRt, s_loopNx, s_loopRt, s_loopCt, s_loopBk, sAsg, sRet, sRetN, sDrop, sNil, sPar, sBrk, sCnt, eVar, eC, eOp, gmName, gmSub, eCallB, aCons, aNil, eB, eIf, eTru, mAnd, mOr, mNot, mYes, eMeth, eTup, eLst, eL, eDict0, eDict1, r_for1, forR_nat, r_forS, r_lc1, lcR_nat, r_lcS, n_non, n_bl, n_int, n_str, n_tup, n_rol, n_ref, b_non, b_bl, b_int, b_str, b_tup, b_rol, b_ref, eSetd, eItems, gmTup, gmCons, gmNil, dKey, eCall, eCallP, eDc, iSeq, wipeE, eUn, eIsi, eAnd, eOr, eNot, R.bind_ok, noX_ok, s_atI, s_atI0, s_atI1, s_atI2, s_atI3, s_atI4, s_atI5, s_add, s_sub, s_lt, s_le, s_gt, s_ge, s_isN, s_isB, s_eq_ii, s_eq_ss, s_eq_in, s_eq_ni, s_eq_nn, s_eq_sn, s_eq_ns, s_eq_bb, s_lenT, s_lenR, s_int, s_listT, s_listR, s_tupT, s_truB, s_truN, s_truI, s_truT, s_oB, s_itT, s_itR, s_inTI, s_inTS, s_isLst, r_in, r_inDi, r_inDs, inL_I, inL_S, r_ix, r_ixT, r_ixR, r_ixLi, r_ixDi, r_ixDs, r_len, r_list, r_tup, r_sort, r_tru, r_tyL, r_tyD, r_append, r_pop, r_extT, r_extR, r_it, I, hix, runLawWays, inL_N, h1])
    [] hh ⟨[], by simp⟩ (by have := okm.len; have := ok.2.1; simp; omega)
  subst e
  exact ⟨g, by rw [q]; rfl⟩
abbrev lOut : SM := sSeq (sAsg (eL (lComp (iSeq (eVar 2)) [8] (gmName 8) tE1 (eVar 8))) (gmName 5)) (eIf (eB (eOp (oEq true) (eVar 5) (eLst (aNil)))) (sSeq (sAsg (eOp oAdd (eLst (aCons (eVar 4) (aNil))) (eL (lComp (iSeq (eVar 5)) [8] (gmName 8) (eB (eOp (oEq true) (eVar 8) (eVar 4))) (eVar 8)))) (gmName 6)) (sSeq (sFor (iRange1 (aCons (eCallB (aCons (eVar 0) (aNil)) oLen) (aNil))) (gmName 7) rMid) (sDrop (eMeth .l (eVar 3) (aCons (eTup (aCons (eVar 4) (aCons (eCallB (aCons (eCallB (aCons (eVar 6) (aNil)) oSorted) (aNil)) oTuple) (aNil)))) (aNil)) oAppend)))) (sNil))
theorem rows_asg {bs : List End} {hd : Nat} {x1 x2 x3 x6 x7 x8 x9 : Option D} (el : (lawEnds bs hd).length ≤ 9) (HH : AH) :
    sAsg (eOp oAdd (eLst (aCons (eVar 4) (aNil))) (eL (lComp (iSeq (eVar 5)) [8] (gmName 8) (eB (eOp (oEq true) (eVar 8) (eVar 4))) (eVar 8)))) (gmName 6) [some (B bs), x1, x2, x3, some (I hd), some (.ref HH.length), x6, x7, x8, x9] (HH ++ [Ob.lst ((lawEnds bs hd).map I), Ob.lst []]) =
      .ok (.nx [some (B bs), x1, x2, x3, some (I hd), some (.ref HH.length), some (.ref (HH ++ [Ob.lst ((lawEnds bs hd).map I), Ob.lst [], Ob.lst [I hd], Ob.lst (((lawEnds bs hd).filter fun l => decide (l ≠ hd)).map I)]).length), x7, x8, x9]) ((HH ++ [Ob.lst ((lawEnds bs hd).map I), Ob.lst [], Ob.lst [I hd], Ob.lst (((lawEnds bs hd).filter fun l => decide (l ≠ hd)).map I)]) ++ [Ob.lst ((rows0 bs hd).map I)]) := by
  have q := lc_pure (xs := lawEnds bs hd) (F := I) (G := I) (p := fun l => decide (l ≠ hd)) (env0 := [some (B bs), x1, x2, x3, some (I hd), some (.ref HH.length), x6, x7, none, x9]) (g := gmName 8) (t := eB (eOp (oEq true) (eVar 8) (eVar 4))) (e := eVar 8)
    (chk := fun h' => isLst ((lawEnds bs hd).map I) h'[HH.length]?) (h := HH ++ [Ob.lst ((lawEnds bs hd).map I), Ob.lst [], Ob.lst [I hd]]) (fun y => [some (B bs), x1, x2, x3, some (I hd), some (.ref HH.length), x6, x7, some (I y), x9])
    (by rw [g_0]; exact s_isLst) (fun y _ => by simp [gmName]) (fun y _ => by
      have : (decide (hd = y)) = decide (y = hd) := by rw [Bool.eq_iff_iff]; simp [eq_comm]
      simp [bodyM, sSeq, s_thenNx, s_thenRt, s_loopNx, s_loopRt, s_loopCt, s_loopBk, sAsg, sRet, sRetN, sDrop, sNil, sPar, sBrk, sCnt, eVar, eC, eOp, gmName, gmSub, eCallB, aCons, aNil, eB, eIf, eTru, mAnd, mOr, mNot, mYes, eMeth, eTup, eLst, eL, eDict0, eDict1, r_for1, forR_nat, r_forS, r_lc1, lcR_nat, r_lcS, n_non, n_bl, n_int, n_str, n_tup, n_rol, n_ref, b_non, b_bl, b_int, b_str, b_tup, b_rol, b_ref, eSetd, eItems, gmTup, gmCons, gmNil, dKey, eCall, eCallP, eDc, iSeq, wipeE, eUn, eIsi, eAnd, eOr, eNot, R.bind_ok, noX_ok, s_atI, s_atI0, s_atI1, s_atI2, s_atI3, s_atI4, s_atI5, s_add, s_sub, s_lt, s_le, s_gt, s_ge, s_isN, s_isB, s_eq_ii, s_eq_ss, s_eq_in, s_eq_ni, s_eq_nn, s_eq_sn, s_eq_ns, s_eq_bb, s_lenT, s_lenR, s_int, s_listT, s_listR, s_tupT, s_truB, s_truN, s_truI, s_truT, s_oB, s_itT, s_itR, s_inTI, s_inTS, s_isLst, r_in, r_inDi, r_inDs, inL_I, inL_S, r_ix, r_ixT, r_ixR, r_ixLi, r_ixDi, r_ixDs, r_len, r_list, r_tup, r_sort, r_tru, r_tyL, r_tyD, r_append, r_pop, r_extT, r_extR, r_it, I, beq_N, this]) (fun y _ _ => by simp [bodyM, sSeq, s_thenNx, s_thenRt, s_loopNx, s_loopRt, s_loopCt, s_loopBk, sAsg, sRet, sRetN, sDrop, sNil, sPar, sBrk, sCnt, eVar, eC, eOp, gmName, gmSub, eCallB, aCons, aNil, eB, eIf, eTru, mAnd, mOr, mNot, mYes, eMeth, eTup, eLst, eL, eDict0, eDict1, r_for1, forR_nat, r_forS, r_lc1, lcR_nat, r_lcS, n_non, n_bl, n_int, n_str, n_tup, n_rol, n_ref, b_non, b_bl, b_int, b_str, b_tup, b_rol, b_ref, eSetd, eItems, gmTup, gmCons, gmNil, dKey, eCall, eCallP, eDc, iSeq, wipeE, eUn, eIsi, eAnd, eOr, eNot, R.bind_ok, noX_ok, s_atI, s_atI0, s_atI1, s_atI2, s_atI3, s_atI4, s_atI5, s_add, s_sub, s_lt, s_le, s_gt, s_ge, s_isN, s_isB, s_eq_ii, s_eq_ss, s_eq_in, s_eq_ni, s_eq_nn, s_eq_sn, s_eq_ns, s_eq_bb, s_lenT, s_lenR, s_int, s_listT, s_listR, s_tupT, s_truB, s_truN, s_truI, s_truT, s_oB, s_itT, s_itR, s_inTI, s_inTS, s_isLst, r_in, r_inDi, r_inDs, inL_I, inL_S, r_ix, r_ixT, r_ixR, r_ixLi, r_ixDi, r_ixDs, r_len, r_list, r_tup, r_sort, r_tru, r_tyL, r_tyD, r_append, r_pop, r_extT, r_extR, r_it]) (by omega)
  have q' : lcM [some (B bs), x1, x2, x3, some (D.int (hd : Nat)), some (.ref HH.length), x6, x7, none, x9] (gmName 8) (eB (eOp (oEq true) (eVar 8) (eVar 4))) (eVar 8) (fun h' => isLst ((lawEnds bs hd).map I) h'[HH.length]?) ((lawEnds bs hd).map I) [] (HH ++ [Ob.lst ((lawEnds bs hd).map I), Ob.lst [], Ob.lst [D.int (hd : Nat)]]) = _ := q
  generalize hK : (lawEnds bs hd).filter (fun l => decide (l ≠ hd)) = K at q' ⊢
  have hKl : K.length ≤ 9 := by rw [← hK]; exact Nat.le_trans (List.length_filter_le _ _) el
  have hr0 : rows0 bs hd = hd :: K := by unfold rows0; rw [hK]
  have a1 : (HH ++ [Ob.lst ((lawEnds bs hd).map I), Ob.lst [], Ob.lst [I hd], Ob.lst (K.map I)])[HH.length + 1 + 1]? = some (Ob.lst [I hd]) := g_2 _ _ _ _ _
  have a2 : (HH ++ [Ob.lst ((lawEnds bs hd).map I), Ob.lst [], Ob.lst [I hd], Ob.lst (K.map I)])[HH.length + 1 + 1 + 1]? = some (Ob.lst (K.map I)) := by
    rw [List.getElem?_append_right (by omega)]
    have : HH.length + 1 + 1 + 1 - HH.length = 3 := by omega
    rw [this]; rfl
  have ad := s_addL a1 a2 (by simp [szl]; omega)
  simp only [I] at ad
  generalize hT : eB (eOp (oEq true) (eVar 8) (eVar 4)) = Td at q' ⊢
  simp [bodyM, sSeq, s_thenNx, s_thenRt, s_loopNx, s_loopRt, s_loopCt, s_loopBk, sAsg, sRet, sRetN, sDrop, sNil, sPar, sBrk, sCnt, eVar, eC, eOp, gmName, gmSub, eCallB, aCons, aNil, eB, eIf, eTru, mAnd, mOr, mNot, mYes, eMeth, eTup, eLst, eL, eDict0, eDict1, r_for1, forR_nat, r_forS, r_lc1, lcR_nat, r_lcS, n_non, n_bl, n_int, n_str, n_tup, n_rol, n_ref, b_non, b_bl, b_int, b_str, b_tup, b_rol, b_ref, eSetd, eItems, gmTup, gmCons, gmNil, dKey, eCall, eCallP, eDc, iSeq, wipeE, eUn, eIsi, eAnd, eOr, eNot, R.bind_ok, noX_ok, s_atI, s_atI0, s_atI1, s_atI2, s_atI3, s_atI4, s_atI5, s_add, s_sub, s_lt, s_le, s_gt, s_ge, s_isN, s_isB, s_eq_ii, s_eq_ss, s_eq_in, s_eq_ni, s_eq_nn, s_eq_sn, s_eq_ns, s_eq_bb, s_lenT, s_lenR, s_int, s_listT, s_listR, s_tupT, s_truB, s_truN, s_truI, s_truT, s_oB, s_itT, s_itR, s_inTI, s_inTS, s_isLst, r_in, r_inDi, r_inDs, inL_I, inL_S, r_ix, r_ixT, r_ixR, r_ixLi, r_ixDi, r_ixDs, r_len, r_list, r_tup, r_sort, r_tru, r_tyL, r_tyD, r_append, r_pop, r_extT, r_extR, r_it, I, szl, q', ad, hr0]
theorem found_app {bs : List End} (ok : okB bs) {hd a : Nat} (hh : hd < bs.length) {x5 x7 x8 x9 : Option D} {F : List D} (hF : F.length < 1000) {h g2 gb' : AH} :
    ∃ x6' gb3, sDrop (eMeth .l (eVar 3) (aCons (eTup (aCons (eVar 4) (aCons (eCallB (aCons (eCallB (aCons (eVar 6) (aNil)) oSorted) (aNil)) oTuple) (aNil)))) (aNil)) oAppend)
      [some (B bs), some (.ref a), some (.ref h.length), some (.ref (h.length + 1)), some (I hd), x5, some (.ref (h ++ Ob.lst ((met bs none).map I) :: Ob.lst F :: g2).length), x7, x8, x9] ((h ++ Ob.lst ((met bs none).map I) :: Ob.lst F :: g2) ++ Ob.lst ((itR bs hd bs.length).map I) :: gb') =
      .ok (.nx [some (B bs), some (.ref a), some (.ref h.length), some (.ref (h.length + 1)), some (I hd), x5, x6', x7, x8, x9]) (h ++ Ob.lst ((met bs none).map I) :: Ob.lst (F ++ [loopD bs hd]) :: gb3) := by
  have hl64 : (itR bs hd bs.length).length < 64 := by have := (itR_ok ok hh bs.length).len; have := ok.2.1; omega
  have hF2 : F.length < 16777216 := by omega
  have e6 : ((h ++ Ob.lst ((met bs none).map I) :: Ob.lst F :: g2) ++ Ob.lst ((itR bs hd bs.length).map I) :: gb')[(h ++ Ob.lst ((met bs none).map I) :: Ob.lst F :: g2).length]? = some (Ob.lst ((itR bs hd bs.length).map I)) := g_0 _ _ _
  have ef : ∀ R, (h ++ Ob.lst ((met bs none).map I) :: Ob.lst F :: R)[h.length + 1]? = some (Ob.lst F) := fun R => g_1 _ _ _ _
  have eq : ((h ++ Ob.lst ((met bs none).map I) :: Ob.lst F :: g2) ++ Ob.lst ((itR bs hd bs.length).map I) :: gb') = h ++ Ob.lst ((met bs none).map I) :: Ob.lst F :: (g2 ++ Ob.lst ((itR bs hd bs.length).map I) :: gb') := by simp
  rw [eq] at e6 ⊢
  generalize (h ++ Ob.lst ((met bs none).map I) :: Ob.lst F :: g2).length = r6 at e6 ⊢
  generalize hG : (g2 ++ Ob.lst ((itR bs hd bs.length).map I) :: gb') = G at e6 ⊢
  refine ⟨some (.ref r6), G ++ [Ob.lst ((inn bs hd).map I)], ?_⟩
  have hs : sortL true ((itR bs hd bs.length).map I) (h ++ Ob.lst ((met bs none).map I) :: Ob.lst F :: G) = _ := sortL_N hl64
  simp [bodyM, sSeq, s_thenNx, s_thenRt, s_loopNx, s_loopRt, s_loopCt, s_loopBk, sAsg, sRet, sRetN, sDrop, sNil, sPar, sBrk, sCnt, eVar, eC, eOp, gmName, gmSub, eCallB, aCons, aNil, eB, eIf, eTru, mAnd, mOr, mNot, mYes, eMeth, eTup, eLst, eL, eDict0, eDict1, r_for1, forR_nat, r_forS, r_lc1, lcR_nat, r_lcS, n_non, n_bl, n_int, n_str, n_tup, n_rol, n_ref, b_non, b_bl, b_int, b_str, b_tup, b_rol, b_ref, eSetd, eItems, gmTup, gmCons, gmNil, dKey, eCall, eCallP, eDc, iSeq, wipeE, eUn, eIsi, eAnd, eOr, eNot, R.bind_ok, noX_ok, s_atI, s_atI0, s_atI1, s_atI2, s_atI3, s_atI4, s_atI5, s_add, s_sub, s_lt, s_le, s_gt, s_ge, s_isN, s_isB, s_eq_ii, s_eq_ss, s_eq_in, s_eq_ni, s_eq_nn, s_eq_sn, s_eq_ns, s_eq_bb, s_lenT, s_lenR, s_int, s_listT, s_listR, s_tupT, s_truB, s_truN, s_truI, s_truT, s_oB, s_itT, s_itR, s_inTI, s_inTS, s_isLst, r_in, r_inDi, r_inDs, inL_I, inL_S, r_ix, r_ixT, r_ixR, r_ixLi, r_ixDi, r_ixDs, r_len, r_list, r_tup, r_sort, r_tru, r_tyL, r_tyD, r_append, r_pop, r_extT, r_extR, r_it, I, e6, hs, szl, hF2, st_1, loopD, inn]
theorem lOut_run {bs : List End} (ok : okB bs) {hd a : Nat} (hh : hd < bs.length) {x5 x6 x7 x8 x9 : Option D} {h gb : AH} {F : List D} (ha : h[a]? = some (Ob.lst (aboveL bs))) (hF : F.length < 1000) :
    ∃ x5' x6' x7' x8' gb', lOut [some (B bs), some (.ref a), some (.ref h.length), some (.ref (h.length + 1)), some (I hd), x5, x6, x7, x8, x9] (h ++ Ob.lst ((met bs none).map I) :: Ob.lst F :: gb) =
      .ok (.nx [some (B bs), some (.ref a), some (.ref h.length), some (.ref (h.length + 1)), some (I hd), x5', x6', x7', x8', x9]) (h ++ Ob.lst ((met bs none).map I) :: Ob.lst (if lawEnds bs hd = [] then F else F ++ [loopD bs hd]) :: gb') := by
  have okm := met_ok ok none
  have h9 := ok.2.1
  have hM : ∀ R, (h ++ Ob.lst ((met bs none).map I) :: R)[h.length]? = some (Ob.lst ((met bs none).map I)) := fun R => g_0 _ _ _
  obtain ⟨g, q⟩ := ends_run ok (hd := hd) (m := h.length) (a := a) (x3 := some (.ref (h.length + 1))) (x5 := x5) (x6 := x6) (x7 := x7) (x9 := x9) (hh := h ++ Ob.lst ((met bs none).map I) :: Ob.lst F :: gb) (hM _) (get_app ha)
  have q' : lcM [some (B bs), some (.ref a), some (.ref h.length), some (.ref (h.length + 1)), some (D.int (hd : Nat)), x5, x6, x7, none, x9] (gmName 8) tE1 (eVar 8) (fun h' => isLst ((met bs none).map I) h'[h.length]?) ((met bs none).map I) [] (h ++ Ob.lst ((met bs none).map I) :: Ob.lst F :: gb) = _ := q
  -- ends
  have s1 : sAsg (eL (lComp (iSeq (eVar 2)) [8] (gmName 8) tE1 (eVar 8))) (gmName 5) [some (B bs), some (.ref a), some (.ref h.length), some (.ref (h.length + 1)), some (I hd), x5, x6, x7, x8, x9] (h ++ Ob.lst ((met bs none).map I) :: Ob.lst F :: gb) =
      .ok (.nx [some (B bs), some (.ref a), some (.ref h.length), some (.ref (h.length + 1)), some (I hd), some (.ref (h ++ Ob.lst ((met bs none).map I) :: Ob.lst F :: (gb ++ g)).length), x6, x7, x8, x9]) (h ++ Ob.lst ((met bs none).map I) :: Ob.lst F :: (gb ++ g ++ [Ob.lst ((lawEnds bs hd).map I)])) := by
    generalize tE1 = Td at q'
    simp [bodyM, sSeq, s_thenNx, s_thenRt, s_loopNx, s_loopRt, s_loopCt, s_loopBk, sAsg, sRet, sRetN, sDrop, sNil, sPar, sBrk, sCnt, eVar, eC, eOp, gmName, gmSub, eCallB, aCons, aNil, eB, eIf, eTru, mAnd, mOr, mNot, mYes, eMeth, eTup, eLst, eL, eDict0, eDict1, r_for1, forR_nat, r_forS, r_lc1, lcR_nat, r_lcS, n_non, n_bl, n_int, n_str, n_tup, n_rol, n_ref, b_non, b_bl, b_int, b_str, b_tup, b_rol, b_ref, eSetd, eItems, gmTup, gmCons, gmNil, dKey, eCall, eCallP, eDc, iSeq, wipeE, eUn, eIsi, eAnd, eOr, eNot, R.bind_ok, noX_ok, s_atI, s_atI0, s_atI1, s_atI2, s_atI3, s_atI4, s_atI5, s_add, s_sub, s_lt, s_le, s_gt, s_ge, s_isN, s_isB, s_eq_ii, s_eq_ss, s_eq_in, s_eq_ni, s_eq_nn, s_eq_sn, s_eq_ns, s_eq_bb, s_lenT, s_lenR, s_int, s_listT, s_listR, s_tupT, s_truB, s_truN, s_truI, s_truT, s_oB, s_itT, s_itR, s_inTI, s_inTS, s_isLst, r_in, r_inDi, r_inDs, inL_I, inL_S, r_ix, r_ixT, r_ixR, r_ixLi, r_ixDi, r_ixDs, r_len, r_list, r_tup, r_sort, r_tru, r_tyL, r_tyD, r_append, r_pop, r_extT, r_extR, r_it, I, hM, q']
  have el : (lawEnds bs hd).length ≤ 9 := by
    have := List.length_filter_le (fun l => decide (hd ∈ waysAt bs l) && (decide (l = hd) || decide (hd ∈ abv bs l))) (met bs none)
    have := okm.len
    unfold lawEnds; omega
  generalize hg1 : gb ++ g = g1 at s1
  have tst : eB (eOp (oEq true) (eVar 5) (eLst aNil)) [some (B bs), some (.ref a), some (.ref h.length), some (.ref (h.length + 1)), some (I hd), some (.ref (h ++ Ob.lst ((met bs none).map I) :: Ob.lst F :: g1).length), x6, x7, x8, x9] (h ++ Ob.lst ((met bs none).map I) :: Ob.lst F :: (g1 ++ [Ob.lst ((lawEnds bs hd).map I)])) =
      .ok (!(lawEnds bs hd).isEmpty) (h ++ Ob.lst ((met bs none).map I) :: Ob.lst F :: (g1 ++ [Ob.lst ((lawEnds bs hd).map I), Ob.lst []])) := by
    have e0 : h ++ Ob.lst ((met bs none).map I) :: Ob.lst F :: (g1 ++ [Ob.lst ((lawEnds bs hd).map I), Ob.lst []]) = (h ++ Ob.lst ((met bs none).map I) :: Ob.lst F :: g1) ++ [Ob.lst ((lawEnds bs hd).map I), Ob.lst []] := by simp
    have e1 : (h ++ Ob.lst ((met bs none).map I) :: Ob.lst F :: (g1 ++ [Ob.lst ((lawEnds bs hd).map I)])) = (h ++ Ob.lst ((met bs none).map I) :: Ob.lst F :: g1) ++ [Ob.lst ((lawEnds bs hd).map I)] := by simp
    rw [e0, e1]
    generalize h ++ Ob.lst ((met bs none).map I) :: Ob.lst F :: g1 = HH
    have eq := eqL_nil (h := HH ++ [Ob.lst ((lawEnds bs hd).map I), Ob.lst []]) (r := HH.length) (r2 := HH.length + 1) (g_0 _ _ _) (g_1 _ _ _ _)
    simp [bodyM, sSeq, s_thenNx, s_thenRt, s_loopNx, s_loopRt, s_loopCt, s_loopBk, sAsg, sRet, sRetN, sDrop, sNil, sPar, sBrk, sCnt, eVar, eC, eOp, gmName, gmSub, eCallB, aCons, aNil, eB, eIf, eTru, mAnd, mOr, mNot, mYes, eMeth, eTup, eLst, eL, eDict0, eDict1, r_for1, forR_nat, r_forS, r_lc1, lcR_nat, r_lcS, n_non, n_bl, n_int, n_str, n_tup, n_rol, n_ref, b_non, b_bl, b_int, b_str, b_tup, b_rol, b_ref, eSetd, eItems, gmTup, gmCons, gmNil, dKey, eCall, eCallP, eDc, iSeq, wipeE, eUn, eIsi, eAnd, eOr, eNot, R.bind_ok, noX_ok, s_atI, s_atI0, s_atI1, s_atI2, s_atI3, s_atI4, s_atI5, s_add, s_sub, s_lt, s_le, s_gt, s_ge, s_isN, s_isB, s_eq_ii, s_eq_ss, s_eq_in, s_eq_ni, s_eq_nn, s_eq_sn, s_eq_ns, s_eq_bb, s_lenT, s_lenR, s_int, s_listT, s_listR, s_tupT, s_truB, s_truN, s_truI, s_truT, s_oB, s_itT, s_itR, s_inTI, s_inTS, s_isLst, r_in, r_inDi, r_inDs, inL_I, inL_S, r_ix, r_ixT, r_ixR, r_ixLi, r_ixDi, r_ixDs, r_len, r_list, r_tup, r_sort, r_tru, r_tyL, r_tyD, r_append, r_pop, r_extT, r_extR, r_it, szl, eq]
  by_cases hE : lawEnds bs hd = []
  · refine ⟨some (.ref (h ++ Ob.lst ((met bs none).map I) :: Ob.lst F :: g1).length), x6, x7, x8, g1 ++ [Ob.lst ((lawEnds bs hd).map I), Ob.lst []], ?_⟩
    rw [if_pos hE]
    unfold lOut
    rw [sq_eq, s1, R.bind_ok, s_thenNx, if_eq, tst, R.bind_ok, hE]
    rfl
  · have rowsAsg := rows_asg (bs := bs) (hd := hd) (x1 := some (.ref a)) (x2 := some (.ref h.length)) (x3 := some (.ref (h.length + 1))) (x6 := x6) (x7 := x7) (x8 := x8) (x9 := x9) el (h ++ Ob.lst ((met bs none).map I) :: Ob.lst F :: g1)
    have e1 : (h ++ Ob.lst ((met bs none).map I) :: Ob.lst F :: (g1 ++ [Ob.lst ((lawEnds bs hd).map I), Ob.lst []])) = (h ++ Ob.lst ((met bs none).map I) :: Ob.lst F :: g1) ++ [Ob.lst ((lawEnds bs hd).map I), Ob.lst []] := by simp
    obtain ⟨x7', x8', gb', qo⟩ := rOut_run ok hh (m := h.length) (x1 := some (.ref a)) (x3 := some (.ref (h.length + 1))) (x5 := some (.ref (h ++ Ob.lst ((met bs none).map I) :: Ob.lst F :: g1).length)) (x7 := x7) (x8 := x8) (x9 := x9) (H0 := (h ++ Ob.lst ((met bs none).map I) :: Ob.lst F :: g1) ++ [Ob.lst ((lawEnds bs hd).map I), Ob.lst [], Ob.lst [I hd], Ob.lst (((lawEnds bs hd).filter fun l => decide (l ≠ hd)).map I)]) (by
      rw [List.append_assoc]; exact hM _)
    have fin := found_app ok hh (a := a) (x5 := some (.ref (h ++ Ob.lst ((met bs none).map I) :: Ob.lst F :: g1).length)) (x7 := x7') (x8 := x8') (x9 := x9) (F := F) hF (h := h) (g2 := g1 ++ [Ob.lst ((lawEnds bs hd).map I), Ob.lst [], Ob.lst [I hd], Ob.lst (((lawEnds bs hd).filter fun l => decide (l ≠ hd)).map I)]) (gb' := gb')
    have e2 : (h ++ Ob.lst ((met bs none).map I) :: Ob.lst F :: g1) ++ [Ob.lst ((lawEnds bs hd).map I), Ob.lst [], Ob.lst [I hd], Ob.lst (((lawEnds bs hd).filter fun l => decide (l ≠ hd)).map I)] = h ++ Ob.lst ((met bs none).map I) :: Ob.lst F :: (g1 ++ [Ob.lst ((lawEnds bs hd).map I), Ob.lst [], Ob.lst [I hd], Ob.lst (((lawEnds bs hd).filter fun l => decide (l ≠ hd)).map I)]) := by simp
    rw [e2] at qo
    obtain ⟨x6', gb3, fin⟩ := fin
    refine ⟨some (.ref (h ++ Ob.lst ((met bs none).map I) :: Ob.lst F :: g1).length), x6', x7', x8', gb3, ?_⟩
    rw [if_neg hE]
    unfold lOut
    have hne : (!(lawEnds bs hd).isEmpty) = true := by
      cases z : lawEnds bs hd with
      | nil => exact absurd z hE
      | cons _ _ => rfl
    rw [sq_eq, s1, R.bind_ok, s_thenNx, if_eq, tst, R.bind_ok, hne, if_pos rfl, e1, sq_eq, rowsAsg, R.bind_ok, s_thenNx, sq_eq]
    rw [e2]
    rw [qo, R.bind_ok, s_thenNx, fin]
theorem lawLoops_run {bs : List End} (ok : okB bs) {h : AH} {a : Nat} (ha : h[a]? = some (Ob.lst (aboveL bs))) : ∃ g, mLawLoops [B bs, .ref a] h = .ok (.tup ((heads bs).map (loopD bs))) (h ++ g) := by
  have okm := met_ok ok none
  have h9 := ok.2.1
  have hml := okm.len
  obtain ⟨env', h', q, x4, x5, x6, x7, x8, x9, gb, e1, e2⟩ := for_run (xs := met bs none) (F := I) (g := gmName 4) (b := lOut) (chk := fun h' => isLst ((met bs none).map I) h'[h.length]?)
    (fun i env hh => ∃ x4 x5 x6 x7 x8 x9 gb, env = [some (B bs), some (.ref a), some (.ref h.length), some (.ref (h.length + 1)), x4, x5, x6, x7, x8, x9] ∧ hh = h ++ Ob.lst ((met bs none).map I) :: Ob.lst ((((met bs none).take i).filter fun hd => decide (lawEnds bs hd ≠ [])).map (loopD bs)) :: gb)
    (fun i env hh _ ⟨_, _, _, _, _, _, gb, _, e2⟩ => by subst e2; rw [g_0]; exact s_isLst)
    (fun i hd hi env hh ⟨x4, x5, x6, x7, x8, x9, gb, e1, e2⟩ => by
      subst e1 e2
      obtain ⟨x5', x6', x7', x8', gb', q⟩ := lOut_run ok (hd := hd) (a := a) (okm.2 hd (List.mem_of_getElem? hi)) (x5 := x5) (x6 := x6) (x7 := x7) (x8 := x8) (x9 := x9) (h := h) (gb := gb) (F := (((met bs none).take i).filter fun hd => decide (lawEnds bs hd ≠ [])).map (loopD bs)) ha (by
        have := List.length_filter_le (fun hd => decide (lawEnds bs hd ≠ [])) ((met bs none).take i)
        rw [List.length_take] at this
        rw [List.length_map]; omega)
      refine ⟨_, _, _, _, rfl, q, some (I hd), x5', x6', x7', x8', x9, gb', rfl, ?_⟩
      rw [take_succ' hi, List.filter_append]
      by_cases hE : lawEnds bs hd = []
      · rw [if_pos hE, List.filter_cons_of_neg (by simp [hE])]; simp
      · rw [if_neg hE, List.filter_cons_of_pos (by simp [hE])]; simp)
    (env := [some (B bs), some (.ref a), some (.ref h.length), some (.ref (h.length + 1)), none, none, none, none, none, none]) (h := h ++ [Ob.lst ((met bs none).map I), Ob.lst []]) ⟨none, none, none, none, none, none, [], rfl, rfl⟩
  subst e1 e2
  rw [List.take_length] at q
  refine ⟨Ob.lst ((met bs none).map I) :: Ob.lst ((heads bs).map (loopD bs)) :: gb, ?_⟩
  unfold mLawLoops
  have rl := run_lawMet ok none h
  have rl' : runP mLawMet [B bs, .non] h = _ := rl
  generalize hb : lOut = Bd at q
  have q' : PM.forM (gmName 4) Bd (fun h' => isLst ((met bs none).map I) h'[h.length]?) ((met bs none).map I) [some (B bs), some (.ref a), some (.ref h.length), some (.ref (h.length + 1)), none, none, none, none, none, none] (h ++ [Ob.lst ((met bs none).map I), Ob.lst []]) = .ok (.nx [some (B bs), some (.ref a), some (.ref h.length), some (.ref (h.length + 1)), x4, x5, x6, x7, x8, x9]) (h ++ Ob.lst ((met bs none).map I) :: Ob.lst ((heads bs).map (loopD bs)) :: gb) := q
  simp [bodyM, sSeq, s_thenNx, s_thenRt, s_loopNx, s_loopRt, s_loopCt, s_loopBk, sAsg, sRet, sRetN, sDrop, sNil, sPar, sBrk, sCnt, eVar, eC, eOp, gmName, gmSub, eCallB, aCons, aNil, eB, eIf, eTru, mAnd, mOr, mNot, mYes, eMeth, eTup, eLst, eL, eDict0, eDict1, r_for1, forR_nat, r_forS, r_lc1, lcR_nat, r_lcS, n_non, n_bl, n_int, n_str, n_tup, n_rol, n_ref, b_non, b_bl, b_int, b_str, b_tup, b_rol, b_ref, eSetd, eItems, gmTup, gmCons, gmNil, dKey, eCall, eCallP, eDc, iSeq, wipeE, eUn, eIsi, eAnd, eOr, eNot, R.bind_ok, noX_ok, s_atI, s_atI0, s_atI1, s_atI2, s_atI3, s_atI4, s_atI5, s_add, s_sub, s_lt, s_le, s_gt, s_ge, s_isN, s_isB, s_eq_ii, s_eq_ss, s_eq_in, s_eq_ni, s_eq_nn, s_eq_sn, s_eq_ns, s_eq_bb, s_lenT, s_lenR, s_int, s_listT, s_listR, s_tupT, s_truB, s_truN, s_truI, s_truT, s_oB, s_itT, s_itR, s_inTI, s_inTS, s_isLst, r_in, r_inDi, r_inDs, inL_I, inL_S, r_ix, r_ixT, r_ixR, r_ixLi, r_ixDi, r_ixDs, r_len, r_list, r_tup, r_sort, r_tru, r_tyL, r_tyD, r_append, r_pop, r_extT, r_extR, r_it, rl', szl, hb, q']
end K04

namespace K04
open PySem L2 PM
/-! ### _law_digits -/
theorem run_cell (ns : List Int) (k : Nat) (h : AH) : runP mLawCell [.rol (ns.map .int), .int k] h = .ok (.int (ns.getD k 0)) h :=
  s_runP (by simp [purs, pur, purs_ints]) (lawCell ns k []) rfl
abbrev dIn1 : SM := eIf (eB (eOp (oGt) (eVar 5) (eC (.int 0)))) (sSeq (sDrop (eMeth .l (eVar 3) (aCons (eOp oMod (eCallB (aCons (eVar 5) (aNil)) oInt1) (eC (.int 1000))) (aNil)) oAppend)) (sAsg (eOp oFdiv (eVar 5) (eC (.int 1000))) (gmName 5))) (sNil)
theorem dg1 {S A1 A2 : D} {x4 : Option D} {x7 : Option D} (cell : Int) (x6 : Option D) (ds : List Int) (hd : ds.length < 10000) :
    ∃ (cell' : Int) (x6' : Option D) (ds' : List Int), PM.forM (gmName 6) dIn1 (fun _ => true) ((List.range 60).map fun i => D.int ((i : Nat) : Int)) [some S, some A1, some A2, some (.ref 0), x4, some (.int cell), x6, x7] [.lst (ds.map .int)] =
      .ok (.nx [some S, some A1, some A2, some (.ref 0), x4, some (.int cell'), x6', x7]) [.lst (ds'.map .int)] ∧ ds'.length ≤ ds.length + 60 := by
  obtain ⟨env', h', q, cell', x6', ds', e1, e2, e3⟩ := for_run (xs := List.range 60) (F := fun i : Nat => D.int ((i : Nat) : Int)) (g := gmName 6) (b := dIn1) (chk := fun _ => true)
    (fun i env h => ∃ (cell : Int) (x6 : Option D) (ds' : List Int), env = [some S, some A1, some A2, some (.ref 0), x4, some (.int cell), x6, x7] ∧ h = [.lst (ds'.map .int)] ∧ ds'.length ≤ ds.length + i)
    (fun _ _ _ _ _ => rfl)
    (fun i t hi env h ⟨cell, x6, ds', e1, e2, e3⟩ => by
      subst e1 e2
      have hi60 : i < 60 := by simpa using (List.getElem?_eq_some_iff.mp hi).1
      have hl : ds'.length < 16777216 := by omega
      by_cases hc : 0 < cell
      · have hm : oMod (.int cell) (.int 1000) [.lst (ds'.map .int)] = .ok (.int (cell % 1000)) [.lst (ds'.map .int)] := s_mod (by decide)
        have hf : ∀ h, oFdiv (.int cell) (.int 1000) h = .ok (.int (cell / 1000)) h := fun h => s_fdiv (by decide)
        refine ⟨_, _, [some S, some A1, some A2, some (.ref 0), x4, some (.int (cell / 1000)), some (.int t), x7], [.lst ((ds' ++ [cell % 1000]).map .int)], rfl, ?_, cell / 1000, some (.int t), ds' ++ [cell % 1000], rfl, rfl, by simp; omega⟩
        simp [bodyM, sSeq, s_thenNx, s_thenRt, s_loopNx, s_loopRt, s_loopCt, s_loopBk, sAsg, sRet, sRetN, sDrop, sNil, sPar, sBrk, sCnt, eVar, eC, eOp, gmName, gmSub, eCallB, aCons, aNil, eB, eIf, eTru, mAnd, mOr, mNot, mYes, eMeth, eTup, eLst, eL, eDict0, eDict1, r_for1, forR_nat, r_forS, r_lc1, lcR_nat, r_lcS, n_non, n_bl, n_int, n_str, n_tup, n_rol, n_ref, b_non, b_bl, b_int, b_str, b_tup, b_rol, b_ref, eSetd, eItems, gmTup, gmCons, gmNil, dKey, eCall, eCallP, eDc, iSeq, wipeE, eUn, eIsi, eAnd, eOr, eNot, R.bind_ok, noX_ok, s_atI, s_atI0, s_atI1, s_atI2, s_atI3, s_atI4, s_atI5, s_add, s_sub, s_lt, s_le, s_gt, s_ge, s_isN, s_isB, s_eq_ii, s_eq_ss, s_eq_in, s_eq_ni, s_eq_nn, s_eq_sn, s_eq_ns, s_eq_bb, s_lenT, s_lenR, s_int, s_listT, s_listR, s_tupT, s_truB, s_truN, s_truI, s_truT, s_oB, s_itT, s_itR, s_inTI, s_inTS, s_isLst, r_in, r_inDi, r_inDs, inL_I, inL_S, r_ix, r_ixT, r_ixR, r_ixLi, r_ixDi, r_ixDs, r_len, r_list, r_tup, r_sort, r_tru, r_tyL, r_tyD, r_append, r_pop, r_extT, r_extR, r_it, hc, hm, hf, szl, hl]
      · refine ⟨_, _, [some S, some A1, some A2, some (.ref 0), x4, some (.int cell), some (.int t), x7], [.lst (ds'.map .int)], rfl, ?_, cell, some (.int t), ds', rfl, rfl, by omega⟩
        simp [bodyM, sSeq, s_thenNx, s_thenRt, s_loopNx, s_loopRt, s_loopCt, s_loopBk, sAsg, sRet, sRetN, sDrop, sNil, sPar, sBrk, sCnt, eVar, eC, eOp, gmName, gmSub, eCallB, aCons, aNil, eB, eIf, eTru, mAnd, mOr, mNot, mYes, eMeth, eTup, eLst, eL, eDict0, eDict1, r_for1, forR_nat, r_forS, r_lc1, lcR_nat, r_lcS, n_non, n_bl, n_int, n_str, n_tup, n_rol, n_ref, b_non, b_bl, b_int, b_str, b_tup, b_rol, b_ref, eSetd, eItems, gmTup, gmCons, gmNil, dKey, eCall, eCallP, eDc, iSeq, wipeE, eUn, eIsi, eAnd, eOr, eNot, R.bind_ok, noX_ok, s_atI, s_atI0, s_atI1, s_atI2, s_atI3, s_atI4, s_atI5, s_add, s_sub, s_lt, s_le, s_gt, s_ge, s_isN, s_isB, s_eq_ii, s_eq_ss, s_eq_in, s_eq_ni, s_eq_nn, s_eq_sn, s_eq_ns, s_eq_bb, s_lenT, s_lenR, s_int, s_listT, s_listR, s_tupT, s_truB, s_truN, s_truI, s_truT, s_oB, s_itT, s_itR, s_inTI, s_inTS, s_isLst, r_in, r_inDi, r_inDs, inL_I, inL_S, r_ix, r_ixT, r_ixR, r_ixLi, r_ixDi, r_ixDs, r_len, r_list, r_tup, r_sort, r_tru, r_tyL, r_tyD, r_append, r_pop, r_extT, r_extR, r_it, hc])
    (env := [some S, some A1, some A2, some (.ref 0), x4, some (.int cell), x6, x7]) (h := [.lst (ds.map .int)]) ⟨cell, x6, ds, rfl, rfl, by omega⟩
  subst e1 e2
  exact ⟨cell', x6', ds', q, by simpa using e3⟩
abbrev dIn2 : SM := sSeq (sAsg (eOp oMod (eCallB (aCons (eOp oAdd (eOp oAdd (eOp oMul (eVar 7) (eC (.int 16807))) (eOp oMul (eC (.int 7)) (eVar 6))) (eC (.int 1))) (aNil)) oInt1) (eC (.int 2147483647))) (gmName 7)) (sDrop (eMeth .l (eVar 3) (aCons (eOp oMod (eCallB (aCons (eOp oFdiv (eVar 7) (eC (.int 997))) (aNil)) oInt1) (eC (.int 1000))) (aNil)) oAppend))
theorem dg2 {S A1 A2 : D} {x4 x5 : Option D} (x6 : Option D) (seed : Int) (ds : List Int) (hd : ds.length < 10000) :
    ∃ (x6' : Option D) (seed' : Int) (ds' : List Int), PM.forM (gmName 6) dIn2 (fun _ => true) ((List.range 12).map fun i => D.int ((i : Nat) : Int)) [some S, some A1, some A2, some (.ref 0), x4, x5, x6, some (.int seed)] [.lst (ds.map .int)] =
      .ok (.nx [some S, some A1, some A2, some (.ref 0), x4, x5, x6', some (.int seed')]) [.lst (ds'.map .int)] ∧ ds'.length ≤ ds.length + 12 := by
  obtain ⟨env', h', q, x6', seed', ds', e1, e2, e3⟩ := for_run (xs := List.range 12) (F := fun i : Nat => D.int ((i : Nat) : Int)) (g := gmName 6) (b := dIn2) (chk := fun _ => true)
    (fun i env h => ∃ (x6 : Option D) (seed : Int) (ds' : List Int), env = [some S, some A1, some A2, some (.ref 0), x4, x5, x6, some (.int seed)] ∧ h = [.lst (ds'.map .int)] ∧ ds'.length ≤ ds.length + i)
    (fun _ _ _ _ _ => rfl)
    (fun i t hi env h ⟨x6, seed, ds', e1, e2, e3⟩ => by
      subst e1 e2
      have hi60 : i < 12 := by simpa using (List.getElem?_eq_some_iff.mp hi).1
      have hl : ds'.length < 16777216 := by omega
      have m1 : ∀ h, oMul (.int seed) (.int 16807) h = .ok (.int (seed * 16807)) h := fun h => s_mul (.inr (by decide))
      have m2 : ∀ h, oMul (.int 7) (.int (t : Int)) h = .ok (.int (7 * t)) h := fun h => s_mul (.inl (by decide))
      have m3 : ∀ x h, oMod (.int x) (.int 2147483647) h = .ok (.int (x % 2147483647)) h := fun x h => s_mod (by decide)
      have m4 : ∀ x h, oFdiv (.int x) (.int 997) h = .ok (.int (x / 997)) h := fun x h => s_fdiv (by decide)
      have m5 : ∀ x h, oMod (.int x) (.int 1000) h = .ok (.int (x % 1000)) h := fun x h => s_mod (by decide)
      refine ⟨_, _, [some S, some A1, some A2, some (.ref 0), x4, x5, some (.int t), some (.int ((seed * 16807 + 7 * t + 1) % 2147483647))], [.lst ((ds' ++ [((seed * 16807 + 7 * t + 1) % 2147483647) / 997 % 1000]).map .int)], rfl, ?_, some (.int t), _, ds' ++ [((seed * 16807 + 7 * t + 1) % 2147483647) / 997 % 1000], rfl, rfl, by simp; omega⟩
      simp [bodyM, sSeq, s_thenNx, s_thenRt, s_loopNx, s_loopRt, s_loopCt, s_loopBk, sAsg, sRet, sRetN, sDrop, sNil, sPar, sBrk, sCnt, eVar, eC, eOp, gmName, gmSub, eCallB, aCons, aNil, eB, eIf, eTru, mAnd, mOr, mNot, mYes, eMeth, eTup, eLst, eL, eDict0, eDict1, r_for1, forR_nat, r_forS, r_lc1, lcR_nat, r_lcS, n_non, n_bl, n_int, n_str, n_tup, n_rol, n_ref, b_non, b_bl, b_int, b_str, b_tup, b_rol, b_ref, eSetd, eItems, gmTup, gmCons, gmNil, dKey, eCall, eCallP, eDc, iSeq, wipeE, eUn, eIsi, eAnd, eOr, eNot, R.bind_ok, noX_ok, s_atI, s_atI0, s_atI1, s_atI2, s_atI3, s_atI4, s_atI5, s_add, s_sub, s_lt, s_le, s_gt, s_ge, s_isN, s_isB, s_eq_ii, s_eq_ss, s_eq_in, s_eq_ni, s_eq_nn, s_eq_sn, s_eq_ns, s_eq_bb, s_lenT, s_lenR, s_int, s_listT, s_listR, s_tupT, s_truB, s_truN, s_truI, s_truT, s_oB, s_itT, s_itR, s_inTI, s_inTS, s_isLst, r_in, r_inDi, r_inDs, inL_I, inL_S, r_ix, r_ixT, r_ixR, r_ixLi, r_ixDi, r_ixDs, r_len, r_list, r_tup, r_sort, r_tru, r_tyL, r_tyD, r_append, r_pop, r_extT, r_extR, r_it, m1, m2, m3, m4, m5, szl, hl])
    (env := [some S, some A1, some A2, some (.ref 0), x4, x5, x6, some (.int seed)]) (h := [.lst (ds.map .int)]) ⟨x6, seed, ds, rfl, rfl, by omega⟩
  subst e1 e2
  exact ⟨x6', seed', ds', q, by simpa using e3⟩
abbrev dOut : SM := sSeq (sAsg (eCallP (aCons (eVar 0) (aCons (eVar 4) (aNil))) mLawCell) (gmName 5)) (sSeq (eIf (eB (eOp (oLt) (eVar 5) (eC (.int 0)))) (sAsg (eOp oSub (eC (.int 1)) (eOp oMul (eC (.int 2)) (eVar 5))) (gmName 5)) (sNil)) (eIf (eB (eOp (oGe) (eVar 5) (eOp oPow (eC (.int 10)) (eC (.int 18))))) (sFor (iRange1 (aCons (eC (.int 60)) (aNil))) (gmName 6) dIn1) (sSeq (sAsg (eOp oMod (eCallB (aCons (eOp oAdd (eOp oAdd (eOp oMul (eVar 5) (eC (.int 48271))) (eOp oMul (eVar 4) (eC (.int 69621)))) (eC (.int 11))) (aNil)) oInt1) (eC (.int 2147483647))) (gmName 7)) (sFor (iRange1 (aCons (eC (.int 12)) (aNil))) (gmName 6) dIn2))))
theorem sm60 : SmN 60 := by unfold SmN; decide
theorem sm12 : SmN 12 := by unfold SmN; decide
theorem forR60 {g : GM} {b : SM} {env : PM.Env} {h : AH} : forR [.int 60] g b env h = PM.forM g b (fun _ => true) ((List.range 60).map fun i => D.int ((i : Nat) : Int)) env h := forR_nat (k := 60) sm60
theorem forR12 {g : GM} {b : SM} {env : PM.Env} {h : AH} : forR [.int 12] g b env h = PM.forM g b (fun _ => true) ((List.range 12).map fun i => D.int ((i : Nat) : Int)) env h := forR_nat (k := 12) sm12
theorem dgB (ns : List Int) {A1 A2 : D} {x5 x6 x7 : Option D} (k : Nat) (ds : List Int) (hd : ds.length < 9000) :
    ∃ (x5' x6' x7' : Option D) (ds' : List Int), dOut [some (.rol (ns.map .int)), some A1, some A2, some (.ref 0), some (.int (k : Int)), x5, x6, x7] [.lst (ds.map .int)] =
      .ok (.nx [some (.rol (ns.map .int)), some A1, some A2, some (.ref 0), some (.int (k : Int)), x5', x6', x7']) [.lst (ds'.map .int)] ∧ ds'.length ≤ ds.length + 60 := by
  generalize hc0 : (if ns.getD k 0 < 0 then 1 - 2 * ns.getD k 0 else ns.getD k 0) = cell
  have s1 : sSeq (sAsg (eCallP (aCons (eVar 0) (aCons (eVar 4) (aNil))) mLawCell) (gmName 5)) (eIf (eB (eOp (oLt) (eVar 5) (eC (.int 0)))) (sAsg (eOp oSub (eC (.int 1)) (eOp oMul (eC (.int 2)) (eVar 5))) (gmName 5)) (sNil)) [some (.rol (ns.map .int)), some A1, some A2, some (.ref 0), some (.int (k : Int)), x5, x6, x7] [.lst (ds.map .int)] =
      .ok (.nx [some (.rol (ns.map .int)), some A1, some A2, some (.ref 0), some (.int (k : Int)), some (.int cell), x6, x7]) [.lst (ds.map .int)] := by
    have rc := run_cell ns k
    generalize ns.getD k 0 = c at rc hc0
    have m1 : ∀ h, oMul (.int 2) (.int c) h = .ok (.int (2 * c)) h := fun h => s_mul (.inl (by decide))
    by_cases hc : c < 0
    · rw [if_pos hc] at hc0; subst hc0
      simp [bodyM, sSeq, s_thenNx, s_thenRt, s_loopNx, s_loopRt, s_loopCt, s_loopBk, sAsg, sRet, sRetN, sDrop, sNil, sPar, sBrk, sCnt, eVar, eC, eOp, gmName, gmSub, eCallB, aCons, aNil, eB, eIf, eTru, mAnd, mOr, mNot, mYes, eMeth, eTup, eLst, eL, eDict0, eDict1, r_for1, forR_nat, r_forS, r_lc1, lcR_nat, r_lcS, n_non, n_bl, n_int, n_str, n_tup, n_rol, n_ref, b_non, b_bl, b_int, b_str, b_tup, b_rol, b_ref, eSetd, eItems, gmTup, gmCons, gmNil, dKey, eCall, eCallP, eDc, iSeq, wipeE, eUn, eIsi, eAnd, eOr, eNot, R.bind_ok, noX_ok, s_atI, s_atI0, s_atI1, s_atI2, s_atI3, s_atI4, s_atI5, s_add, s_sub, s_lt, s_le, s_gt, s_ge, s_isN, s_isB, s_eq_ii, s_eq_ss, s_eq_in, s_eq_ni, s_eq_nn, s_eq_sn, s_eq_ns, s_eq_bb, s_lenT, s_lenR, s_int, s_listT, s_listR, s_tupT, s_truB, s_truN, s_truI, s_truT, s_oB, s_itT, s_itR, s_inTI, s_inTS, s_isLst, r_in, r_inDi, r_inDs, inL_I, inL_S, r_ix, r_ixT, r_ixR, r_ixLi, r_ixDi, r_ixDs, r_len, r_list, r_tup, r_sort, r_tru, r_tyL, r_tyD, r_append, r_pop, r_extT, r_extR, r_it, rc, hc, m1]
    · rw [if_neg hc] at hc0; subst hc0
      simp [bodyM, sSeq, s_thenNx, s_thenRt, s_loopNx, s_loopRt, s_loopCt, s_loopBk, sAsg, sRet, sRetN, sDrop, sNil, sPar, sBrk, sCnt, eVar, eC, eOp, gmName, gmSub, eCallB, aCons, aNil, eB, eIf, eTru, mAnd, mOr, mNot, mYes, eMeth, eTup, eLst, eL, eDict0, eDict1, r_for1, forR_nat, r_forS, r_lc1, lcR_nat, r_lcS, n_non, n_bl, n_int, n_str, n_tup, n_rol, n_ref, b_non, b_bl, b_int, b_str, b_tup, b_rol, b_ref, eSetd, eItems, gmTup, gmCons, gmNil, dKey, eCall, eCallP, eDc, iSeq, wipeE, eUn, eIsi, eAnd, eOr, eNot, R.bind_ok, noX_ok, s_atI, s_atI0, s_atI1, s_atI2, s_atI3, s_atI4, s_atI5, s_add, s_sub, s_lt, s_le, s_gt, s_ge, s_isN, s_isB, s_eq_ii, s_eq_ss, s_eq_in, s_eq_ni, s_eq_nn, s_eq_sn, s_eq_ns, s_eq_bb, s_lenT, s_lenR, s_int, s_listT, s_listR, s_tupT, s_truB, s_truN, s_truI, s_truT, s_oB, s_itT, s_itR, s_inTI, s_inTS, s_isLst, r_in, r_inDi, r_inDs, inL_I, inL_S, r_ix, r_ixT, r_ixR, r_ixLi, r_ixDi, r_ixDs, r_len, r_list, r_tup, r_sort, r_tru, r_tyL, r_tyD, r_append, r_pop, r_extT, r_extR, r_it, rc, hc]
  have hp : ∀ h, oPow (.int 10) (.int 18) h = .ok (.int 1000000000000000000) h := fun h => s_pow (by decide)
  have seq3 : ∀ env h, dOut env h = (sSeq (sSeq (sAsg (eCallP (aCons (eVar 0) (aCons (eVar 4) (aNil))) mLawCell) (gmName 5)) (eIf (eB (eOp (oLt) (eVar 5) (eC (.int 0)))) (sAsg (eOp oSub (eC (.int 1)) (eOp oMul (eC (.int 2)) (eVar 5))) (gmName 5)) (sNil))) (eIf (eB (eOp (oGe) (eVar 5) (eOp oPow (eC (.int 10)) (eC (.int 18))))) (sFor (iRange1 (aCons (eC (.int 60)) (aNil))) (gmName 6) dIn1) (sSeq (sAsg (eOp oMod (eCallB (aCons (eOp oAdd (eOp oAdd (eOp oMul (eVar 5) (eC (.int 48271))) (eOp oMul (eVar 4) (eC (.int 69621)))) (eC (.int 11))) (aNil)) oInt1) (eC (.int 2147483647))) (gmName 7)) (sFor (iRange1 (aCons (eC (.int 12)) (aNil))) (gmName 6) dIn2)))) env h := fun env h => seq_assoc _ _ _ env h
  rw [seq3, sq_eq, s1, R.bind_ok, s_thenNx, if_eq]
  by_cases hb : (1000000000000000000 : Int) ≤ cell
  · obtain ⟨c', x6', ds', q, hl⟩ := dg1 (S := .rol (ns.map .int)) (A1 := A1) (A2 := A2) (x4 := some (.int (k : Int))) (x7 := x7) cell x6 ds (by omega)
    refine ⟨some (.int c'), x6', x7, ds', ?_, hl⟩
    generalize dIn1 = Bd at q ⊢
    simp [bodyM, sSeq, s_thenNx, s_thenRt, s_loopNx, s_loopRt, s_loopCt, s_loopBk, sAsg, sRet, sRetN, sDrop, sNil, sPar, sBrk, sCnt, eVar, eC, eOp, gmName, gmSub, eCallB, aCons, aNil, eB, eIf, eTru, mAnd, mOr, mNot, mYes, eMeth, eTup, eLst, eL, eDict0, eDict1, r_for1, forR_nat, r_forS, r_lc1, lcR_nat, r_lcS, n_non, n_bl, n_int, n_str, n_tup, n_rol, n_ref, b_non, b_bl, b_int, b_str, b_tup, b_rol, b_ref, eSetd, eItems, gmTup, gmCons, gmNil, dKey, eCall, eCallP, eDc, iSeq, wipeE, eUn, eIsi, eAnd, eOr, eNot, R.bind_ok, noX_ok, s_atI, s_atI0, s_atI1, s_atI2, s_atI3, s_atI4, s_atI5, s_add, s_sub, s_lt, s_le, s_gt, s_ge, s_isN, s_isB, s_eq_ii, s_eq_ss, s_eq_in, s_eq_ni, s_eq_nn, s_eq_sn, s_eq_ns, s_eq_bb, s_lenT, s_lenR, s_int, s_listT, s_listR, s_tupT, s_truB, s_truN, s_truI, s_truT, s_oB, s_itT, s_itR, s_inTI, s_inTS, s_isLst, r_in, r_inDi, r_inDs, inL_I, inL_S, r_ix, r_ixT, r_ixR, r_ixLi, r_ixDi, r_ixDs, r_len, r_list, r_tup, r_sort, r_tru, r_tyL, r_tyD, r_append, r_pop, r_extT, r_extR, r_it, hp, hb, forR60, q]
  · obtain ⟨x6', seed', ds', q, hl⟩ := dg2 (S := .rol (ns.map .int)) (A1 := A1) (A2 := A2) (x4 := some (.int (k : Int))) (x5 := some (.int cell)) x6 ((cell * 48271 + k * 69621 + 11) % 2147483647) ds (by omega)
    refine ⟨some (.int cell), x6', some (.int seed'), ds', ?_, by omega⟩
    have m1 : ∀ h, oMul (.int cell) (.int 48271) h = .ok (.int (cell * 48271)) h := fun h => s_mul (.inr (by decide))
    have m2 : ∀ h, oMul (.int (k : Int)) (.int 69621) h = .ok (.int (k * 69621)) h := fun h => s_mul (.inr (by decide))
    have m3 : ∀ x h, oMod (.int x) (.int 2147483647) h = .ok (.int (x % 2147483647)) h := fun x h => s_mod (by decide)
    generalize dIn2 = Bd at q ⊢
    simp [bodyM, sSeq, s_thenNx, s_thenRt, s_loopNx, s_loopRt, s_loopCt, s_loopBk, sAsg, sRet, sRetN, sDrop, sNil, sPar, sBrk, sCnt, eVar, eC, eOp, gmName, gmSub, eCallB, aCons, aNil, eB, eIf, eTru, mAnd, mOr, mNot, mYes, eMeth, eTup, eLst, eL, eDict0, eDict1, r_for1, forR_nat, r_forS, r_lc1, lcR_nat, r_lcS, n_non, n_bl, n_int, n_str, n_tup, n_rol, n_ref, b_non, b_bl, b_int, b_str, b_tup, b_rol, b_ref, eSetd, eItems, gmTup, gmCons, gmNil, dKey, eCall, eCallP, eDc, iSeq, wipeE, eUn, eIsi, eAnd, eOr, eNot, R.bind_ok, noX_ok, s_atI, s_atI0, s_atI1, s_atI2, s_atI3, s_atI4, s_atI5, s_add, s_sub, s_lt, s_le, s_gt, s_ge, s_isN, s_isB, s_eq_ii, s_eq_ss, s_eq_in, s_eq_ni, s_eq_nn, s_eq_sn, s_eq_ns, s_eq_bb, s_lenT, s_lenR, s_int, s_listT, s_listR, s_tupT, s_truB, s_truN, s_truI, s_truT, s_oB, s_itT, s_itR, s_inTI, s_inTS, s_isLst, r_in, r_inDi, r_inDs, inL_I, inL_S, r_ix, r_ixT, r_ixR, r_ixLi, r_ixDi, r_ixDs, r_len, r_list, r_tup, r_sort, r_tru, r_tyL, r_tyD, r_append, r_pop, r_extT, r_extR, r_it, hp, hb, m1, m2, m3, forR12, q]
end K04

namespace K04
open PySem L2 PM
def forR2 (ds : List D) (g : GM) (b : SM) (env : PM.Env) (h : AH) : R Fl := match ds with
  | [.int i, .int j] => if (okR i && okR j) = true then PM.forM g b (fun _ => true) (intsD i (j - i).toNat) env h else .no
  | _ => .no
theorem r_for2 {a : AM} {g : GM} {b : SM} {env : PM.Env} {h : AH} : sFor (iRange2 a) g b env h = (a env h).bind fun ds h1 => forR2 ds g b env h1 := by
  unfold sFor iRange2
  cases a env h with
  | no => rfl
  | ex e h1 => rfl
  | ok ds h1 =>
    rw [R.bind_ok, R.bind_ok]
    rcases ds with _ | ⟨d, _ | ⟨d2, _ | ⟨d3, r⟩⟩⟩
    · rfl
    · cases d <;> rfl
    · cases d with
      | int i =>
        cases d2 with
        | int j =>
          show R.bind (if (okR i && okR j) = true then R.ok (⟨intsD i (j - i).toNat, fun _ => true⟩ : Its) h1 else R.no) _ = if (okR i && okR j) = true then _ else R.no
          by_cases hj : (okR i && okR j) = true
          · rw [if_pos hj, if_pos hj]; rfl
          · rw [if_neg hj, if_neg hj]; rfl
        | _ => rfl
      | _ => rfl
    · cases d with
      | int i => cases d2 <;> rfl
      | _ => rfl
theorem forR2_30 {g : GM} {b : SM} {env : PM.Env} {h : AH} : forR2 [.int 0, .int 30] g b env h = PM.forM g b (fun _ => true) ((List.range 30).map fun i => D.int ((i : Nat) : Int)) env h := by
  have e2 : intsD 0 30 = (List.range 30).map fun i => D.int ((i : Nat) : Int) := map_range_ints 30
  rw [← e2]
  rfl
theorem digits_run (ns : List Int) : ∃ ds : List Int, mLawDigits [.rol (ns.map .int), .int 0, .int 30] [] = .ok (.ref 0) [.lst (ds.map .int)] := by
  obtain ⟨env', h', q, x4', x5', x6', x7', ds', e1, e2, e3⟩ := for_run (xs := List.range 30) (F := fun i : Nat => D.int ((i : Nat) : Int)) (g := gmName 4) (b := dOut) (chk := fun _ => true)
    (fun i env h => ∃ (x4 x5 x6 x7 : Option D) (ds' : List Int), env = [some (.rol (ns.map .int)), some (.int 0), some (.int 30), some (.ref 0), x4, x5, x6, x7] ∧ h = [.lst (ds'.map .int)] ∧ ds'.length ≤ 60 * i)
    (fun _ _ _ _ _ => rfl)
    (fun i t hi env h ⟨x4, x5, x6, x7, ds', e1, e2, e3⟩ => by
      subst e1 e2
      have hi30 : i < 30 := by simpa using (List.getElem?_eq_some_iff.mp hi).1
      obtain ⟨x5', x6', x7', ds2, q, hl⟩ := dgB ns (A1 := .int 0) (A2 := .int 30) (x5 := x5) (x6 := x6) (x7 := x7) t ds' (by omega)
      exact ⟨_, _, _, _, rfl, q, some (.int t), x5', x6', x7', ds2, rfl, rfl, by omega⟩)
    (env := [some (.rol (ns.map .int)), some (.int 0), some (.int 30), some (.ref 0), none, none, none, none]) (h := [.lst []]) ⟨none, none, none, none, [], rfl, rfl, by simp⟩
  subst e1 e2
  refine ⟨ds', ?_⟩
  show bodyM 8 (sSeq (sAsg (eLst (aNil)) (gmName 3)) (sSeq (sFor (iRange2 (aCons (eVar 1) (aCons (eVar 2) (aNil)))) (gmName 4) dOut) (sRet (eVar 3)))) [.rol (ns.map .int), .int 0, .int 30] [] = _
  generalize dOut = Bd at q ⊢
  simp [bodyM, sSeq, s_thenNx, s_thenRt, s_loopNx, s_loopRt, s_loopCt, s_loopBk, sAsg, sRet, sRetN, sDrop, sNil, sPar, sBrk, sCnt, eVar, eC, eOp, gmName, gmSub, eCallB, aCons, aNil, eB, eIf, eTru, mAnd, mOr, mNot, mYes, eMeth, eTup, eLst, eL, eDict0, eDict1, r_for1, forR_nat, r_forS, r_lc1, lcR_nat, r_lcS, n_non, n_bl, n_int, n_str, n_tup, n_rol, n_ref, b_non, b_bl, b_int, b_str, b_tup, b_rol, b_ref, eSetd, eItems, gmTup, gmCons, gmNil, dKey, eCall, eCallP, eDc, iSeq, wipeE, eUn, eIsi, eAnd, eOr, eNot, R.bind_ok, noX_ok, s_atI, s_atI0, s_atI1, s_atI2, s_atI3, s_atI4, s_atI5, s_add, s_sub, s_lt, s_le, s_gt, s_ge, s_isN, s_isB, s_eq_ii, s_eq_ss, s_eq_in, s_eq_ni, s_eq_nn, s_eq_sn, s_eq_ns, s_eq_bb, s_lenT, s_lenR, s_int, s_listT, s_listR, s_tupT, s_truB, s_truN, s_truI, s_truT, s_oB, s_itT, s_itR, s_inTI, s_inTS, s_isLst, r_in, r_inDi, r_inDs, inL_I, inL_S, r_ix, r_ixT, r_ixR, r_ixLi, r_ixDi, r_ixDs, r_len, r_list, r_tup, r_sort, r_tru, r_tyL, r_tyD, r_append, r_pop, r_extT, r_extR, r_it, r_for2, forR2_30, q]
theorem ix21 : ixN 2 1 = some 1 := by decide
theorem draw_run {ds : List Int} {c m : Nat} (hm : 0 < m) {G : AH} : ∃ r : Nat, r < m ∧ mLawDraw [.ref 1, .int (m : Int)] (Ob.lst (ds.map .int) :: Ob.lst [.ref 0, .int (c : Int)] :: G) = .ok (.int (r : Int)) (Ob.lst (ds.map .int) :: Ob.lst [.ref 0, .int ((c + 1 : Nat) : Int)] :: G) := by
  have m1 : ∀ x h, oMul (.int x) (.int 7) h = .ok (.int (x * 7)) h := fun x h => s_mul (.inr (by decide))
  have hm' : (0 : Int) < (m : Int) := by omega
  have m2 : ∀ x h, oMod (.int x) (.int (m : Int)) h = .ok (.int (x % (m : Int))) h := fun x h => s_mod hm'
  have nat : ∀ x : Int, ∃ r : Nat, r < m ∧ x % (m : Int) = (r : Int) := fun x => ⟨(x % (m : Int)).toNat, by
    have := Int.emod_nonneg x (show (m : Int) ≠ 0 by omega); have := Int.emod_lt_of_pos x hm'; omega, by
    have := Int.emod_nonneg x (show (m : Int) ≠ 0 by omega); omega⟩
  by_cases hc : c + 1 > ds.length
  · obtain ⟨r, h1, h2⟩ := nat (((c : Int) + 1) * 7 + 3)
    have hc' : (ds.length : Int) < (c : Int) + 1 := by omega
    refine ⟨r, h1, ?_⟩
    unfold mLawDraw
    simp [bodyM, sSeq, s_thenNx, s_thenRt, s_loopNx, s_loopRt, s_loopCt, s_loopBk, sAsg, sRet, sRetN, sDrop, sNil, sPar, sBrk, sCnt, eVar, eC, eOp, gmName, gmSub, eCallB, aCons, aNil, eB, eIf, eTru, mAnd, mOr, mNot, mYes, eMeth, eTup, eLst, eL, eDict0, eDict1, r_for1, forR_nat, r_forS, r_lc1, lcR_nat, r_lcS, n_non, n_bl, n_int, n_str, n_tup, n_rol, n_ref, b_non, b_bl, b_int, b_str, b_tup, b_rol, b_ref, eSetd, eItems, gmTup, gmCons, gmNil, dKey, eCall, eCallP, eDc, iSeq, wipeE, eUn, eIsi, eAnd, eOr, eNot, R.bind_ok, noX_ok, s_atI, s_atI0, s_atI1, s_atI2, s_atI3, s_atI4, s_atI5, s_add, s_sub, s_lt, s_le, s_gt, s_ge, s_isN, s_isB, s_eq_ii, s_eq_ss, s_eq_in, s_eq_ni, s_eq_nn, s_eq_sn, s_eq_ns, s_eq_bb, s_lenT, s_lenR, s_int, s_listT, s_listR, s_tupT, s_truB, s_truN, s_truI, s_truT, s_oB, s_itT, s_itR, s_inTI, s_inTS, s_isLst, r_in, r_inDi, r_inDs, inL_I, inL_S, r_ix, r_ixT, r_ixR, r_ixLi, r_ixDi, r_ixDs, r_len, r_list, r_tup, r_sort, r_tru, r_tyL, r_tyD, r_append, r_pop, r_extT, r_extR, r_it, hc', m1, m2, h2, ix21]
  · have hc' : ¬ (ds.length : Int) < (c : Int) + 1 := by omega
    have hcl : c < ds.length := by omega
    obtain ⟨v, hv⟩ : ∃ v, ds[c]? = some v := ⟨ds[c], by simp [hcl]⟩
    obtain ⟨r, h1, h2⟩ := nat v
    refine ⟨r, h1, ?_⟩
    unfold mLawDraw
    simp [bodyM, sSeq, s_thenNx, s_thenRt, s_loopNx, s_loopRt, s_loopCt, s_loopBk, sAsg, sRet, sRetN, sDrop, sNil, sPar, sBrk, sCnt, eVar, eC, eOp, gmName, gmSub, eCallB, aCons, aNil, eB, eIf, eTru, mAnd, mOr, mNot, mYes, eMeth, eTup, eLst, eL, eDict0, eDict1, r_for1, forR_nat, r_forS, r_lc1, lcR_nat, r_lcS, n_non, n_bl, n_int, n_str, n_tup, n_rol, n_ref, b_non, b_bl, b_int, b_str, b_tup, b_rol, b_ref, eSetd, eItems, gmTup, gmCons, gmNil, dKey, eCall, eCallP, eDc, iSeq, wipeE, eUn, eIsi, eAnd, eOr, eNot, R.bind_ok, noX_ok, s_atI, s_atI0, s_atI1, s_atI2, s_atI3, s_atI4, s_atI5, s_add, s_sub, s_lt, s_le, s_gt, s_ge, s_isN, s_isB, s_eq_ii, s_eq_ss, s_eq_in, s_eq_ni, s_eq_nn, s_eq_sn, s_eq_ns, s_eq_bb, s_lenT, s_lenR, s_int, s_listT, s_listR, s_tupT, s_truB, s_truN, s_truI, s_truT, s_oB, s_itT, s_itR, s_inTI, s_inTS, s_isLst, r_in, r_inDi, r_inDs, inL_I, inL_S, r_ix, r_ixT, r_ixR, r_ixLi, r_ixDi, r_ixDs, r_len, r_list, r_tup, r_sort, r_tru, r_tyL, r_tyD, r_append, r_pop, r_extT, r_extR, r_it, hc', m1, m2, hv, h2, ix21]
/-- the heap that the draws keep -/
def Bx (ds : List Int) (c : Nat) (G : AH) : AH := Ob.lst (ds.map .int) :: Ob.lst [.ref 0, .int (c : Int)] :: G
theorem draw {ds : List Int} {c m : Nat} (hm : 0 < m) {G : AH} : ∃ r : Nat, r < m ∧ mLawDraw [.ref 1, .int (m : Int)] (Bx ds c G) = .ok (.int (r : Int)) (Bx ds (c + 1) G) := draw_run hm
theorem bx_get {ds : List Int} {c k : Nat} {G : AH} : (Bx ds c G)[k + 2]? = G[k]? := rfl
theorem bx_app {ds : List Int} {c : Nat} {G g : AH} : Bx ds c G ++ g = Bx ds c (G ++ g) := rfl
theorem bx_len {ds : List Int} {c : Nat} {G : AH} : (Bx ds c G).length = G.length + 2 := rfl
theorem bx_set {ds : List Int} {c k : Nat} {G : AH} {o : Ob} : (Bx ds c G).set (k + 2) o = Bx ds c (G.set k o) := rfl
end K04

namespace K04
open PySem L2 PM
theorem draw8 {ds : List Int} {c : Nat} {G : AH} : ∃ r : Nat, r < 8 ∧ mLawDraw [.ref 1, .int 8] (Bx ds c G) = .ok (.int (r : Int)) (Bx ds (c + 1) G) := draw (by decide)
theorem draw9 {ds : List Int} {c : Nat} {G : AH} : ∃ r : Nat, r < 9 ∧ mLawDraw [.ref 1, .int 9] (Bx ds c G) = .ok (.int (r : Int)) (Bx ds (c + 1) G) := draw (by decide)
theorem draw6 {ds : List Int} {c : Nat} {G : AH} : ∃ r : Nat, r < 6 ∧ mLawDraw [.ref 1, .int 6] (Bx ds c G) = .ok (.int (r : Int)) (Bx ds (c + 1) G) := draw (by decide)
theorem draw3 {ds : List Int} {c : Nat} {G : AH} : ∃ r : Nat, r < 3 ∧ mLawDraw [.ref 1, .int 3] (Bx ds c G) = .ok (.int (r : Int)) (Bx ds (c + 1) G) := draw (by decide)
theorem draw1000 {ds : List Int} {c : Nat} {G : AH} : ∃ r : Nat, r < 1000 ∧ mLawDraw [.ref 1, .int 1000] (Bx ds c G) = .ok (.int (r : Int)) (Bx ds (c + 1) G) := draw (by decide)
theorem bx_last {ds : List Int} {c : Nat} {G : AH} {o : Ob} : (Bx ds c (G ++ [o]))[G.length + 2]? = some o := by
  rw [bx_get]; simp
theorem bx_lastG {ds : List Int} {c : Nat} {G : AH} {o : Ob} (hh : G.length + 2 < (Bx ds c (G ++ [o])).length) : (Bx ds c (G ++ [o]))[G.length + 2]'hh = o := by
  have := bx_last (ds := ds) (c := c) (G := G) (o := o)
  rw [List.getElem?_eq_getElem hh] at this
  exact Option.some.inj this
theorem bx_lset {ds : List Int} {c : Nat} {G : AH} {o o2 : Ob} : (Bx ds c (G ++ [o])).set (G.length + 2) o2 = Bx ds c (G ++ [o2]) := by
  rw [bx_set]; simp
def mkEnd (kd o1 o2 : Nat) : End := if kd < 3 then .go o1 else if kd < 6 then .br o1 o2 else if kd = 6 then .give else .halt
theorem mkEnd_lt {kd o1 o2 m : Nat} (h1 : o1 < m) (h2 : o2 < m) : ∀ y ∈ ways (mkEnd kd o1 o2), y < m := by
  intro y hy
  unfold mkEnd at hy
  split at hy
  · simp [ways] at hy; omega
  · split at hy
    · simp [ways] at hy; omega
    · split at hy <;> simp [ways] at hy
abbrev bBody : SM := sSeq (sAsg (eCall (aCons (eVar 0) (aCons (eC (.int 8)) (aNil))) mLawDraw) (gmName 4)) (sSeq (sPar 5 6 (aCons (eCall (aCons (eVar 0) (aCons (eVar 1) (aNil))) mLawDraw) (aCons (eCall (aCons (eVar 0) (aCons (eVar 1) (aNil))) mLawDraw) (aNil)))) (sSeq (eIf (eB (eOp (oLt) (eVar 4) (eC (.int 3)))) (sAsg (eTup (aCons (eC (.str ("go" : Str))) (aCons (eVar 5) (aCons (eTup (aNil)) (aNil))))) (gmName 7)) (sAsg (eIf (eB (eOp (oLt) (eVar 4) (eC (.int 6)))) (eTup (aCons (eC (.str ("if" : Str))) (aCons (eC (.int 0)) (aCons (eVar 5) (aCons (eTup (aNil)) (aCons (eVar 6) (aCons (eTup (aNil)) (aNil)))))))) (eIf (eB (eOp (oEq false) (eVar 4) (eC (.int 6)))) (eTup (aCons (eC (.str ("give" : Str))) (aCons (eTup (aNil)) (aNil)))) (eTup (aCons (eC (.str ("halt" : Str))) (aCons (eC (.str ("stop" : Str))) (aNil)))))) (gmName 7))) (sDrop (eMeth .l (eVar 2) (aCons (eTup (aCons (eTup (aNil)) (aCons (eTup (aCons (eTup (aCons (eC (.str ("word" : Str))) (aCons (eC (.int 1)) (aNil)))) (aNil))) (aCons (eVar 7) (aNil))))) (aNil)) oAppend))))
theorem bBody_run {ds : List Int} {c m : Nat} (hm : 0 < m) {G : AH} {es : List End} (hl : es.length < 1000) {x4 x5 x6 x7 : Option D} {t : D} : ∃ kd o1 o2, o1 < m ∧ o2 < m ∧
    bBody [some (.ref 1), some (.int (m : Int)), some (.ref (G.length + 2)), some t, x4, x5, x6, x7] (Bx ds c (G ++ [.lst (es.map blkD)])) =
      .ok (.nx [some (.ref 1), some (.int (m : Int)), some (.ref (G.length + 2)), some t, some (I kd), some (I o1), some (I o2), some (endD (mkEnd kd o1 o2))]) (Bx ds (c + 1 + 1 + 1) (G ++ [.lst ((es ++ [mkEnd kd o1 o2]).map blkD)])) := by
  obtain ⟨kd, h1, q1⟩ := draw8 (ds := ds) (c := c) (G := G ++ [.lst (es.map blkD)])
  obtain ⟨o1, h2, q2⟩ := draw (ds := ds) (c := c + 1) (G := G ++ [.lst (es.map blkD)]) hm
  obtain ⟨o2, h3, q3⟩ := draw (ds := ds) (c := c + 1 + 1) (G := G ++ [.lst (es.map blkD)]) hm
  have hl2 : es.length < 16777216 := by omega
  refine ⟨kd, o1, o2, h2, h3, ?_⟩
  by_cases c3 : kd < 3
  · have c3' : (kd : Int) < 3 := by omega
    simp [bodyM, sSeq, s_thenNx, s_thenRt, s_loopNx, s_loopRt, s_loopCt, s_loopBk, sAsg, sRet, sRetN, sDrop, sNil, sPar, sBrk, sCnt, eVar, eC, eOp, gmName, gmSub, eCallB, aCons, aNil, eB, eIf, eTru, mAnd, mOr, mNot, mYes, eMeth, eTup, eLst, eL, eDict0, eDict1, r_for1, forR_nat, r_forS, r_lc1, lcR_nat, r_lcS, n_non, n_bl, n_int, n_str, n_tup, n_rol, n_ref, b_non, b_bl, b_int, b_str, b_tup, b_rol, b_ref, eSetd, eItems, gmTup, gmCons, gmNil, dKey, eCall, eCallP, eDc, iSeq, wipeE, eUn, eIsi, eAnd, eOr, eNot, R.bind_ok, noX_ok, s_atI, s_atI0, s_atI1, s_atI2, s_atI3, s_atI4, s_atI5, s_add, s_sub, s_lt, s_le, s_gt, s_ge, s_isN, s_isB, s_eq_ii, s_eq_ss, s_eq_in, s_eq_ni, s_eq_nn, s_eq_sn, s_eq_ns, s_eq_bb, s_lenT, s_lenR, s_int, s_listT, s_listR, s_tupT, s_truB, s_truN, s_truI, s_truT, s_oB, s_itT, s_itR, s_inTI, s_inTS, s_isLst, r_in, r_inDi, r_inDs, inL_I, inL_S, r_ix, r_ixT, r_ixR, r_ixLi, r_ixDi, r_ixDs, r_len, r_list, r_tup, r_sort, r_tru, r_tyL, r_tyD, r_append, r_pop, r_extT, r_extR, r_it, q1, q2, q3, c3, c3', mkEnd, endD, blkD, I, bx_last, bx_lset, szl, hl2]
  · have c3' : ¬ (kd : Int) < 3 := by omega
    by_cases c6 : kd < 6
    · have c6' : (kd : Int) < 6 := by omega
      simp [bodyM, sSeq, s_thenNx, s_thenRt, s_loopNx, s_loopRt, s_loopCt, s_loopBk, sAsg, sRet, sRetN, sDrop, sNil, sPar, sBrk, sCnt, eVar, eC, eOp, gmName, gmSub, eCallB, aCons, aNil, eB, eIf, eTru, mAnd, mOr, mNot, mYes, eMeth, eTup, eLst, eL, eDict0, eDict1, r_for1, forR_nat, r_forS, r_lc1, lcR_nat, r_lcS, n_non, n_bl, n_int, n_str, n_tup, n_rol, n_ref, b_non, b_bl, b_int, b_str, b_tup, b_rol, b_ref, eSetd, eItems, gmTup, gmCons, gmNil, dKey, eCall, eCallP, eDc, iSeq, wipeE, eUn, eIsi, eAnd, eOr, eNot, R.bind_ok, noX_ok, s_atI, s_atI0, s_atI1, s_atI2, s_atI3, s_atI4, s_atI5, s_add, s_sub, s_lt, s_le, s_gt, s_ge, s_isN, s_isB, s_eq_ii, s_eq_ss, s_eq_in, s_eq_ni, s_eq_nn, s_eq_sn, s_eq_ns, s_eq_bb, s_lenT, s_lenR, s_int, s_listT, s_listR, s_tupT, s_truB, s_truN, s_truI, s_truT, s_oB, s_itT, s_itR, s_inTI, s_inTS, s_isLst, r_in, r_inDi, r_inDs, inL_I, inL_S, r_ix, r_ixT, r_ixR, r_ixLi, r_ixDi, r_ixDs, r_len, r_list, r_tup, r_sort, r_tru, r_tyL, r_tyD, r_append, r_pop, r_extT, r_extR, r_it, q1, q2, q3, c3, c3', c6, c6', mkEnd, endD, blkD, I, bx_last, bx_lset, szl, hl2]
    · have c6' : ¬ (kd : Int) < 6 := by omega
      by_cases c7 : kd = 6
      · subst c7
        simp [bodyM, sSeq, s_thenNx, s_thenRt, s_loopNx, s_loopRt, s_loopCt, s_loopBk, sAsg, sRet, sRetN, sDrop, sNil, sPar, sBrk, sCnt, eVar, eC, eOp, gmName, gmSub, eCallB, aCons, aNil, eB, eIf, eTru, mAnd, mOr, mNot, mYes, eMeth, eTup, eLst, eL, eDict0, eDict1, r_for1, forR_nat, r_forS, r_lc1, lcR_nat, r_lcS, n_non, n_bl, n_int, n_str, n_tup, n_rol, n_ref, b_non, b_bl, b_int, b_str, b_tup, b_rol, b_ref, eSetd, eItems, gmTup, gmCons, gmNil, dKey, eCall, eCallP, eDc, iSeq, wipeE, eUn, eIsi, eAnd, eOr, eNot, R.bind_ok, noX_ok, s_atI, s_atI0, s_atI1, s_atI2, s_atI3, s_atI4, s_atI5, s_add, s_sub, s_lt, s_le, s_gt, s_ge, s_isN, s_isB, s_eq_ii, s_eq_ss, s_eq_in, s_eq_ni, s_eq_nn, s_eq_sn, s_eq_ns, s_eq_bb, s_lenT, s_lenR, s_int, s_listT, s_listR, s_tupT, s_truB, s_truN, s_truI, s_truT, s_oB, s_itT, s_itR, s_inTI, s_inTS, s_isLst, r_in, r_inDi, r_inDs, inL_I, inL_S, r_ix, r_ixT, r_ixR, r_ixLi, r_ixDi, r_ixDs, r_len, r_list, r_tup, r_sort, r_tru, r_tyL, r_tyD, r_append, r_pop, r_extT, r_extR, r_it, q1, q2, q3, mkEnd, endD, blkD, I, bx_last, bx_lset, szl, hl2]
      · have c7' : ¬ (kd : Int) = 6 := by omega
        simp [bodyM, sSeq, s_thenNx, s_thenRt, s_loopNx, s_loopRt, s_loopCt, s_loopBk, sAsg, sRet, sRetN, sDrop, sNil, sPar, sBrk, sCnt, eVar, eC, eOp, gmName, gmSub, eCallB, aCons, aNil, eB, eIf, eTru, mAnd, mOr, mNot, mYes, eMeth, eTup, eLst, eL, eDict0, eDict1, r_for1, forR_nat, r_forS, r_lc1, lcR_nat, r_lcS, n_non, n_bl, n_int, n_str, n_tup, n_rol, n_ref, b_non, b_bl, b_int, b_str, b_tup, b_rol, b_ref, eSetd, eItems, gmTup, gmCons, gmNil, dKey, eCall, eCallP, eDc, iSeq, wipeE, eUn, eIsi, eAnd, eOr, eNot, R.bind_ok, noX_ok, s_atI, s_atI0, s_atI1, s_atI2, s_atI3, s_atI4, s_atI5, s_add, s_sub, s_lt, s_le, s_gt, s_ge, s_isN, s_isB, s_eq_ii, s_eq_ss, s_eq_in, s_eq_ni, s_eq_nn, s_eq_sn, s_eq_ns, s_eq_bb, s_lenT, s_lenR, s_int, s_listT, s_listR, s_tupT, s_truB, s_truN, s_truI, s_truT, s_oB, s_itT, s_itR, s_inTI, s_inTS, s_isLst, r_in, r_inDi, r_inDs, inL_I, inL_S, r_ix, r_ixT, r_ixR, r_ixLi, r_ixDi, r_ixDs, r_len, r_list, r_tup, r_sort, r_tru, r_tyL, r_tyD, r_append, r_pop, r_extT, r_extR, r_it, q1, q2, q3, c3, c3', c6, c6', c7, c7', mkEnd, endD, blkD, I, bx_last, bx_lset, szl, hl2]
theorem blocks_run {ds : List Int} {c : Nat} {G : AH} : ∃ bs c', okB bs ∧ mLawBlocks [.ref 1] (Bx ds c G) = .ok (B bs) (Bx ds c' (G ++ [.lst (bs.map blkD)])) := by
  obtain ⟨m0, hm0, q0⟩ := draw9 (ds := ds) (c := c) (G := G)
  obtain ⟨m, hm⟩ : ∃ m, m = m0 + 1 := ⟨_, rfl⟩
  have hmm : (1 : Int) + (m0 : Int) = (m : Int) := by omega
  have sm : SmN m := by unfold SmN; omega
  obtain ⟨env', h', q, x3, x4, x5, x6, x7, es, c', e1, e2, e3, e4⟩ := for_run (xs := List.range m) (F := fun i : Nat => D.int ((i : Nat) : Int)) (g := gmName 3) (b := bBody) (chk := fun _ => true)
    (fun i env h => ∃ (x3 x4 x5 x6 x7 : Option D) (es : List End) (c' : Nat), env = [some (.ref 1), some (.int (m : Int)), some (.ref (G.length + 2)), x3, x4, x5, x6, x7] ∧ h = Bx ds c' (G ++ [.lst (es.map blkD)]) ∧ es.length = i ∧ ∀ e ∈ es, ∀ y ∈ ways e, y < m)
    (fun _ _ _ _ _ => rfl)
    (fun i t hi env h ⟨x3, x4, x5, x6, x7, es, c', e1, e2, e3, e4⟩ => by
      subst e1 e2
      have hi9 : i < m := by simpa using (List.getElem?_eq_some_iff.mp hi).1
      obtain ⟨kd, o1, o2, h1, h2, q⟩ := bBody_run (ds := ds) (c := c') (m := m) (by omega) (G := G) (es := es) (by omega) (x4 := x4) (x5 := x5) (x6 := x6) (x7 := x7) (t := .int (t : Int))
      refine ⟨_, _, _, _, rfl, q, some (.int t), _, _, _, _, es ++ [mkEnd kd o1 o2], _, rfl, rfl, by simp [e3], fun e he => ?_⟩
      rcases List.mem_append.mp he with he | he
      · exact e4 e he
      · rw [List.mem_singleton.mp he]; exact mkEnd_lt h1 h2)
    (env := [some (.ref 1), some (.int (m : Int)), some (.ref (G.length + 2)), none, none, none, none, none]) (h := Bx ds (c + 1) (G ++ [.lst []])) ⟨none, none, none, none, none, [], c + 1, rfl, rfl, rfl, fun e he => nomatch he⟩
  subst e1 e2
  have el : es.length = m := by simpa using e3
  refine ⟨es, c', ⟨by omega, by omega, fun e he y hy => by rw [el]; exact e4 e he y hy⟩, ?_⟩
  show bodyM 8 (sSeq (sAsg (eOp oAdd (eC (.int 1)) (eCall (aCons (eVar 0) (aCons (eC (.int 9)) (aNil))) mLawDraw)) (gmName 1)) (sSeq (sAsg (eLst (aNil)) (gmName 2)) (sSeq (sFor (iRange1 (aCons (eVar 1) (aNil))) (gmName 3) bBody) (sRet (eCallB (aCons (eVar 2) (aNil)) oTuple))))) [.ref 1] (Bx ds c G) = _
  generalize bBody = Bd at q ⊢
  have q' : PM.forM (gmName 3) Bd (fun _ => true) ((List.range m).map fun i : Nat => D.int ((i : Nat) : Int)) [some (.ref 1), some (.int (m : Int)), some (.ref (G.length + 2)), none, none, none, none, none] (Bx ds (c + 1) (G ++ [.lst []])) = _ := q
  simp [bodyM, sSeq, s_thenNx, s_thenRt, s_loopNx, s_loopRt, s_loopCt, s_loopBk, sAsg, sRet, sRetN, sDrop, sNil, sPar, sBrk, sCnt, eVar, eC, eOp, gmName, gmSub, eCallB, aCons, aNil, eB, eIf, eTru, mAnd, mOr, mNot, mYes, eMeth, eTup, eLst, eL, eDict0, eDict1, r_for1, forR_nat, r_forS, r_lc1, lcR_nat, r_lcS, n_non, n_bl, n_int, n_str, n_tup, n_rol, n_ref, b_non, b_bl, b_int, b_str, b_tup, b_rol, b_ref, eSetd, eItems, gmTup, gmCons, gmNil, dKey, eCall, eCallP, eDc, iSeq, wipeE, eUn, eIsi, eAnd, eOr, eNot, R.bind_ok, noX_ok, s_atI, s_atI0, s_atI1, s_atI2, s_atI3, s_atI4, s_atI5, s_add, s_sub, s_lt, s_le, s_gt, s_ge, s_isN, s_isB, s_eq_ii, s_eq_ss, s_eq_in, s_eq_ni, s_eq_nn, s_eq_sn, s_eq_ns, s_eq_bb, s_lenT, s_lenR, s_int, s_listT, s_listR, s_tupT, s_truB, s_truN, s_truI, s_truT, s_oB, s_itT, s_itR, s_inTI, s_inTS, s_isLst, r_in, r_inDi, r_inDs, inL_I, inL_S, r_ix, r_ixT, r_ixR, r_ixLi, r_ixDi, r_ixDs, r_len, r_list, r_tup, r_sort, r_tru, r_tyL, r_tyD, r_append, r_pop, r_extT, r_extR, r_it, q0, hmm, sm, bx_len, bx_app, q', bx_last, bx_lastG, B]
theorem pick_run {ds : List Int} {c r : Nat} {G : AH} {row : List D} (hr : (G[r]?) = some (.lst row)) (hz : row ≠ []) : ∃ x ∈ row, mLawPick [.ref 1, .ref (r + 2)] (Bx ds c G) = .ok x (Bx ds (c + 1) G) := by
  obtain ⟨k, hk, q⟩ := draw1000 (ds := ds) (c := c) (G := G)
  have hp : 0 < row.length := List.length_pos_iff.mpr hz
  have hp' : (0 : Int) < (row.length : Int) := by omega
  have m2 : ∀ x h, oMod (.int x) (.int (row.length : Int)) h = .ok (.int (x % (row.length : Int))) h := fun x h => s_mod hp'
  have e : ((k : Int)) % (row.length : Int) = ((k % row.length : Nat) : Int) := by simp
  have hlt : k % row.length < row.length := Nat.mod_lt _ hp
  obtain ⟨x, hx⟩ : ∃ x, row[k % row.length]? = some x := ⟨row[k % row.length], by simp [hlt]⟩
  refine ⟨x, List.mem_of_getElem? hx, ?_⟩
  have hg : ∀ c, (Bx ds c G)[r + 2]? = some (.lst row) := fun c => by rw [bx_get]; exact hr
  unfold mLawPick
  simp [bodyM, sSeq, s_thenNx, s_thenRt, s_loopNx, s_loopRt, s_loopCt, s_loopBk, sAsg, sRet, sRetN, sDrop, sNil, sPar, sBrk, sCnt, eVar, eC, eOp, gmName, gmSub, eCallB, aCons, aNil, eB, eIf, eTru, mAnd, mOr, mNot, mYes, eMeth, eTup, eLst, eL, eDict0, eDict1, r_for1, forR_nat, r_forS, r_lc1, lcR_nat, r_lcS, n_non, n_bl, n_int, n_str, n_tup, n_rol, n_ref, b_non, b_bl, b_int, b_str, b_tup, b_rol, b_ref, eSetd, eItems, gmTup, gmCons, gmNil, dKey, eCall, eCallP, eDc, iSeq, wipeE, eUn, eIsi, eAnd, eOr, eNot, R.bind_ok, noX_ok, s_atI, s_atI0, s_atI1, s_atI2, s_atI3, s_atI4, s_atI5, s_add, s_sub, s_lt, s_le, s_gt, s_ge, s_isN, s_isB, s_eq_ii, s_eq_ss, s_eq_in, s_eq_ni, s_eq_nn, s_eq_sn, s_eq_ns, s_eq_bb, s_lenT, s_lenR, s_int, s_listT, s_listR, s_tupT, s_truB, s_truN, s_truI, s_truT, s_oB, s_itT, s_itR, s_inTI, s_inTS, s_isLst, r_in, r_inDi, r_inDs, inL_I, inL_S, r_ix, r_ixT, r_ixR, r_ixLi, r_ixDi, r_ixDs, r_len, r_list, r_tup, r_sort, r_tru, r_tyL, r_tyD, r_append, r_pop, r_extT, r_extR, r_it, q, hg, m2]
  rw [show ((k : Int)) % (row.length : Int) = ((k % row.length : Nat) : Int) from e, s_atI, hx]
  rfl
end K04

namespace K04
open PySem L2 PM
/-! ### dicts by texts -/
def T (a : Str) : D := .str a
theorem pur_T (a : Str) : pur (T a) = true := rfl
theorem map_T (f : List Str) : f.map T = f.map .str := rfl
def kS (a : Str) : Key := .inr a
theorem kS_inj {a b : Str} (h : kS a = kS b) : a = b := Sum.inr.inj h
def dS (F : Str → D) (L : List Str) : List (Key × D) := L.map fun l => (kS l, F l)
theorem gt_dS (F : Str → D) (l : Str) : ∀ L : List Str, gtD (dS F L) (kS l) = if l ∈ L then some (F l) else none
  | [] => rfl
  | m :: L => by
    show (if kS m = kS l then some (F m) else gtD (dS F L) (kS l)) = _
    by_cases e : m = l
    · subst e; simp
    · have e2 : ¬ kS m = kS l := fun z => e (kS_inj z)
      have e3 : ¬ l = m := fun z => e z.symm
      rw [if_neg e2, gt_dS F l L]
      simp [e3]
theorem pt_dS {F : Str → D} {l : Str} {L : List Str} (h : l ∉ L) : ptD (dS F L) (kS l) (F l) = dS F (L ++ [l]) := by
  unfold ptD
  rw [gt_dS, if_neg h]
  simp [dS]
theorem pt_dS_in {F : Str → D} {l : Str} {L : List Str} (h : l ∈ L) : ptD (dS F L) (kS l) (F l) = dS F L := by
  unfold ptD
  rw [gt_dS, if_pos h, if_pos (show (some (F l)).isSome = true from rfl)]
  unfold dS
  rw [List.map_map]
  apply List.map_congr_left
  intro m hm
  show (kS m, if kS m = kS l then F l else F m) = (kS m, F m)
  by_cases e : kS m = kS l
  · rw [if_pos e, kS_inj e]
  · rw [if_neg e]
theorem dS_len (F : Str → D) (L : List Str) : (dS F L).length = L.length := by simp [dS]
theorem dS_keys (F : Str → D) (L : List Str) : (dS F L).map (fun p => keyD p.1) = L.map .str := by simp [dS, keyD, kS]
/-- a text more -/
def addS (f : List Str) (a : Str) : List Str := if a ∈ f then f else f ++ [a]
theorem addS_mem (f : List Str) (a x : Str) : x ∈ addS f a ↔ x ∈ f ∨ x = a := by
  unfold addS
  split
  · rename_i h
    exact ⟨.inl, fun q => q.elim id fun e => e ▸ h⟩
  · simp
theorem addS_nd {f : List Str} {a : Str} (h : f.Nodup) : (addS f a).Nodup := by
  unfold addS
  split
  · exact h
  · rename_i q
    exact List.nodup_append.mpr ⟨h, by simp, fun x hx b hb e => q (by rw [← List.mem_singleton.mp hb, ← e]; exact hx)⟩
abbrev mk : Str → D := fun _ => .bl true
theorem pt_mk {f : List Str} {a : Str} : ptD (dS mk f) (.inr a) (.bl true) = dS mk (addS f a) := by
  unfold addS
  split
  · rename_i h; exact pt_dS_in (F := mk) h
  · rename_i h; exact pt_dS (F := mk) h
theorem gt_mk (a : Str) (f : List Str) : (gtD (dS mk f) (.inr a)).isSome = decide (a ∈ f) := by
  show (gtD (dS mk f) (kS a)).isSome = _
  rw [gt_dS]
  by_cases h : a ∈ f
  · rw [if_pos h]; simp [h]
  · rw [if_neg h]; simp [h]
/-! ### texts in order -/
theorem sortL_T {b : Bool} {ns : List Str} {h : AH} (hl : ns.length < 64) : sortL b (ns.map .str) h = .ok (.ref h.length) (h ++ [.lst ((srtS ns).map .str)]) := by
  by_cases hz : ns = []
  · subst hz
    have := sortL_nil (b := b) (h := h)
    simpa [srtS] using this
  · exact sortL_S hz hl
theorem srtS_mem (l : List Str) (x : Str) : x ∈ srtS l ↔ x ∈ l := (List.mergeSort_perm l leS).mem_iff
theorem srtS_nd {l : List Str} (h : l.Nodup) : (srtS l).Nodup := (List.mergeSort_perm l leS).nodup_iff.mpr h
theorem srtS_set {l m : List Str} (hl : l.Nodup) (hm : m.Nodup) (h : ∀ x, x ∈ l ↔ x ∈ m) : srtS l = srtS m := srtS_perm (perm_of hl hm h)
/-- the texts, each once, in order -/
def cal (xs : List Str) : List Str := srtS xs.eraseDups
theorem cal_mem (xs : List Str) (x : Str) : x ∈ cal xs ↔ x ∈ xs := (srtS_mem _ _).trans List.mem_eraseDups
theorem ed_nd : ∀ (n : Nat) (xs : List Str), xs.length ≤ n → xs.eraseDups.Nodup
  | _, [], _ => by simp
  | n + 1, a :: as, hl => by
    rw [List.eraseDups_cons]
    refine List.nodup_cons.mpr ⟨fun h => ?_, ed_nd n _ ?_⟩
    · have := List.mem_eraseDups.mp h
      simp at this
    · have := List.length_filter_le (fun b => !b == a) as
      simp only [List.length_cons] at hl
      omega
theorem cal_nd (xs : List Str) : (cal xs).Nodup := srtS_nd (ed_nd xs.length xs (Nat.le_refl _))
theorem cal_of {f xs : List Str} (nd : f.Nodup) (h : ∀ x, x ∈ f ↔ x ∈ xs) : srtS f = cal xs :=
  srtS_set nd (ed_nd xs.length xs (Nat.le_refl _)) fun x => (h x).trans List.mem_eraseDups.symm
theorem cal_id {xs : List Str} (nd : xs.Nodup) : srtS xs = cal xs := cal_of nd fun x => Iff.rfl
/-! ### the code -/
abbrev Fn := Str × List Str
def callD (o : Str) : D := .tup [.str ("call" : Str), .str o, .tup []]
def rowD (c : Fn) : D := .tup [.str c.1, .tup [], .tup [], .tup [.tup [.tup [], .tup (c.2.map callD), .tup [.str ("give" : Str), .tup []]]]]
def codeD (cs : List Fn) : D := .tup [.str ("code" : Str), .tup [], .tup (cs.map rowD)]
theorem pur_call (o : Str) : pur (callD o) = true := rfl
theorem pur_row (c : Fn) : pur (rowD c) = true := by simp [rowD, pur, purs, purs_map pur_call]
theorem pur_code (cs : List Fn) : pur (codeD cs) = true := by simp [codeD, pur, purs, purs_map pur_row]
abbrev cIn : SM := eIf (eB (eOp (oEq false) (eOp oIx (eVar 3) (eC (.int 0))) (eC (.str ("call" : Str))))) (sAsg (eC (.bl true)) (gmSub (eVar 1) (eOp oIx (eVar 3) (eC (.int 1))))) (sNil)
theorem calls_run {c : Fn} (hl : c.2.length < 60) : ∃ h', mCallsOf [rowD c] [] = .ok (.tup ((cal c.2).map T)) h' := by
  obtain ⟨env', h', q, nd, fl, x3, e1, e2⟩ := for_fold (F := callD) (g := gmName 3) (b := cIn) (chk := fun _ => true) addS
    (fun f env h => f.Nodup ∧ (∀ x ∈ f, x ∈ c.2) ∧ ∃ x3, env = [some (rowD c), some (.ref 0), some (.tup [.tup [], .tup (c.2.map callD), .tup [.str ("give" : Str), .tup []]]), x3] ∧ h = [.dic false (dS mk f)])
    (fun f env h _ => rfl) c.2
    (fun a ha f env h ⟨nd, fl, x3, e1, e2⟩ => by
      subst e1 e2
      have hf : f.length < 16777216 := by have := nodup_len nd fl; omega
      refine ⟨_, _, [some (rowD c), some (.ref 0), some (.tup [.tup [], .tup (c.2.map callD), .tup [.str ("give" : Str), .tup []]]), some (callD a)], [.dic false (dS mk (addS f a))], rfl, ?_, addS_nd nd, fun x hx => ?_, some (callD a), rfl, rfl⟩
      · simp [bodyM, sSeq, s_thenNx, s_thenRt, s_loopNx, s_loopRt, s_loopCt, s_loopBk, sAsg, sRet, sRetN, sDrop, sNil, sPar, sBrk, sCnt, eVar, eC, eOp, gmName, gmSub, eCallB, aCons, aNil, eB, eIf, eTru, mAnd, mOr, mNot, mYes, eMeth, eTup, eLst, eL, eDict0, eDict1, r_for1, forR_nat, r_forS, r_lc1, lcR_nat, r_lcS, n_non, n_bl, n_int, n_str, n_tup, n_rol, n_ref, b_non, b_bl, b_int, b_str, b_tup, b_rol, b_ref, eSetd, eItems, gmTup, gmCons, gmNil, dKey, eCall, eCallP, eDc, iSeq, wipeE, eUn, eIsi, eAnd, eOr, eNot, R.bind_ok, noX_ok, s_atI, s_atI0, s_atI1, s_atI2, s_atI3, s_atI4, s_atI5, s_add, s_sub, s_lt, s_le, s_gt, s_ge, s_isN, s_isB, s_eq_ii, s_eq_ss, s_eq_in, s_eq_ni, s_eq_nn, s_eq_sn, s_eq_ns, s_eq_bb, s_lenT, s_lenR, s_int, s_listT, s_listR, s_tupT, s_truB, s_truN, s_truI, s_truT, s_oB, s_itT, s_itR, s_inTI, s_inTS, s_isLst, r_in, r_inDi, r_inDs, inL_I, inL_S, r_ix, r_ixT, r_ixR, r_ixLi, r_ixDi, r_ixDs, r_len, r_list, r_tup, r_sort, r_tru, r_tyL, r_tyD, r_append, r_pop, r_extT, r_extR, r_it, callD, dS_len, szl, hf, pt_mk]
      · rcases (addS_mem f a x).mp hx with h | rfl
        · exact fl x h
        · exact ha)
    [] [some (rowD c), some (.ref 0), some (.tup [.tup [], .tup (c.2.map callD), .tup [.str ("give" : Str), .tup []]]), none] [.dic false (dS mk [])] ⟨by simp, fun x hx => (nomatch hx), none, rfl, rfl⟩
  subst e1 e2
  have fm : ∀ x, x ∈ c.2.foldl addS [] ↔ x ∈ c.2 := fun x => by
    rw [fold_mem (N := fun a x => x = a) (fun a _ s y => addS_mem s a y)]
    simp
  have hl64 : (c.2.foldl addS []).length < 64 := by have := nodup_len nd fl; omega
  refine ⟨[.dic false (dS mk (c.2.foldl addS [])), .lst ((cal c.2).map .str)], ?_⟩
  show bodyM 4 (sSeq (sAsg (eDict0) (gmName 1)) (sSeq (sFor (iSeq (eOp oIx (eVar 0) (eC (.int 3)))) (gmName 2) (sFor (iSeq (eOp oIx (eVar 2) (eC (.int 1)))) (gmName 3) cIn)) (sRet (eCallB (aCons (eCallB (aCons (eVar 1) (aNil)) oSorted) (aNil)) oTuple)))) [rowD c] [] = _
  generalize cIn = Bd at q ⊢
  simp only [rowD, show dS mk [] = [] from rfl] at q
  simp [bodyM, sSeq, s_thenNx, s_thenRt, s_loopNx, s_loopRt, s_loopCt, s_loopBk, sAsg, sRet, sRetN, sDrop, sNil, sPar, sBrk, sCnt, eVar, eC, eOp, gmName, gmSub, eCallB, aCons, aNil, eB, eIf, eTru, mAnd, mOr, mNot, mYes, eMeth, eTup, eLst, eL, eDict0, eDict1, r_for1, forR_nat, r_forS, r_lc1, lcR_nat, r_lcS, n_non, n_bl, n_int, n_str, n_tup, n_rol, n_ref, b_non, b_bl, b_int, b_str, b_tup, b_rol, b_ref, eSetd, eItems, gmTup, gmCons, gmNil, dKey, eCall, eCallP, eDc, iSeq, wipeE, eUn, eIsi, eAnd, eOr, eNot, R.bind_ok, noX_ok, s_atI, s_atI0, s_atI1, s_atI2, s_atI3, s_atI4, s_atI5, s_add, s_sub, s_lt, s_le, s_gt, s_ge, s_isN, s_isB, s_eq_ii, s_eq_ss, s_eq_in, s_eq_ni, s_eq_nn, s_eq_sn, s_eq_ns, s_eq_bb, s_lenT, s_lenR, s_int, s_listT, s_listR, s_tupT, s_truB, s_truN, s_truI, s_truT, s_oB, s_itT, s_itR, s_inTI, s_inTS, s_isLst, r_in, r_inDi, r_inDs, inL_I, inL_S, r_ix, r_ixT, r_ixR, r_ixLi, r_ixDi, r_ixDs, r_len, r_list, r_tup, r_sort, r_tru, r_tyL, r_tyD, r_append, r_pop, r_extT, r_extR, r_it, rowD, q, s_forCons, s_forNil]
  simp [bodyM, sSeq, s_thenNx, s_thenRt, s_loopNx, s_loopRt, s_loopCt, s_loopBk, sAsg, sRet, sRetN, sDrop, sNil, sPar, sBrk, sCnt, eVar, eC, eOp, gmName, gmSub, eCallB, aCons, aNil, eB, eIf, eTru, mAnd, mOr, mNot, mYes, eMeth, eTup, eLst, eL, eDict0, eDict1, r_for1, forR_nat, r_forS, r_lc1, lcR_nat, r_lcS, n_non, n_bl, n_int, n_str, n_tup, n_rol, n_ref, b_non, b_bl, b_int, b_str, b_tup, b_rol, b_ref, eSetd, eItems, gmTup, gmCons, gmNil, dKey, eCall, eCallP, eDc, iSeq, wipeE, eUn, eIsi, eAnd, eOr, eNot, R.bind_ok, noX_ok, s_atI, s_atI0, s_atI1, s_atI2, s_atI3, s_atI4, s_atI5, s_add, s_sub, s_lt, s_le, s_gt, s_ge, s_isN, s_isB, s_eq_ii, s_eq_ss, s_eq_in, s_eq_ni, s_eq_nn, s_eq_sn, s_eq_ns, s_eq_bb, s_lenT, s_lenR, s_int, s_listT, s_listR, s_tupT, s_truB, s_truN, s_truI, s_truT, s_oB, s_itT, s_itR, s_inTI, s_inTS, s_isLst, r_in, r_inDi, r_inDs, inL_I, inL_S, r_ix, r_ixT, r_ixR, r_ixLi, r_ixDi, r_ixDs, r_len, r_list, r_tup, r_sort, r_tru, r_tyL, r_tyD, r_append, r_pop, r_extT, r_extR, r_it, dS_keys, sortL_T hl64, cal_of nd fm, map_T]
theorem cal_len {xs : List Str} : (cal xs).length ≤ xs.length := nodup_len (cal_nd xs) fun x hx => (cal_mem xs x).mp hx
theorem run_calls {c : Fn} (hl : c.2.length < 60) (h : AH) : runP mCallsOf [rowD c] h = .ok (.tup ((cal c.2).map T)) h := by
  obtain ⟨h', e⟩ := calls_run hl
  exact s_runP (by simp [purs, pur_row]) e (purs_map pur_T _)
end K04

namespace K04
open PySem L2 PM
abbrev nms (cs : List Fn) : List Str := cs.map (·.1)
structure OkC (cs : List Fn) : Prop where
  nd : (nms cs).Nodup
  len : cs.length ≤ 6
  cl : ∀ c ∈ cs, c.2.length ≤ 2
  sub : ∀ c ∈ cs, ∀ a ∈ c.2, a ∈ nms cs
/-! ### function_named -/
abbrev fnB : SM := eIf (eB (eOp (oEq false) (eOp oIx (eVar 2) (eC (.int 0))) (eVar 1))) (sRet (eVar 2)) (sNil)
theorem fn_for {A : D} {c : Fn} {h : AH} : ∀ (cs : List Fn) (x2 : Option D), c ∈ cs → (nms cs).Nodup → PM.forM (gmName 2) fnB (fun _ => true) (cs.map rowD) [some A, some (T c.1), x2] h = .ok (.rt (rowD c)) h
  | [], _, hc, _ => (nomatch hc)
  | d :: cs, x2, hc, nd => by
    rw [List.map_cons, s_forCons rfl]
    have nd' := List.nodup_cons.mp nd
    by_cases e : d.1 = c.1
    · have ed : d = c := by
        rcases List.mem_cons.mp hc with h | h
        · exact h.symm
        · exact absurd (List.mem_map.mpr ⟨c, h, e.symm⟩) nd'.1
      subst ed
      simp [bodyM, sSeq, s_thenNx, s_thenRt, s_loopNx, s_loopRt, s_loopCt, s_loopBk, sAsg, sRet, sRetN, sDrop, sNil, sPar, sBrk, sCnt, eVar, eC, eOp, gmName, gmSub, eCallB, aCons, aNil, eB, eIf, eTru, mAnd, mOr, mNot, mYes, eMeth, eTup, eLst, eL, eDict0, eDict1, r_for1, forR_nat, r_forS, r_lc1, lcR_nat, r_lcS, n_non, n_bl, n_int, n_str, n_tup, n_rol, n_ref, b_non, b_bl, b_int, b_str, b_tup, b_rol, b_ref, eSetd, eItems, gmTup, gmCons, gmNil, dKey, eCall, eCallP, eDc, iSeq, wipeE, eUn, eIsi, eAnd, eOr, eNot, R.bind_ok, noX_ok, s_atI, s_atI0, s_atI1, s_atI2, s_atI3, s_atI4, s_atI5, s_add, s_sub, s_lt, s_le, s_gt, s_ge, s_isN, s_isB, s_eq_ii, s_eq_ss, s_eq_in, s_eq_ni, s_eq_nn, s_eq_sn, s_eq_ns, s_eq_bb, s_lenT, s_lenR, s_int, s_listT, s_listR, s_tupT, s_truB, s_truN, s_truI, s_truT, s_oB, s_itT, s_itR, s_inTI, s_inTS, s_isLst, r_in, r_inDi, r_inDs, inL_I, inL_S, r_ix, r_ixT, r_ixR, r_ixLi, r_ixDi, r_ixDs, r_len, r_list, r_tup, r_sort, r_tru, r_tyL, r_tyD, r_append, r_pop, r_extT, r_extR, r_it, rowD, T]
    · have hc' : c ∈ cs := by
        rcases List.mem_cons.mp hc with h | h
        · subst h; exact absurd rfl e
        · exact h
      have ih := fn_for (A := A) (h := h) cs (some (rowD d)) hc' nd'.2
      have hb : fnB [some A, some (T c.1), some (rowD d)] h = .ok (.nx [some A, some (T c.1), some (rowD d)]) h := by
        simp [bodyM, sSeq, s_thenNx, s_thenRt, s_loopNx, s_loopRt, s_loopCt, s_loopBk, sAsg, sRet, sRetN, sDrop, sNil, sPar, sBrk, sCnt, eVar, eC, eOp, gmName, gmSub, eCallB, aCons, aNil, eB, eIf, eTru, mAnd, mOr, mNot, mYes, eMeth, eTup, eLst, eL, eDict0, eDict1, r_for1, forR_nat, r_forS, r_lc1, lcR_nat, r_lcS, n_non, n_bl, n_int, n_str, n_tup, n_rol, n_ref, b_non, b_bl, b_int, b_str, b_tup, b_rol, b_ref, eSetd, eItems, gmTup, gmCons, gmNil, dKey, eCall, eCallP, eDc, iSeq, wipeE, eUn, eIsi, eAnd, eOr, eNot, R.bind_ok, noX_ok, s_atI, s_atI0, s_atI1, s_atI2, s_atI3, s_atI4, s_atI5, s_add, s_sub, s_lt, s_le, s_gt, s_ge, s_isN, s_isB, s_eq_ii, s_eq_ss, s_eq_in, s_eq_ni, s_eq_nn, s_eq_sn, s_eq_ns, s_eq_bb, s_lenT, s_lenR, s_int, s_listT, s_listR, s_tupT, s_truB, s_truN, s_truI, s_truT, s_oB, s_itT, s_itR, s_inTI, s_inTS, s_isLst, r_in, r_inDi, r_inDs, inL_I, inL_S, r_ix, r_ixT, r_ixR, r_ixLi, r_ixDi, r_ixDs, r_len, r_list, r_tup, r_sort, r_tru, r_tyL, r_tyD, r_append, r_pop, r_extT, r_extR, r_it, rowD, T, e]
      rw [show gmName 2 (rowD d) [some A, some (T c.1), x2] h = .ok [some A, some (T c.1), some (rowD d)] h from rfl, R.bind_ok, hb, R.bind_ok, s_loopNx, ih]
theorem run_named {cs : List Fn} (nd : (nms cs).Nodup) {c : Fn} (hc : c ∈ cs) (h : AH) : runP mFunctionNamed [codeD cs, T c.1] h = .ok (rowD c) h := by
  have q := fn_for (A := codeD cs) (h := []) cs none hc nd
  have e : mFunctionNamed [codeD cs, T c.1] [] = .ok (rowD c) [] := by
    show bodyM 3 (sSeq (sFor (iSeq (eOp oIx (eVar 0) (eC (.int 2)))) (gmName 2) fnB) (sNo)) [codeD cs, T c.1] [] = _
    generalize fnB = Bd at q ⊢
    unfold codeD at q ⊢
    simp [bodyM, sSeq, s_thenNx, s_thenRt, s_loopNx, s_loopRt, s_loopCt, s_loopBk, sAsg, sRet, sRetN, sDrop, sNil, sPar, sBrk, sCnt, eVar, eC, eOp, gmName, gmSub, eCallB, aCons, aNil, eB, eIf, eTru, mAnd, mOr, mNot, mYes, eMeth, eTup, eLst, eL, eDict0, eDict1, r_for1, forR_nat, r_forS, r_lc1, lcR_nat, r_lcS, n_non, n_bl, n_int, n_str, n_tup, n_rol, n_ref, b_non, b_bl, b_int, b_str, b_tup, b_rol, b_ref, eSetd, eItems, gmTup, gmCons, gmNil, dKey, eCall, eCallP, eDc, iSeq, wipeE, eUn, eIsi, eAnd, eOr, eNot, R.bind_ok, noX_ok, s_atI, s_atI0, s_atI1, s_atI2, s_atI3, s_atI4, s_atI5, s_add, s_sub, s_lt, s_le, s_gt, s_ge, s_isN, s_isB, s_eq_ii, s_eq_ss, s_eq_in, s_eq_ni, s_eq_nn, s_eq_sn, s_eq_ns, s_eq_bb, s_lenT, s_lenR, s_int, s_listT, s_listR, s_tupT, s_truB, s_truN, s_truI, s_truT, s_oB, s_itT, s_itR, s_inTI, s_inTS, s_isLst, r_in, r_inDi, r_inDs, inL_I, inL_S, r_ix, r_ixT, r_ixR, r_ixLi, r_ixDi, r_ixDs, r_len, r_list, r_tup, r_sort, r_tru, r_tyL, r_tyD, r_append, r_pop, r_extT, r_extR, r_it, q]
  exact s_runP (by simp [purs, pur_code, pur_T]) e (pur_row c)
/-! ### lists by texts -/
theorem map_set {β : Type} {F G : Str → β} {a : Str} (R : List β) : ∀ {N : List Str}, N.Nodup → a ∈ N → (∀ n ∈ N, n ≠ a → F n = G n) → (N.map F ++ R).set (N.idxOf a) (G a) = N.map G ++ R
  | [], _, ha, _ => (nomatch ha)
  | m :: N, nd, ha, h => by
    have nd' := List.nodup_cons.mp nd
    by_cases e : m = a
    · subst e
      have : N.map F = N.map G := List.map_congr_left fun n hn => h n (List.mem_cons_of_mem _ hn) fun z => nd'.1 (by rw [← z]; exact hn)
      rw [List.idxOf_cons_self]
      simp [this]
    · have ha' : a ∈ N := (List.mem_cons.mp ha).resolve_left fun z => e z.symm
      have ih := map_set (F := F) (G := G) R nd'.2 ha' fun n hn => h n (List.mem_cons_of_mem _ hn)
      rw [List.idxOf_cons, show (m == a) = false by simp [e]]
      simp [h m (List.mem_cons_self) e, ih]
theorem map_get {β : Type} {F : Str → β} {a : Str} (R : List β) {N : List Str} (ha : a ∈ N) : (N.map F ++ R)[N.idxOf a]? = some (F a) := by
  have hlt := List.idxOf_lt_length_of_mem ha
  rw [List.getElem?_append_left (by simpa using hlt), List.getElem?_map, List.getElem?_eq_getElem hlt, List.getElem_idxOf hlt]
  rfl
theorem idxS {L : List Str} (nd : L.Nodup) {i : Nat} {x : Str} (h : L[i]? = some x) : L.idxOf x = i := by
  obtain ⟨hi, e⟩ := List.getElem?_eq_some_iff.mp h
  subst e
  exact nd.idxOf_getElem i hi
theorem notinS {L : List Str} (nd : L.Nodup) {i : Nat} {x : Str} (h : L[i]? = some x) : x ∉ L.take i := fun z => by
  obtain ⟨hi, e⟩ := List.getElem?_eq_some_iff.mp h
  obtain ⟨j, hj, e2⟩ := List.mem_iff_getElem.mp z
  rw [List.length_take] at hj
  rw [List.getElem_take] at e2
  have := (List.getElem_inj nd).mp (e2.trans e.symm)
  omega
/-! ### callers -/
/-- who of these calls n -/
def whoF (done : List Fn) (n : Str) : List Str := nms (done.filter fun c => decide (n ∈ c.2))
def selC (done : List Fn) (n : Str) : Ob := .lst ((whoF done n).map T)
def kvC (cs : List Fn) : List (Key × D) := dS (fun n => .ref ((nms cs).idxOf n)) (nms cs)
theorem who_app (done : List Fn) (c : Fn) (n : Str) : whoF (done ++ [c]) n = whoF done n ++ (if n ∈ c.2 then [c.1] else []) := by
  unfold whoF nms
  rw [List.filter_append, List.map_append]
  congr 1
  by_cases h : n ∈ c.2
  · rw [if_pos h, List.filter_cons_of_pos (by simp [h])]; rfl
  · rw [if_neg h, List.filter_cons_of_neg (by simp [h])]; rfl
theorem who_len (done : List Fn) (n : Str) : (whoF done n).length ≤ done.length := by
  unfold whoF nms
  rw [List.length_map]
  exact List.length_filter_le _ _
abbrev crIn : SM := sDrop (eMeth .l (eOp oIx (eVar 1) (eVar 3)) (aCons (eOp oIx (eVar 2) (eC (.int 0))) (aNil)) oAppend)
theorem crIn_run {cs : List Fn} (ok : OkC cs) {c : Fn} {a : Str} (ha : a ∈ nms cs) {F G : Str → Ob} {ys : List Str} (hF : F a = .lst (ys.map T)) (hG : G a = .lst ((ys ++ [c.1]).map T)) (h : ∀ n ∈ nms cs, n ≠ a → F n = G n) (hy : ys.length < 1000) {A : D} {gb : AH} :
    crIn [some A, some (.ref cs.length), some (rowD c), some (T a)] ((nms cs).map F ++ .dic false (kvC cs) :: gb) = .ok (.nx [some A, some (.ref cs.length), some (rowD c), some (T a)]) ((nms cs).map G ++ .dic false (kvC cs) :: gb) := by
  have hS := map_set (.dic false (kvC cs) :: gb) ok.nd ha h
  have hGt := map_get (F := F) (.dic false (kvC cs) :: gb) ha
  have hD : ((nms cs).map F ++ .dic false (kvC cs) :: gb)[cs.length]? = some (.dic false (kvC cs)) := by
    have : ((nms cs).map F).length = cs.length := by simp
    rw [← this]; exact get_at _ _ _
  rw [← hS]
  rw [hF] at hGt
  rw [hG]
  generalize ((nms cs).map F ++ Ob.dic false (kvC cs) :: gb) = hh at hD hGt ⊢
  have hkv : gtD (kvC cs) (.inr a) = some (.ref ((nms cs).idxOf a)) := by
    show gtD (dS _ _) (kS a) = _
    rw [gt_dS, if_pos ha]
  have hl : ys.length < 16777216 := by omega
  simp [bodyM, sSeq, s_thenNx, s_thenRt, s_loopNx, s_loopRt, s_loopCt, s_loopBk, sAsg, sRet, sRetN, sDrop, sNil, sPar, sBrk, sCnt, eVar, eC, eOp, gmName, gmSub, eCallB, aCons, aNil, eB, eIf, eTru, mAnd, mOr, mNot, mYes, eMeth, eTup, eLst, eL, eDict0, eDict1, r_for1, forR_nat, r_forS, r_lc1, lcR_nat, r_lcS, n_non, n_bl, n_int, n_str, n_tup, n_rol, n_ref, b_non, b_bl, b_int, b_str, b_tup, b_rol, b_ref, eSetd, eItems, gmTup, gmCons, gmNil, dKey, eCall, eCallP, eDc, iSeq, wipeE, eUn, eIsi, eAnd, eOr, eNot, R.bind_ok, noX_ok, s_atI, s_atI0, s_atI1, s_atI2, s_atI3, s_atI4, s_atI5, s_add, s_sub, s_lt, s_le, s_gt, s_ge, s_isN, s_isB, s_eq_ii, s_eq_ss, s_eq_in, s_eq_ni, s_eq_nn, s_eq_sn, s_eq_ns, s_eq_bb, s_lenT, s_lenR, s_int, s_listT, s_listR, s_tupT, s_truB, s_truN, s_truI, s_truT, s_oB, s_itT, s_itR, s_inTI, s_inTS, s_isLst, r_in, r_inDi, r_inDs, inL_I, inL_S, r_ix, r_ixT, r_ixR, r_ixLi, r_ixDi, r_ixDs, r_len, r_list, r_tup, r_sort, r_tru, r_tyL, r_tyD, r_append, r_pop, r_extT, r_extR, r_it, T, hD, hkv, hGt, rowD, szl, hl]
abbrev crMid : SM := sFor (iSeq (eCallP (aCons (eVar 2) (aNil)) mCallsOf)) (gmName 3) crIn
theorem crMid_run {cs : List Fn} (ok : OkC cs) {done : List Fn} (hd : done.length < 100) {c : Fn} (hc : c ∈ cs) {x3 : Option D} {A : D} {gb : AH} : ∃ x3', crMid [some A, some (.ref cs.length), some (rowD c), x3] ((nms cs).map (selC done) ++ .dic false (kvC cs) :: gb) = .ok (.nx [some A, some (.ref cs.length), some (rowD c), x3']) ((nms cs).map (selC (done ++ [c])) ++ .dic false (kvC cs) :: gb) := by
  have hc2 := ok.cl c hc
  obtain ⟨env', h', q, x3', e1, e2⟩ := for_run (xs := cal c.2) (F := T) (g := gmName 3) (b := crIn) (chk := fun _ => true)
    (fun i env h => ∃ x3, env = [some A, some (.ref cs.length), some (rowD c), x3] ∧ h = (nms cs).map (fun n => if n ∈ (cal c.2).take i then selC (done ++ [c]) n else selC done n) ++ .dic false (kvC cs) :: gb)
    (fun _ _ _ _ _ => rfl)
    (fun i a hi env h ⟨x3, e1, e2⟩ => by
      subst e1 e2
      have hac : a ∈ c.2 := (cal_mem c.2 a).mp (List.mem_of_getElem? hi)
      have hni := notinS (cal_nd c.2) hi
      refine ⟨_, _, _, _, rfl, crIn_run ok (ok.sub c hc a hac) (F := fun n => if n ∈ (cal c.2).take i then selC (done ++ [c]) n else selC done n) (G := fun n => if n ∈ (cal c.2).take (i + 1) then selC (done ++ [c]) n else selC done n) (ys := whoF done a) ?_ ?_ ?_ (by have := who_len done a; omega), some (T a), rfl, rfl⟩
      · show (if _ then _ else _) = _
        rw [if_neg hni]; rfl
      · show (if _ then _ else _) = _
        rw [if_pos (by rw [take_succ' hi]; simp)]
        unfold selC
        rw [who_app, if_pos hac]
      · intro n hn ne
        show (if _ then _ else _) = (if _ then _ else _)
        rw [take_succ' hi]
        by_cases z : n ∈ (cal c.2).take i
        · rw [if_pos z, if_pos (List.mem_append.mpr (.inl z))]
        · rw [if_neg z, if_neg (by simp [z, ne])])
    (env := [some A, some (.ref cs.length), some (rowD c), x3]) (h := (nms cs).map (selC done) ++ .dic false (kvC cs) :: gb) ⟨x3, rfl, by simp⟩
  subst e1 e2
  refine ⟨x3', ?_⟩
  have e3 : ((nms cs).map (fun n => if n ∈ (cal c.2).take (cal c.2).length then selC (done ++ [c]) n else selC done n)) = (nms cs).map (selC (done ++ [c])) := List.map_congr_left fun n hn => by
    rw [List.take_length]
    by_cases z : n ∈ c.2
    · rw [if_pos ((cal_mem _ _).mpr z)]
    · rw [if_neg (fun y => z ((cal_mem _ _).mp y))]
      unfold selC
      rw [who_app, if_neg z, List.append_nil]
  rw [e3] at q
  rw [← q]
  unfold crMid
  generalize crIn = Bd
  simp [bodyM, sSeq, s_thenNx, s_thenRt, s_loopNx, s_loopRt, s_loopCt, s_loopBk, sAsg, sRet, sRetN, sDrop, sNil, sPar, sBrk, sCnt, eVar, eC, eOp, gmName, gmSub, eCallB, aCons, aNil, eB, eIf, eTru, mAnd, mOr, mNot, mYes, eMeth, eTup, eLst, eL, eDict0, eDict1, r_for1, forR_nat, r_forS, r_lc1, lcR_nat, r_lcS, n_non, n_bl, n_int, n_str, n_tup, n_rol, n_ref, b_non, b_bl, b_int, b_str, b_tup, b_rol, b_ref, eSetd, eItems, gmTup, gmCons, gmNil, dKey, eCall, eCallP, eDc, iSeq, wipeE, eUn, eIsi, eAnd, eOr, eNot, R.bind_ok, noX_ok, s_atI, s_atI0, s_atI1, s_atI2, s_atI3, s_atI4, s_atI5, s_add, s_sub, s_lt, s_le, s_gt, s_ge, s_isN, s_isB, s_eq_ii, s_eq_ss, s_eq_in, s_eq_ni, s_eq_nn, s_eq_sn, s_eq_ns, s_eq_bb, s_lenT, s_lenR, s_int, s_listT, s_listR, s_tupT, s_truB, s_truN, s_truI, s_truT, s_oB, s_itT, s_itR, s_inTI, s_inTS, s_isLst, r_in, r_inDi, r_inDs, inL_I, inL_S, r_ix, r_ixT, r_ixR, r_ixLi, r_ixDi, r_ixDs, r_len, r_list, r_tup, r_sort, r_tru, r_tyL, r_tyD, r_append, r_pop, r_extT, r_extR, r_it, run_calls (c := c) (by omega)]
theorem crOut_run {cs : List Fn} (ok : OkC cs) {x2 x3 : Option D} {A : D} {gb : AH} : ∃ x2' x3', PM.forM (gmName 2) crMid (fun _ => true) (cs.map rowD) [some A, some (.ref cs.length), x2, x3] ((nms cs).map (selC []) ++ .dic false (kvC cs) :: gb) = .ok (.nx [some A, some (.ref cs.length), x2', x3']) ((nms cs).map (selC cs) ++ .dic false (kvC cs) :: gb) := by
  have hl := ok.len
  obtain ⟨env', h', q, x2', x3', e1, e2⟩ := for_run (xs := cs) (F := rowD) (g := gmName 2) (b := crMid) (chk := fun _ => true)
    (fun i env h => ∃ x2 x3, env = [some A, some (.ref cs.length), x2, x3] ∧ h = (nms cs).map (selC (cs.take i)) ++ .dic false (kvC cs) :: gb)
    (fun _ _ _ _ _ => rfl)
    (fun i c hi env h ⟨x2, x3, e1, e2⟩ => by
      subst e1 e2
      obtain ⟨x3', q⟩ := crMid_run ok (done := cs.take i) (by rw [List.length_take]; omega) (List.mem_of_getElem? hi) (x3 := x3) (A := A) (gb := gb)
      exact ⟨_, _, _, _, rfl, q, some (rowD c), x3', rfl, by rw [take_succ' hi]⟩)
    (env := [some A, some (.ref cs.length), x2, x3]) (h := (nms cs).map (selC []) ++ .dic false (kvC cs) :: gb) ⟨x2, x3, rfl, by simp⟩
  subst e1 e2
  rw [List.take_length] at q
  exact ⟨x2', x3', q⟩
theorem crNew {cs : List Fn} (ok : OkC cs) {A : D} : dcM [some A, none, none, none] (gmName 2) mYes (eOp oIx (eVar 2) (eC (.int 0))) (eLst aNil) (fun _ => true) (cs.map rowD) [] [] = .ok (kvC cs) ((nms cs).map (selC [])) := by
  have hl := ok.len
  obtain ⟨acc', h', q, e1, e2⟩ := dc_run (xs := cs) (F := rowD) (kf := fun c => kS c.1) (env0 := [some A, none, none, none]) (g := gmName 2) (ke := eOp oIx (eVar 2) (eC (.int 0))) (ve := eLst aNil) (chk := fun _ => true)
    (fun i acc h => acc = dS (fun n => .ref ((nms cs).idxOf n)) ((nms cs).take i) ∧ h = ((nms cs).take i).map (selC []))
    (fun i acc h ⟨e1, e2⟩ => ⟨rfl, by subst e1; rw [dS_len, List.length_take, szl]; simp only [nms, List.length_map]; omega⟩)
    (fun i c hi acc h ⟨e1, e2⟩ => by
      subst e1 e2
      have hi' : (nms cs)[i]? = some c.1 := by simp [nms, hi]
      have hlt := (List.getElem?_eq_some_iff.mp hi).1
      refine ⟨[some A, none, some (rowD c), none], _, _, ((nms cs).take i).map (selC []) ++ [.lst []], .ref i, rfl, (?_ : eOp oIx (eVar 2) (eC (.int 0)) [some A, none, some (rowD c), none] (((nms cs).take i).map (selC [])) = .ok (keyD (kS c.1)) (((nms cs).take i).map (selC []))), ?_, ?_, ?_⟩
      · simp [bodyM, sSeq, s_thenNx, s_thenRt, s_loopNx, s_loopRt, s_loopCt, s_loopBk, sAsg, sRet, sRetN, sDrop, sNil, sPar, sBrk, sCnt, eVar, eC, eOp, gmName, gmSub, eCallB, aCons, aNil, eB, eIf, eTru, mAnd, mOr, mNot, mYes, eMeth, eTup, eLst, eL, eDict0, eDict1, r_for1, forR_nat, r_forS, r_lc1, lcR_nat, r_lcS, n_non, n_bl, n_int, n_str, n_tup, n_rol, n_ref, b_non, b_bl, b_int, b_str, b_tup, b_rol, b_ref, eSetd, eItems, gmTup, gmCons, gmNil, dKey, eCall, eCallP, eDc, iSeq, wipeE, eUn, eIsi, eAnd, eOr, eNot, R.bind_ok, noX_ok, s_atI, s_atI0, s_atI1, s_atI2, s_atI3, s_atI4, s_atI5, s_add, s_sub, s_lt, s_le, s_gt, s_ge, s_isN, s_isB, s_eq_ii, s_eq_ss, s_eq_in, s_eq_ni, s_eq_nn, s_eq_sn, s_eq_ns, s_eq_bb, s_lenT, s_lenR, s_int, s_listT, s_listR, s_tupT, s_truB, s_truN, s_truI, s_truT, s_oB, s_itT, s_itR, s_inTI, s_inTS, s_isLst, r_in, r_inDi, r_inDs, inL_I, inL_S, r_ix, r_ixT, r_ixR, r_ixLi, r_ixDi, r_ixDs, r_len, r_list, r_tup, r_sort, r_tru, r_tyL, r_tyD, r_append, r_pop, r_extT, r_extR, r_it, rowD, keyD, kS]
      · simp [bodyM, sSeq, s_thenNx, s_thenRt, s_loopNx, s_loopRt, s_loopCt, s_loopBk, sAsg, sRet, sRetN, sDrop, sNil, sPar, sBrk, sCnt, eVar, eC, eOp, gmName, gmSub, eCallB, aCons, aNil, eB, eIf, eTru, mAnd, mOr, mNot, mYes, eMeth, eTup, eLst, eL, eDict0, eDict1, r_for1, forR_nat, r_forS, r_lc1, lcR_nat, r_lcS, n_non, n_bl, n_int, n_str, n_tup, n_rol, n_ref, b_non, b_bl, b_int, b_str, b_tup, b_rol, b_ref, eSetd, eItems, gmTup, gmCons, gmNil, dKey, eCall, eCallP, eDc, iSeq, wipeE, eUn, eIsi, eAnd, eOr, eNot, R.bind_ok, noX_ok, s_atI, s_atI0, s_atI1, s_atI2, s_atI3, s_atI4, s_atI5, s_add, s_sub, s_lt, s_le, s_gt, s_ge, s_isN, s_isB, s_eq_ii, s_eq_ss, s_eq_in, s_eq_ni, s_eq_nn, s_eq_sn, s_eq_ns, s_eq_bb, s_lenT, s_lenR, s_int, s_listT, s_listR, s_tupT, s_truB, s_truN, s_truI, s_truT, s_oB, s_itT, s_itR, s_inTI, s_inTS, s_isLst, r_in, r_inDi, r_inDs, inL_I, inL_S, r_ix, r_ixT, r_ixR, r_ixLi, r_ixDi, r_ixDs, r_len, r_list, r_tup, r_sort, r_tru, r_tyL, r_tyD, r_append, r_pop, r_extT, r_extR, r_it, szl]; omega
      · rw [take_succ' hi', ← pt_dS (notinS ok.nd hi'), idxS ok.nd hi']
      · rw [take_succ' hi', List.map_append]; rfl)
    (acc := []) (h := []) ⟨rfl, rfl⟩
  rw [q, e1, e2]
  have : (nms cs).take cs.length = nms cs := by rw [show cs.length = (nms cs).length by simp, List.take_length]
  rw [this]
  rfl
theorem crEnd {cs : List Fn} (ok : OkC cs) {A : D} {x2 : Option D} {gb : AH} : ∃ gb', dcM [some A, some (.ref cs.length), x2, none] (gmName 3) mYes (eVar 3) (eCallB (aCons (eCallB (aCons (eOp oIx (eVar 1) (eVar 3)) (aNil)) oSorted) (aNil)) oTuple) (fun _ => true) ((nms cs).map T) [] ((nms cs).map (selC cs) ++ .dic true (kvC cs) :: gb) =
    .ok (dS (fun n => .tup ((srtS (whoF cs n)).map T)) (nms cs)) ((nms cs).map (selC cs) ++ .dic true (kvC cs) :: gb') := by
  have hl := ok.len
  obtain ⟨acc', h', q, e1, gb', e2⟩ := dc_run (xs := nms cs) (F := T) (kf := kS) (env0 := [some A, some (.ref cs.length), x2, none]) (g := gmName 3) (ke := eVar 3) (ve := eCallB (aCons (eCallB (aCons (eOp oIx (eVar 1) (eVar 3)) (aNil)) oSorted) (aNil)) oTuple) (chk := fun _ => true)
    (fun i acc h => acc = dS (fun n => .tup ((srtS (whoF cs n)).map T)) ((nms cs).take i) ∧ ∃ gb', h = (nms cs).map (selC cs) ++ .dic true (kvC cs) :: gb')
    (fun i acc h ⟨e1, e2⟩ => ⟨rfl, by subst e1; rw [dS_len, List.length_take, szl]; simp only [nms, List.length_map]; omega⟩)
    (fun i a hi acc h ⟨e1, gb', e2⟩ => by
      subst e1 e2
      have ha : a ∈ nms cs := List.mem_of_getElem? hi
      have hGt := map_get (F := selC cs) (.dic true (kvC cs) :: gb') ha
      have hD : ((nms cs).map (selC cs) ++ .dic true (kvC cs) :: gb')[cs.length]? = some (.dic true (kvC cs)) := by
        have : ((nms cs).map (selC cs)).length = cs.length := by simp
        rw [← this]; exact get_at _ _ _
      have hkv : gtD (kvC cs) (.inr a) = some (.ref ((nms cs).idxOf a)) := by
        show gtD (dS _ _) (kS a) = _
        rw [gt_dS, if_pos ha]
      have hw : (whoF cs a).length < 64 := by have := who_len cs a; omega
      refine ⟨[some A, some (.ref cs.length), x2, some (T a)], _, _, ((nms cs).map (selC cs) ++ .dic true (kvC cs) :: gb') ++ [.lst ((srtS (whoF cs a)).map T)], .tup ((srtS (whoF cs a)).map T), rfl, rfl, ?_, ?_, gb' ++ [.lst ((srtS (whoF cs a)).map T)], ?_⟩
      · unfold selC at hGt hD ⊢
        generalize (List.map (fun n => Ob.lst (List.map T (whoF cs n))) (nms cs) ++ Ob.dic true (kvC cs) :: gb') = hh at hD hGt ⊢
        simp only [map_T] at hGt
        simp [bodyM, sSeq, s_thenNx, s_thenRt, s_loopNx, s_loopRt, s_loopCt, s_loopBk, sAsg, sRet, sRetN, sDrop, sNil, sPar, sBrk, sCnt, eVar, eC, eOp, gmName, gmSub, eCallB, aCons, aNil, eB, eIf, eTru, mAnd, mOr, mNot, mYes, eMeth, eTup, eLst, eL, eDict0, eDict1, r_for1, forR_nat, r_forS, r_lc1, lcR_nat, r_lcS, n_non, n_bl, n_int, n_str, n_tup, n_rol, n_ref, b_non, b_bl, b_int, b_str, b_tup, b_rol, b_ref, eSetd, eItems, gmTup, gmCons, gmNil, dKey, eCall, eCallP, eDc, iSeq, wipeE, eUn, eIsi, eAnd, eOr, eNot, R.bind_ok, noX_ok, s_atI, s_atI0, s_atI1, s_atI2, s_atI3, s_atI4, s_atI5, s_add, s_sub, s_lt, s_le, s_gt, s_ge, s_isN, s_isB, s_eq_ii, s_eq_ss, s_eq_in, s_eq_ni, s_eq_nn, s_eq_sn, s_eq_ns, s_eq_bb, s_lenT, s_lenR, s_int, s_listT, s_listR, s_tupT, s_truB, s_truN, s_truI, s_truT, s_oB, s_itT, s_itR, s_inTI, s_inTS, s_isLst, r_in, r_inDi, r_inDs, inL_I, inL_S, r_ix, r_ixT, r_ixR, r_ixLi, r_ixDi, r_ixDs, r_len, r_list, r_tup, r_sort, r_tru, r_tyL, r_tyD, r_append, r_pop, r_extT, r_extR, r_it, T, hD, hkv, hGt, sortL_T hw]
      · rw [take_succ' hi, ← pt_dS (notinS ok.nd hi)]
      · simp)
    (acc := []) (h := (nms cs).map (selC cs) ++ .dic true (kvC cs) :: gb) ⟨rfl, gb, rfl⟩
  refine ⟨gb', ?_⟩
  rw [q, e1, e2, List.take_length]
theorem callers_run {cs : List Fn} (ok : OkC cs) : ∃ h' r, mCallers [codeD cs] [] = .ok (.ref r) h' ∧ h'[r]? = some (.dic false (dS (fun n => .tup ((srtS (whoF cs n)).map T)) (nms cs))) := by
  obtain ⟨x2', x3', q⟩ := crOut_run ok (x2 := none) (x3 := none) (A := codeD cs) (gb := [])
  obtain ⟨gb', q2⟩ := crEnd ok (A := codeD cs) (x2 := x2') (gb := [])
  have q0 := crNew ok (A := codeD cs)
  have hk : ∀ p ∈ kvC cs, True := fun _ _ => trivial
  have hkeys : (kvC cs).map (fun p => keyD p.1) = (nms cs).map T := dS_keys _ _
  refine ⟨((nms cs).map (selC cs) ++ .dic false (kvC cs) :: gb') ++ [.dic false (dS (fun n => .tup ((srtS (whoF cs n)).map T)) (nms cs))], ((nms cs).map (selC cs) ++ .dic false (kvC cs) :: gb').length, ?_, by simp⟩
  show bodyM 4 (sSeq (sAsg (eDc (iSeq (eOp oIx (eVar 0) (eC (.int 2)))) [2] (gmName 2) (mYes) (eOp oIx (eVar 2) (eC (.int 0))) (eLst (aNil))) (gmName 1)) (sSeq (sFor (iSeq (eOp oIx (eVar 0) (eC (.int 2)))) (gmName 2) crMid) (sRet (eLock 1 (eDc (iSeq (eVar 1)) [3] (gmName 3) (mYes) (eVar 3) (eCallB (aCons (eCallB (aCons (eOp oIx (eVar 1) (eVar 3)) (aNil)) oSorted) (aNil)) oTuple)))))) [codeD cs] [] = _
  have hD : ∀ b gb, ((nms cs).map (selC cs) ++ .dic b (kvC cs) :: gb)[cs.length]? = some (.dic b (kvC cs)) := fun b gb => by
    have : ((nms cs).map (selC cs)).length = cs.length := by simp
    rw [← this]; exact get_at _ _ _
  have hS : ∀ b b' gb, ((nms cs).map (selC cs) ++ .dic b (kvC cs) :: gb).set cs.length (.dic b' (kvC cs)) = ((nms cs).map (selC cs) ++ .dic b' (kvC cs) :: gb) := fun b b' gb => by
    have : ((nms cs).map (selC cs)).length = cs.length := by simp
    conv => lhs; arg 2; rw [← this]
    exact set_at _ _ _ _
  have hix : ∀ h, oIx (codeD cs) (.int 2) h = .ok (.tup (cs.map rowD)) h := fun h => rfl
  have hNl : (nms cs).length = cs.length := by simp
  clear hk
  generalize crMid = Bd at q ⊢
  generalize nms cs = N at *
  simp [bodyM, sSeq, s_thenNx, s_thenRt, s_loopNx, s_loopRt, s_loopCt, s_loopBk, sAsg, sRet, sRetN, sDrop, sNil, sPar, sBrk, sCnt, eVar, eC, eOp, gmName, gmSub, eCallB, aCons, aNil, eB, eIf, eTru, mAnd, mOr, mNot, mYes, eMeth, eTup, eLst, eL, eDict0, eDict1, r_for1, forR_nat, r_forS, r_lc1, lcR_nat, r_lcS, n_non, n_bl, n_int, n_str, n_tup, n_rol, n_ref, b_non, b_bl, b_int, b_str, b_tup, b_rol, b_ref, eSetd, eItems, gmTup, gmCons, gmNil, dKey, eCall, eCallP, eDc, iSeq, wipeE, eUn, eIsi, eAnd, eOr, eNot, R.bind_ok, noX_ok, s_atI, s_atI0, s_atI1, s_atI2, s_atI3, s_atI4, s_atI5, s_add, s_sub, s_lt, s_le, s_gt, s_ge, s_isN, s_isB, s_eq_ii, s_eq_ss, s_eq_in, s_eq_ni, s_eq_nn, s_eq_sn, s_eq_ns, s_eq_bb, s_lenT, s_lenR, s_int, s_listT, s_listR, s_tupT, s_truB, s_truN, s_truI, s_truT, s_oB, s_itT, s_itR, s_inTI, s_inTS, s_isLst, r_in, r_inDi, r_inDs, inL_I, inL_S, r_ix, r_ixT, r_ixR, r_ixLi, r_ixDi, r_ixDs, r_len, r_list, r_tup, r_sort, r_tru, r_tyL, r_tyD, r_append, r_pop, r_extT, r_extR, r_it, hix, q0, hNl, q, eLock, unlk, hD, hS, hkeys, q2]
end K04

namespace K04
open PySem L2 PM
/-! ### calls_far -/
def clo (cs : List Fn) (a : Str) : List Str := match cs.find? fun c => decide (c.1 = a) with
  | some c => cal c.2
  | none => []
theorem fn_of {cs : List Fn} (nd : (nms cs).Nodup) {a : Str} (ha : a ∈ nms cs) : ∃ c ∈ cs, c.1 = a ∧ clo cs a = cal c.2 := by
  obtain ⟨c, hc, e⟩ := List.mem_map.mp ha
  cases hf : cs.find? fun c => decide (c.1 = a) with
  | none =>
    have := List.find?_eq_none.mp hf c hc
    simp [e] at this
  | some d =>
    have h1 := List.find?_some hf
    have h2 := List.mem_of_find?_eq_some hf
    exact ⟨d, h2, by simpa using h1, by unfold clo; rw [hf]⟩
theorem clo_of {cs : List Fn} (nd : (nms cs).Nodup) {c : Fn} (hc : c ∈ cs) : clo cs c.1 = cal c.2 := by
  obtain ⟨d, hd, e, q⟩ := fn_of nd (List.mem_map.mpr ⟨c, hc, rfl⟩)
  have : d = c := by
    obtain ⟨i, hi, e1⟩ := List.mem_iff_getElem.mp hd
    obtain ⟨j, hj, e2⟩ := List.mem_iff_getElem.mp hc
    have hi' : i < (nms cs).length := by simpa using hi
    have hj' : j < (nms cs).length := by simpa using hj
    have e3 : (nms cs)[i]'hi' = (nms cs)[j]'hj' := by simp only [nms, List.getElem_map, e1, e2, e]
    have := (List.getElem_inj nd).mp e3
    subst this
    exact e1.symm.trans e2
  rw [q, this]
theorem clo_sub {cs : List Fn} (ok : OkC cs) {a x : Str} (ha : a ∈ nms cs) (hx : x ∈ clo cs a) : x ∈ nms cs := by
  obtain ⟨c, hc, e, q⟩ := fn_of ok.nd ha
  rw [q] at hx
  exact ok.sub c hc x ((cal_mem _ _).mp hx)
theorem clo_len {cs : List Fn} (ok : OkC cs) {a : Str} (ha : a ∈ nms cs) : (clo cs a).length ≤ 2 := by
  obtain ⟨c, hc, e, q⟩ := fn_of ok.nd ha
  rw [q]
  exact Nat.le_trans cal_len (ok.cl c hc)
theorem clo_nd {cs : List Fn} (ok : OkC cs) {a : Str} (ha : a ∈ nms cs) : (clo cs a).Nodup := by
  obtain ⟨c, hc, e, q⟩ := fn_of ok.nd ha
  rw [q]
  exact cal_nd _
theorem run_clo {cs : List Fn} (ok : OkC cs) {a : Str} (ha : a ∈ nms cs) (h : AH) : ∃ c, runP mFunctionNamed [codeD cs, T a] h = .ok (rowD c) h ∧ ∀ h, runP mCallsOf [rowD c] h = .ok (.tup ((clo cs a).map T)) h := by
  obtain ⟨c, hc, e, q⟩ := fn_of ok.nd ha
  subst e
  have := ok.cl c hc
  exact ⟨c, run_named ok.nd hc h, fun h => by rw [q]; exact run_calls (by omega) h⟩
abbrev Far (cs : List Fn) (a : Str) : Str → Prop := Cl (fun x => x ∈ clo cs a) (clo cs)
abbrev fBody : SM := sSeq (sAsg (eMeth .l (eVar 3) aNil oPop) (gmName 4)) (eIf (eB (eOp (oIn true) (eVar 4) (eVar 2))) (sSeq (sAsg (eC (.bl true)) (gmSub (eVar 2) (eVar 4))) (sDrop (eMeth .l (eVar 3) (aCons (eCallP (aCons (eCallP (aCons (eVar 0) (aCons (eVar 4) (aNil))) mFunctionNamed) (aNil)) mCallsOf) (aNil)) oExtend))) (sNil))
theorem far_run {cs : List Fn} (ok : OkC cs) {a : Str} (ha : a ∈ nms cs) : ∃ f h', mCallsFar [codeD cs, T a] [] = .ok (.tup ((srtS f).map T)) h' ∧ f.Nodup ∧ (∀ x ∈ f, x ∈ nms cs) ∧ ∀ x, x ∈ f ↔ Far cs a x := by
  have hl := ok.len
  have hN : (nms cs).length = cs.length := by simp
  obtain ⟨f, env, h', e, st, nd, fu, fm⟩ := wl_run (n0 := 1000) (k := 2) (U := nms cs) (succ := clo cs) (S := fun x => x ∈ clo cs a) (t := eTru (eVar 3)) (b := fBody)
    (fun f td env h => ∃ x4 gb, env = [some (codeD cs), some (T a), some (.ref 0), some (.ref 1), x4] ∧ h = .dic false (dS mk f) :: .lst (td.map T) :: gb)
    (fun f td env h ⟨x4, gb, e1, e2⟩ => by subst e1 e2; simp [bodyM, sSeq, s_thenNx, s_thenRt, s_loopNx, s_loopRt, s_loopCt, s_loopBk, sAsg, sRet, sRetN, sDrop, sNil, sPar, sBrk, sCnt, eVar, eC, eOp, gmName, gmSub, eCallB, aCons, aNil, eB, eIf, eTru, mAnd, mOr, mNot, mYes, eMeth, eTup, eLst, eL, eDict0, eDict1, r_for1, forR_nat, r_forS, r_lc1, lcR_nat, r_lcS, n_non, n_bl, n_int, n_str, n_tup, n_rol, n_ref, b_non, b_bl, b_int, b_str, b_tup, b_rol, b_ref, eSetd, eItems, gmTup, gmCons, gmNil, dKey, eCall, eCallP, eDc, iSeq, wipeE, eUn, eIsi, eAnd, eOr, eNot, R.bind_ok, noX_ok, s_atI, s_atI0, s_atI1, s_atI2, s_atI3, s_atI4, s_atI5, s_add, s_sub, s_lt, s_le, s_gt, s_ge, s_isN, s_isB, s_eq_ii, s_eq_ss, s_eq_in, s_eq_ni, s_eq_nn, s_eq_sn, s_eq_ns, s_eq_bb, s_lenT, s_lenR, s_int, s_listT, s_listR, s_tupT, s_truB, s_truN, s_truI, s_truT, s_oB, s_itT, s_itR, s_inTI, s_inTS, s_isLst, r_in, r_inDi, r_inDs, inL_I, inL_S, r_ix, r_ixT, r_ixR, r_ixLi, r_ixDi, r_ixDs, r_len, r_list, r_tup, r_sort, r_tru, r_tyL, r_tyD, r_append, r_pop, r_extT, r_extR, r_it])
    (fun f td x env h ⟨x4, gb, e1, e2⟩ nd fu xu ht => by
      subst e1 e2
      have hfl : f.length ≤ cs.length := by have := nodup_len nd fu; omega
      have h1 : f.length < 16777216 := by omega
      by_cases hx : x ∈ f
      · refine ⟨_, _, ?_, by rw [if_pos hx]; exact ⟨some (T x), gb, rfl, rfl⟩⟩
        simp [bodyM, sSeq, s_thenNx, s_thenRt, s_loopNx, s_loopRt, s_loopCt, s_loopBk, sAsg, sRet, sRetN, sDrop, sNil, sPar, sBrk, sCnt, eVar, eC, eOp, gmName, gmSub, eCallB, aCons, aNil, eB, eIf, eTru, mAnd, mOr, mNot, mYes, eMeth, eTup, eLst, eL, eDict0, eDict1, r_for1, forR_nat, r_forS, r_lc1, lcR_nat, r_lcS, n_non, n_bl, n_int, n_str, n_tup, n_rol, n_ref, b_non, b_bl, b_int, b_str, b_tup, b_rol, b_ref, eSetd, eItems, gmTup, gmCons, gmNil, dKey, eCall, eCallP, eDc, iSeq, wipeE, eUn, eIsi, eAnd, eOr, eNot, R.bind_ok, noX_ok, s_atI, s_atI0, s_atI1, s_atI2, s_atI3, s_atI4, s_atI5, s_add, s_sub, s_lt, s_le, s_gt, s_ge, s_isN, s_isB, s_eq_ii, s_eq_ss, s_eq_in, s_eq_ni, s_eq_nn, s_eq_sn, s_eq_ns, s_eq_bb, s_lenT, s_lenR, s_int, s_listT, s_listR, s_tupT, s_truB, s_truN, s_truI, s_truT, s_oB, s_itT, s_itR, s_inTI, s_inTS, s_isLst, r_in, r_inDi, r_inDs, inL_I, inL_S, r_ix, r_ixT, r_ixR, r_ixLi, r_ixDi, r_ixDs, r_len, r_list, r_tup, r_sort, r_tru, r_tyL, r_tyD, r_append, r_pop, r_extT, r_extR, r_it, T, gt_mk, hx]
      · have hw := clo_len ok xu
        obtain ⟨c, q1, q2⟩ := run_clo ok xu (.dic false (dS mk (f ++ [x])) :: .lst (td.map T) :: gb)
        have h2 : td.length + (clo cs x).length ≤ 16777216 := by omega
        have ea : addS f x = f ++ [x] := if_neg hx
        refine ⟨[some (codeD cs), some (T a), some (.ref 0), some (.ref 1), some (T x)], .dic false (dS mk (f ++ [x])) :: .lst ((td ++ clo cs x).map T) :: gb, ?_, by rw [if_neg hx]; exact ⟨some (T x), gb, rfl, rfl⟩⟩
        simp only [T] at q1
        simp [bodyM, sSeq, s_thenNx, s_thenRt, s_loopNx, s_loopRt, s_loopCt, s_loopBk, sAsg, sRet, sRetN, sDrop, sNil, sPar, sBrk, sCnt, eVar, eC, eOp, gmName, gmSub, eCallB, aCons, aNil, eB, eIf, eTru, mAnd, mOr, mNot, mYes, eMeth, eTup, eLst, eL, eDict0, eDict1, r_for1, forR_nat, r_forS, r_lc1, lcR_nat, r_lcS, n_non, n_bl, n_int, n_str, n_tup, n_rol, n_ref, b_non, b_bl, b_int, b_str, b_tup, b_rol, b_ref, eSetd, eItems, gmTup, gmCons, gmNil, dKey, eCall, eCallP, eDc, iSeq, wipeE, eUn, eIsi, eAnd, eOr, eNot, R.bind_ok, noX_ok, s_atI, s_atI0, s_atI1, s_atI2, s_atI3, s_atI4, s_atI5, s_add, s_sub, s_lt, s_le, s_gt, s_ge, s_isN, s_isB, s_eq_ii, s_eq_ss, s_eq_in, s_eq_ni, s_eq_nn, s_eq_sn, s_eq_ns, s_eq_bb, s_lenT, s_lenR, s_int, s_listT, s_listR, s_tupT, s_truB, s_truN, s_truI, s_truT, s_oB, s_itT, s_itR, s_inTI, s_inTS, s_isLst, r_in, r_inDi, r_inDs, inL_I, inL_S, r_ix, r_ixT, r_ixR, r_ixLi, r_ixDi, r_ixDs, r_len, r_list, r_tup, r_sort, r_tru, r_tyL, r_tyD, r_append, r_pop, r_extT, r_extR, r_it, T, gt_mk, hx, dS_len, h1, szl, pt_mk, ea, q1, q2, h2])
    (fun x hx y hy => clo_sub ok hx hy) (fun x hx => clo_len ok hx) 1000 [] (clo cs a) [some (codeD cs), some (T a), some (.ref 0), some (.ref 1), none] [.dic false (dS mk []), .lst ((clo cs a).map T)] (Nat.le_refl _) ⟨none, [], rfl, rfl⟩ (by simp) (by simp) (fun x hx => clo_sub ok ha hx) (by simp) (fun x hx => .inr hx) (by simp) (fun x hx => .base hx) (by have := clo_len ok ha; simp; omega)
  obtain ⟨x4, gb, rfl, rfl⟩ := st
  have hl64 : f.length < 64 := by have := nodup_len nd fu; omega
  obtain ⟨c, q1, q2⟩ := run_clo ok ha [.dic false []]
  refine ⟨f, .dic false (dS mk f) :: .lst [] :: (gb ++ [.lst ((srtS f).map T)]), ?_, nd, fu, fm⟩
  show bodyM 5 (sSeq (sPar 2 3 (aCons (eDict0) (aCons (eCallB (aCons (eCallP (aCons (eCallP (aCons (eVar 0) (aCons (eVar 1) (aNil))) mFunctionNamed) (aNil)) mCallsOf) (aNil)) oList) (aNil)))) (sSeq (whileM (eTru (eVar 3)) fBody 1000) (sRet (eCallB (aCons (eCallB (aCons (eVar 2) (aNil)) oSorted) (aNil)) oTuple)))) [codeD cs, T a] [] = _
  simp only [show dS mk [] = [] from rfl] at e
  generalize fBody = Bd at e ⊢
  have hk : (dS mk f).map (fun p => keyD p.1) = f.map T := dS_keys _ _
  have hs : ∀ b h, sortL b (f.map T) h = .ok (.ref h.length) (h ++ [.lst ((srtS f).map T)]) := fun b h => sortL_T hl64
  simp [bodyM, sSeq, s_thenNx, s_thenRt, s_loopNx, s_loopRt, s_loopCt, s_loopBk, sAsg, sRet, sRetN, sDrop, sNil, sPar, sBrk, sCnt, eVar, eC, eOp, gmName, gmSub, eCallB, aCons, aNil, eB, eIf, eTru, mAnd, mOr, mNot, mYes, eMeth, eTup, eLst, eL, eDict0, eDict1, r_for1, forR_nat, r_forS, r_lc1, lcR_nat, r_lcS, n_non, n_bl, n_int, n_str, n_tup, n_rol, n_ref, b_non, b_bl, b_int, b_str, b_tup, b_rol, b_ref, eSetd, eItems, gmTup, gmCons, gmNil, dKey, eCall, eCallP, eDc, iSeq, wipeE, eUn, eIsi, eAnd, eOr, eNot, R.bind_ok, noX_ok, s_atI, s_atI0, s_atI1, s_atI2, s_atI3, s_atI4, s_atI5, s_add, s_sub, s_lt, s_le, s_gt, s_ge, s_isN, s_isB, s_eq_ii, s_eq_ss, s_eq_in, s_eq_ni, s_eq_nn, s_eq_sn, s_eq_ns, s_eq_bb, s_lenT, s_lenR, s_int, s_listT, s_listR, s_tupT, s_truB, s_truN, s_truI, s_truT, s_oB, s_itT, s_itR, s_inTI, s_inTS, s_isLst, r_in, r_inDi, r_inDs, inL_I, inL_S, r_ix, r_ixT, r_ixR, r_ixLi, r_ixDi, r_ixDs, r_len, r_list, r_tup, r_sort, r_tru, r_tyL, r_tyD, r_append, r_pop, r_extT, r_extR, r_it, q1, q2, e, hk, hs]
/-! ### _law_far -/
theorem inL_T {h : AH} {neg : Bool} {a : Str} {ns : List Str} : inL neg (.str a) (ns.map T) h = .ok (.bl (neg != decide (a ∈ ns))) h := inL_S
theorem s_sortset {h : AH} {r : Nat} {f : List Str} (hr : h[r]? = some (.lst (f.map T))) (hl : f.length < 64) : oSortSet (.ref r) h = .ok (.ref h.length) (h ++ [.lst ((cal f).map T)]) := by
  have e : lstOf (.ref r) h = some (true, f.map .str) := by unfold lstOf; simp only [hr]; rfl
  unfold oSortSet
  simp only [e, allS_map, if_pos hl]
  rfl
def addF (cs : List Fn) (f : List Str) (z : Str) : List Str := f ++ (clo cs z).filter fun x => decide (x ∉ f)
def passF (cs : List Fn) (f : List Str) : List Str := f.foldl (addF cs) f
def itF (cs : List Fn) (a : Str) : Nat → List Str
  | 0 => clo cs a
  | n + 1 => passF cs (itF cs a n)
def OkS (cs : List Fn) (f : List Str) : Prop := f.Nodup ∧ ∀ x ∈ f, x ∈ nms cs
theorem OkS.len {cs : List Fn} {f : List Str} (h : OkS cs f) : f.length ≤ cs.length := by
  have := nodup_len h.1 h.2
  simpa using this
theorem addF_mem (cs : List Fn) (f : List Str) (z x : Str) : x ∈ addF cs f z ↔ x ∈ f ∨ x ∈ clo cs z := by
  unfold addF
  rw [List.mem_append, List.mem_filter, decide_eq_true_eq]
  constructor
  · rintro (h | h)
    · exact .inl h
    · exact .inr h.1
  · intro h
    by_cases q : x ∈ f
    · exact .inl q
    · exact .inr ⟨h.resolve_left q, q⟩
theorem addF_ok {cs : List Fn} (ok : OkC cs) {f : List Str} {z : Str} (h : OkS cs f) (hz : z ∈ nms cs) : OkS cs (addF cs f z) :=
  ⟨List.nodup_append.mpr ⟨h.1, (clo_nd ok hz).filter _, fun x hx y hy e => by
    have := (List.mem_filter.mp hy).2
    rw [decide_eq_true_eq] at this
    exact this (by rw [← e]; exact hx)⟩, fun x hx => ((addF_mem cs f z x).mp hx).elim (h.2 x) (clo_sub ok hz)⟩
theorem passF_ok {cs : List Fn} (ok : OkC cs) {f : List Str} (h : OkS cs f) : OkS cs (passF cs f) :=
  fold_inv (OkS cs) (fun z hz s hs => addF_ok ok hs (h.2 z hz)) h
theorem passF_mem (cs : List Fn) (f : List Str) (x : Str) : x ∈ passF cs f ↔ x ∈ f ∨ ∃ z ∈ f, x ∈ clo cs z := by
  unfold passF
  rw [fold_mem (N := fun z x => x ∈ clo cs z) (fun z _ s x => addF_mem cs s z x)]
theorem itF_ok {cs : List Fn} (ok : OkC cs) {a : Str} (ha : a ∈ nms cs) : ∀ n, OkS cs (itF cs a n)
  | 0 => ⟨clo_nd ok ha, fun x hx => clo_sub ok ha hx⟩
  | n + 1 => passF_ok ok (itF_ok ok ha n)
theorem itF_set {cs : List Fn} (ok : OkC cs) {a : Str} (ha : a ∈ nms cs) : (itF cs a cs.length).Nodup ∧ (∀ x ∈ itF cs a cs.length, x ∈ nms cs) ∧ ∀ x, x ∈ itF cs a cs.length ↔ Far cs a x :=
  passes (U := nms cs) (S := fun x => x ∈ clo cs a) (succ := clo cs) (itF cs a) (fun i nd fu fc => by
      have hf : OkS cs (itF cs a i) := itF_ok ok ha i
      refine ⟨(passF_ok ok hf).1, (passF_ok ok hf).2, fun y hy => ?_, fun y hy => (passF_mem cs _ y).mpr (.inl hy), fun x hx y hy => (passF_mem cs _ y).mpr (.inr ⟨x, hx, hy⟩)⟩
      rcases (passF_mem cs _ y).mp hy with q | ⟨z, hz, q⟩
      · exact fc y q
      · exact .step (fc z hz) q)
    (itF_ok ok ha 0).1 (itF_ok ok ha 0).2 (fun y hy => .base hy) (fun x hx => hx) (n := cs.length) (by simp)
def farL (cs : List Fn) (a : Str) : List Str := cal (itF cs a cs.length)
theorem far_eq {cs : List Fn} (ok : OkC cs) {a : Str} (ha : a ∈ nms cs) {f : List Str} (nd : f.Nodup) (fm : ∀ x, x ∈ f ↔ Far cs a x) : srtS f = farL cs a := by
  obtain ⟨z1, _, z3⟩ := itF_set ok ha
  exact cal_of nd fun x => (fm x).trans (z3 x).symm
theorem run_far {cs : List Fn} (ok : OkC cs) {a : Str} (ha : a ∈ nms cs) (h : AH) : runP mCallsFar [codeD cs, T a] h = .ok (.tup ((farL cs a).map T)) h := by
  obtain ⟨f, h', e, nd, _, fm⟩ := far_run ok ha
  rw [far_eq ok ha nd fm] at e
  exact s_runP (by simp [purs, pur_code, pur_T]) e (purs_map pur_T _)
/-- the table stands in the heap -/
structure HT (cs : List Fn) (t : Nat) (rf : Str → Nat) (h : AH) : Prop where
  tab : h[t]? = some (.dic false (dS (fun n => .ref (rf n)) (nms cs)))
  at_ : ∀ a ∈ nms cs, h[rf a]? = some (.lst ((clo cs a).map T))
theorem HT.app {cs : List Fn} {t : Nat} {rf : Str → Nat} {h : AH} (H : HT cs t rf h) (g : AH) : HT cs t rf (h ++ g) :=
  ⟨get_app H.tab, fun a ha => get_app (H.at_ a ha)⟩
theorem HT.ix {cs : List Fn} {t : Nat} {rf : Str → Nat} {h : AH} (H : HT cs t rf h) {a : Str} (ha : a ∈ nms cs) : oIx (.ref t) (T a) h = .ok (.ref (rf a)) h := by
  refine s_ixD H.tab (k := kS a) rfl ?_
  rw [gt_dS, if_pos ha]
theorem HT.ixd {cs : List Fn} {rf : Str → Nat} {a : Str} (ha : a ∈ nms cs) (h : AH) : ixDc (dS (fun n => .ref (rf n)) (nms cs)) (T a) h = .ok (.ref (rf a)) h := by
  show ixDc _ (.str a) h = _
  rw [r_ixDs, show (Sum.inr a : Key) = kS a from rfl, gt_dS, if_pos ha]
abbrev gAsg : SM := sAsg (eOp oAdd (eVar 2) (eL (lComp (iSeq (eOp oIx (eVar 0) (eVar 4))) [5] (gmName 5) (eB (eOp (oIn true) (eVar 5) (eVar 2))) (eVar 5)))) (gmName 2)
theorem gAsg_run {cs : List Fn} (ok : OkC cs) {t r : Nat} {rf : Str → Nat} {hh : AH} (H : HT cs t rf hh) {f : List Str} (hf : OkS cs f) (hr : hh[r]? = some (.lst (f.map T))) {z : Str} (hz : z ∈ nms cs) {A : D} {x3 x5 : Option D} :
    gAsg [some (.ref t), some A, some (.ref r), x3, some (T z), x5] hh = .ok (.nx [some (.ref t), some A, some (.ref (hh.length + 1)), x3, some (T z), x5]) (hh ++ [.lst (((clo cs z).filter fun x => decide (x ∉ f)).map T), .lst ((addF cs f z).map T)]) := by
  have hl := ok.len
  have hfl := hf.len
  have hcl := clo_len ok hz
  have q := lc_pure (xs := clo cs z) (F := T) (G := T) (p := fun x => decide (x ∉ f)) (env0 := [some (.ref t), some A, some (.ref r), x3, some (T z), none]) (g := gmName 5) (t := eB (eOp (oIn true) (eVar 5) (eVar 2))) (e := eVar 5)
    (chk := fun h' => isLst ((clo cs z).map T) h'[rf z]?) (h := hh) (fun y => [some (.ref t), some A, some (.ref r), x3, some (T z), some (T y)])
    (by rw [H.at_ z hz]; exact s_isLst) (fun y _ => by simp [gmName]) (fun y _ => by
      simp [bodyM, sSeq, s_thenNx, s_thenRt, s_loopNx, s_loopRt, s_loopCt, s_loopBk, sAsg, sRet, sRetN, sDrop, sNil, sPar, sBrk, sCnt, eVar, eC, eOp, gmName, gmSub, eCallB, aCons, aNil, eB, eIf, eTru, mAnd, mOr, mNot, mYes, eMeth, eTup, eLst, eL, eDict0, eDict1, r_for1, forR_nat, r_forS, r_lc1, lcR_nat, r_lcS, n_non, n_bl, n_int, n_str, n_tup, n_rol, n_ref, b_non, b_bl, b_int, b_str, b_tup, b_rol, b_ref, eSetd, eItems, gmTup, gmCons, gmNil, dKey, eCall, eCallP, eDc, iSeq, wipeE, eUn, eIsi, eAnd, eOr, eNot, R.bind_ok, noX_ok, s_atI, s_atI0, s_atI1, s_atI2, s_atI3, s_atI4, s_atI5, s_add, s_sub, s_lt, s_le, s_gt, s_ge, s_isN, s_isB, s_eq_ii, s_eq_ss, s_eq_in, s_eq_ni, s_eq_nn, s_eq_sn, s_eq_ns, s_eq_bb, s_lenT, s_lenR, s_int, s_listT, s_listR, s_tupT, s_truB, s_truN, s_truI, s_truT, s_oB, s_itT, s_itR, s_inTI, s_inTS, s_isLst, r_in, r_inDi, r_inDs, inL_I, inL_S, r_ix, r_ixT, r_ixR, r_ixLi, r_ixDi, r_ixDs, r_len, r_list, r_tup, r_sort, r_tru, r_tyL, r_tyD, r_append, r_pop, r_extT, r_extR, r_it, T, hr, inL_T]) (fun y _ _ => by simp [bodyM, sSeq, s_thenNx, s_thenRt, s_loopNx, s_loopRt, s_loopCt, s_loopBk, sAsg, sRet, sRetN, sDrop, sNil, sPar, sBrk, sCnt, eVar, eC, eOp, gmName, gmSub, eCallB, aCons, aNil, eB, eIf, eTru, mAnd, mOr, mNot, mYes, eMeth, eTup, eLst, eL, eDict0, eDict1, r_for1, forR_nat, r_forS, r_lc1, lcR_nat, r_lcS, n_non, n_bl, n_int, n_str, n_tup, n_rol, n_ref, b_non, b_bl, b_int, b_str, b_tup, b_rol, b_ref, eSetd, eItems, gmTup, gmCons, gmNil, dKey, eCall, eCallP, eDc, iSeq, wipeE, eUn, eIsi, eAnd, eOr, eNot, R.bind_ok, noX_ok, s_atI, s_atI0, s_atI1, s_atI2, s_atI3, s_atI4, s_atI5, s_add, s_sub, s_lt, s_le, s_gt, s_ge, s_isN, s_isB, s_eq_ii, s_eq_ss, s_eq_in, s_eq_ni, s_eq_nn, s_eq_sn, s_eq_ns, s_eq_bb, s_lenT, s_lenR, s_int, s_listT, s_listR, s_tupT, s_truB, s_truN, s_truI, s_truT, s_oB, s_itT, s_itR, s_inTI, s_inTS, s_isLst, r_in, r_inDi, r_inDs, inL_I, inL_S, r_ix, r_ixT, r_ixR, r_ixLi, r_ixDi, r_ixDs, r_len, r_list, r_tup, r_sort, r_tru, r_tyL, r_tyD, r_append, r_pop, r_extT, r_extR, r_it]) (by omega)
  have hix := H.ix hz
  have hz2 := H.at_ z hz
  have hr2 : ∀ o, (hh ++ [o])[r]? = some (.lst (f.map T)) := fun o => get_app hr
  have hfl2 : ((clo cs z).filter fun x => decide (x ∉ f)).length ≤ 2 := Nat.le_trans (List.length_filter_le _ _) hcl
  unfold addF
  generalize ((clo cs z).filter fun x => decide (x ∉ f)) = ys at q hfl2 ⊢
  have hadd : oAdd (.ref r) (.ref hh.length) (hh ++ [Ob.lst (ys.map T)]) = .ok (.ref (hh.length + 1)) (hh ++ [.lst (ys.map T), .lst ((f ++ ys).map T)]) := by
    rw [s_addL (xs := f.map T) (ys := ys.map T) (hr2 _) (by simp) (by simp only [List.length_map]; rw [szl]; omega)]
    simp
  simp [bodyM, sSeq, s_thenNx, s_thenRt, s_loopNx, s_loopRt, s_loopCt, s_loopBk, sAsg, sRet, sRetN, sDrop, sNil, sPar, sBrk, sCnt, eVar, eC, eOp, gmName, gmSub, eCallB, aCons, aNil, eB, eIf, eTru, mAnd, mOr, mNot, mYes, eMeth, eTup, eLst, eL, eDict0, eDict1, r_for1, forR_nat, r_forS, r_lc1, lcR_nat, r_lcS, n_non, n_bl, n_int, n_str, n_tup, n_rol, n_ref, b_non, b_bl, b_int, b_str, b_tup, b_rol, b_ref, eSetd, eItems, gmTup, gmCons, gmNil, dKey, eCall, eCallP, eDc, iSeq, wipeE, eUn, eIsi, eAnd, eOr, eNot, R.bind_ok, noX_ok, s_atI, s_atI0, s_atI1, s_atI2, s_atI3, s_atI4, s_atI5, s_add, s_sub, s_lt, s_le, s_gt, s_ge, s_isN, s_isB, s_eq_ii, s_eq_ss, s_eq_in, s_eq_ni, s_eq_nn, s_eq_sn, s_eq_ns, s_eq_bb, s_lenT, s_lenR, s_int, s_listT, s_listR, s_tupT, s_truB, s_truN, s_truI, s_truT, s_oB, s_itT, s_itR, s_inTI, s_inTS, s_isLst, r_in, r_inDi, r_inDs, inL_I, inL_S, r_ix, r_ixT, r_ixR, r_ixLi, r_ixDi, r_ixDs, r_len, r_list, r_tup, r_sort, r_tru, r_tyL, r_tyD, r_append, r_pop, r_extT, r_extR, r_it, H.tab, HT.ixd (rf := rf) hz, hz2]
  rw [q]
  simp only [R.bind_ok, hadd]
  simp
abbrev gMid : SM := sFor (iSeq (eCallB (aCons (eVar 2) (aNil)) oList)) (gmName 4) gAsg
theorem gMid_run {cs : List Fn} (ok : OkC cs) {t r : Nat} {rf : Str → Nat} {h gb : AH} (H : HT cs t rf h) {f : List Str} (hf : OkS cs f) (hr : (h ++ gb)[r]? = some (.lst (f.map T))) {A : D} {x3 x4 x5 : Option D} :
    ∃ r' gb' x4' x5', gMid [some (.ref t), some A, some (.ref r), x3, x4, x5] (h ++ gb) = .ok (.nx [some (.ref t), some A, some (.ref r'), x3, x4', x5']) (h ++ gb') ∧ (h ++ gb')[r']? = some (.lst ((passF cs f).map T)) := by
  obtain ⟨env', h', q, _, r', gb', x4', x5', e1, e2, e3⟩ := for_fold (F := T) (g := gmName 4) (b := gAsg) (chk := fun h' => isLst (f.map T) h'[h.length + gb.length]?) (addF cs)
    (fun f2 env h' => OkS cs f2 ∧ ∃ r gb2 x4 x5, env = [some (.ref t), some A, some (.ref r), x3, x4, x5] ∧ h' = h ++ (gb ++ Ob.lst (f.map T) :: gb2) ∧ (h ++ (gb ++ Ob.lst (f.map T) :: gb2))[r]? = some (.lst (f2.map T)))
    (fun f2 env h' ⟨_, r, gb2, x4, x5, _, e2, _⟩ => by
      subst e2
      have : (h ++ (gb ++ Ob.lst (f.map T) :: gb2))[h.length + gb.length]? = some (.lst (f.map T)) := by
        rw [← List.append_assoc, ← List.length_append]; exact get_at _ _ _
      show isLst (f.map T) (h ++ (gb ++ Ob.lst (f.map T) :: gb2))[h.length + gb.length]? = true
      rw [this]; exact s_isLst) f
    (fun z hz f2 env h' ⟨hf2, r, gb2, x4, x5, e1, e2, e3⟩ => by
      subst e1 e2
      have q := gAsg_run ok (H.app (gb ++ Ob.lst (f.map T) :: gb2)) hf2 e3 (hf.2 z hz) (A := A) (x3 := x3) (x5 := x5)
      refine ⟨_, _, _, _, rfl, q, addF_ok ok hf2 (hf.2 z hz), _, gb2 ++ [.lst (((clo cs z).filter fun x => decide (x ∉ f2)).map T), .lst ((addF cs f2 z).map T)], some (T z), x5, rfl, by simp, ?_⟩
      have e4 : (h ++ (gb ++ Ob.lst (f.map T) :: (gb2 ++ [Ob.lst (((clo cs z).filter fun x => decide (x ∉ f2)).map T), Ob.lst ((addF cs f2 z).map T)]))) = (h ++ (gb ++ Ob.lst (f.map T) :: gb2) ++ [Ob.lst (((clo cs z).filter fun x => decide (x ∉ f2)).map T)]) ++ [Ob.lst ((addF cs f2 z).map T)] := by simp
      rw [e4]
      have e5 : (h ++ (gb ++ Ob.lst (f.map T) :: gb2)).length + 1 = (h ++ (gb ++ Ob.lst (f.map T) :: gb2) ++ [Ob.lst (((clo cs z).filter fun x => decide (x ∉ f2)).map T)]).length := by simp; omega
      rw [e5]
      exact get_at _ _ [])
    f [some (.ref t), some A, some (.ref r), x3, x4, x5] (h ++ (gb ++ [Ob.lst (f.map T)])) ⟨hf, r, [], x4, x5, rfl, rfl, by rw [← List.append_assoc]; exact get_app hr⟩
  subst e1 e2
  refine ⟨r', gb ++ Ob.lst (f.map T) :: gb', x4', x5', ?_, e3⟩
  rw [← q]
  unfold gMid
  generalize gAsg = Bd
  simp only [← List.append_assoc] at hr ⊢
  generalize hh2 : h ++ gb = hh at hr ⊢
  have hlen : h.length + gb.length = hh.length := by rw [← hh2]; simp
  rw [hlen]
  simp [bodyM, sSeq, s_thenNx, s_thenRt, s_loopNx, s_loopRt, s_loopCt, s_loopBk, sAsg, sRet, sRetN, sDrop, sNil, sPar, sBrk, sCnt, eVar, eC, eOp, gmName, gmSub, eCallB, aCons, aNil, eB, eIf, eTru, mAnd, mOr, mNot, mYes, eMeth, eTup, eLst, eL, eDict0, eDict1, r_for1, forR_nat, r_forS, r_lc1, lcR_nat, r_lcS, n_non, n_bl, n_int, n_str, n_tup, n_rol, n_ref, b_non, b_bl, b_int, b_str, b_tup, b_rol, b_ref, eSetd, eItems, gmTup, gmCons, gmNil, dKey, eCall, eCallP, eDc, iSeq, wipeE, eUn, eIsi, eAnd, eOr, eNot, R.bind_ok, noX_ok, s_atI, s_atI0, s_atI1, s_atI2, s_atI3, s_atI4, s_atI5, s_add, s_sub, s_lt, s_le, s_gt, s_ge, s_isN, s_isB, s_eq_ii, s_eq_ss, s_eq_in, s_eq_ni, s_eq_nn, s_eq_sn, s_eq_ns, s_eq_bb, s_lenT, s_lenR, s_int, s_listT, s_listR, s_tupT, s_truB, s_truN, s_truI, s_truT, s_oB, s_itT, s_itR, s_inTI, s_inTS, s_isLst, r_in, r_inDi, r_inDs, inL_I, inL_S, r_ix, r_ixT, r_ixR, r_ixLi, r_ixDi, r_ixDs, r_len, r_list, r_tup, r_sort, r_tru, r_tyL, r_tyD, r_append, r_pop, r_extT, r_extR, r_it, hr]
theorem gOut_run {cs : List Fn} (ok : OkC cs) {t r : Nat} {rf : Str → Nat} {h gb : AH} (H : HT cs t rf h) {a : Str} (ha : a ∈ nms cs) (hr : (h ++ gb)[r]? = some (.lst ((itF cs a 0).map T))) {A : D} {x3 x4 x5 : Option D} :
    ∃ r' gb' x3' x4' x5', PM.forM (gmName 3) gMid (fun _ => true) ((List.range cs.length).map fun i => D.int ((i : Nat) : Int)) [some (.ref t), some A, some (.ref r), x3, x4, x5] (h ++ gb) = .ok (.nx [some (.ref t), some A, some (.ref r'), x3', x4', x5']) (h ++ gb') ∧ (h ++ gb')[r']? = some (.lst ((itF cs a cs.length).map T)) := by
  obtain ⟨env', h', q, r', gb', x3', x4', x5', e1, e2, e3⟩ := for_run (xs := List.range cs.length) (F := fun i : Nat => D.int ((i : Nat) : Int)) (g := gmName 3) (b := gMid) (chk := fun _ => true)
    (fun i env h' => ∃ r gb2 x3 x4 x5, env = [some (.ref t), some A, some (.ref r), x3, x4, x5] ∧ h' = h ++ gb2 ∧ (h ++ gb2)[r]? = some (.lst ((itF cs a i).map T)))
    (fun _ _ _ _ _ => rfl)
    (fun i x hi env h' ⟨r, gb2, x3, x4, x5, e1, e2, e3⟩ => by
      subst e1 e2
      obtain ⟨r', gb', x4', x5', q, e4⟩ := gMid_run ok H (itF_ok ok ha i) e3 (A := A) (x3 := some (.int (x : Int))) (x4 := x4) (x5 := x5)
      exact ⟨_, _, _, _, rfl, q, r', gb', some (.int (x : Int)), x4', x5', rfl, rfl, e4⟩)
    (env := [some (.ref t), some A, some (.ref r), x3, x4, x5]) (h := h ++ gb) ⟨r, gb, x3, x4, x5, rfl, rfl, hr⟩
  subst e1 e2
  rw [List.length_range] at e3
  exact ⟨r', gb', x3', x4', x5', q, e3⟩
theorem lawFar_run {cs : List Fn} (ok : OkC cs) {t : Nat} {rf : Str → Nat} {h : AH} (H : HT cs t rf h) {a : Str} (ha : a ∈ nms cs) : ∃ g, mLawFar [.ref t, T a] h = .ok (.tup ((farL cs a).map T)) (h ++ g) := by
  have hl := ok.len
  have sm : SmN cs.length := by unfold SmN; omega
  obtain ⟨r', gb', x3', x4', x5', q, e3⟩ := gOut_run ok H (gb := [Ob.lst ((itF cs a 0).map T)]) (r := h.length) ha (by simp) (A := T a) (x3 := none) (x4 := none) (x5 := none)
  have hl64 : (itF cs a cs.length).length < 64 := by have := (itF_ok ok ha cs.length).len; omega
  have hss := s_sortset e3 hl64
  refine ⟨gb' ++ [.lst ((farL cs a).map T)], ?_⟩
  show bodyM 6 (sSeq (sAsg (eCallB (aCons (eOp oIx (eVar 0) (eVar 1)) (aNil)) oList) (gmName 2)) (sSeq (sFor (iRange1 (aCons (eCallB (aCons (eVar 0) (aNil)) oLen) (aNil))) (gmName 3) gMid) (sRet (eCallB (aCons (eSortSet (eVar 2)) (aNil)) oTuple)))) [.ref t, T a] h = _
  generalize gMid = Bd at q ⊢
  have hix := H.ix ha
  have hz := H.at_ a ha
  have htab : ∀ g, (h ++ g)[t]? = some (.dic false (dS (fun n => .ref (rf n)) (nms cs))) := fun g => get_app H.tab
  have hlen : (dS (fun n => D.ref (rf n)) (nms cs)).length = cs.length := by rw [dS_len]; simp
  have hcl : clo cs a = itF cs a 0 := rfl
  rw [hcl] at hz
  simp [bodyM, sSeq, s_thenNx, s_thenRt, s_loopNx, s_loopRt, s_loopCt, s_loopBk, sAsg, sRet, sRetN, sDrop, sNil, sPar, sBrk, sCnt, eVar, eC, eOp, gmName, gmSub, eCallB, aCons, aNil, eB, eIf, eTru, mAnd, mOr, mNot, mYes, eMeth, eTup, eLst, eL, eDict0, eDict1, r_for1, forR_nat, r_forS, r_lc1, lcR_nat, r_lcS, n_non, n_bl, n_int, n_str, n_tup, n_rol, n_ref, b_non, b_bl, b_int, b_str, b_tup, b_rol, b_ref, eSetd, eItems, gmTup, gmCons, gmNil, dKey, eCall, eCallP, eDc, iSeq, wipeE, eUn, eIsi, eAnd, eOr, eNot, R.bind_ok, noX_ok, s_atI, s_atI0, s_atI1, s_atI2, s_atI3, s_atI4, s_atI5, s_add, s_sub, s_lt, s_le, s_gt, s_ge, s_isN, s_isB, s_eq_ii, s_eq_ss, s_eq_in, s_eq_ni, s_eq_nn, s_eq_sn, s_eq_ns, s_eq_bb, s_lenT, s_lenR, s_int, s_listT, s_listR, s_tupT, s_truB, s_truN, s_truI, s_truT, s_oB, s_itT, s_itR, s_inTI, s_inTS, s_isLst, r_in, r_inDi, r_inDs, inL_I, inL_S, r_ix, r_ixT, r_ixR, r_ixLi, r_ixDi, r_ixDs, r_len, r_list, r_tup, r_sort, r_tru, r_tyL, r_tyD, r_append, r_pop, r_extT, r_extR, r_it, eSortSet, H.tab, HT.ixd (rf := rf) ha, hz, htab, hlen, sm, q, hss]
  simp [farL]
end K04

namespace K04
open PySem L2 PM
/-! printed by split.py -/
abbrev W1 : SM := sAsg (eLst (aCons (eCallP (aCons (eVar 0) (aCons (eC (.int 0)) (aCons (eC (.int 30)) (aNil)))) mLawDigits) (aCons (eC (.int 0)) (aNil)))) (gmName 1)
abbrev W2_1 : SM := sAsg (eCall (aCons (eVar 1) (aNil)) mLawBlocks) (gmName 3)
abbrev W2_2 : SM := sAsg (eCallP (aCons (eVar 3) (aCons (eC .non) (aNil))) mLawMet) (gmName 4)
abbrev W2_3 : SM := eIf (mNot (eTru (eCall (aCons (eCallP (aCons (eVar 3) (aNil)) mReach) (aCons (eCallB (aCons (eVar 4) (aNil)) oTuple) (aNil))) (mLawSameN 8)))) (sRet (eC (.bl false))) (sNil)
abbrev W2_4 : SM := sAsg (eL (lComp (iRange1 (aCons (eCallB (aCons (eVar 3) (aNil)) oLen) (aNil))) [7] (gmName 7) (mYes) (eCallB (aCons (eL (lComp (iSeq (eVar 4)) [16] (gmName 16) (mAnd (eB (eOp (oEq true) (eVar 16) (eVar 7))) (eB (eOp (oIn true) (eVar 7) (eCallP (aCons (eVar 3) (aCons (eVar 16) (aNil))) mLawMet)))) (eVar 16))) (aNil)) oTuple))) (gmName 5)
abbrev W2_5 : SM := eIf (mNot (eTru (eCall (aCons (eItems (eCallP (aCons (eVar 3) (aNil)) mOver)) (aCons (eL (lComp (iSeq (eVar 4)) [7] (gmName 7) (mYes) (eTup (aCons (eVar 7) (aCons (eOp oIx (eVar 5) (eVar 7)) (aNil)))))) (aNil))) (mLawSameN 8)))) (sRet (eC (.bl false))) (sNil)
abbrev W2_6 : SM := sAsg (eLst (aNil)) (gmName 6)
abbrev W2_7_1 : SM := sAsg (eL (lComp (iSeq (eOp oIx (eVar 5) (eVar 7))) [16] (gmName 16) (eB (eOp (oEq false) (eCallB (aCons (eOp oIx (eVar 5) (eVar 16)) (aNil)) oLen) (eOp oSub (eCallB (aCons (eOp oIx (eVar 5) (eVar 7)) (aNil)) oLen) (eC (.int 1))))) (eVar 16))) (gmName 8)
abbrev W2_7_2 : SM := sDrop (eMeth .l (eVar 6) (aCons (eTup (aCons (eVar 7) (aCons (eIf (eB (eOp (oEq true) (eVar 8) (eLst (aNil)))) (eOp oIx (eVar 8) (eC (.int 0))) (eC .non)) (aNil)))) (aNil)) oAppend)
abbrev W2_7_b : SM := sSeq W2_7_1 W2_7_2
abbrev W2_7 : SM := sFor (iSeq (eVar 4)) (gmName 7) W2_7_b
abbrev W2_8 : SM := eIf (mOr (mNot (eTru (eCall (aCons (eItems (eCallP (aCons (eVar 3) (aNil)) mDominators)) (aCons (eVar 6) (aNil))) (mLawSameN 8)))) (mNot (eTru (eCall (aCons (eCallP (aCons (eVar 3) (aNil)) mLoops) (aCons (eCall (aCons (eVar 3) (aCons (eVar 5) (aNil))) mLawLoops) (aNil))) (mLawSameN 8))))) (sRet (eC (.bl false))) (sNil)
abbrev W2_9 : SM := sAsg (eLst (aNil)) (gmName 9)
abbrev W2_10 : SM := sFor (iSeq (eVar 4)) (gmName 7) (sAsg (eOp oAdd (eVar 9) (eL (lComp (iSeq (eCallP (aCons (eOp oIx (eVar 3) (eVar 7)) (aNil)) mLawWays)) [17] (gmName 17) (mYes) (eTup (aCons (eVar 7) (aCons (eVar 17) (aNil))))))) (gmName 9))
abbrev W2_11 : SM := eIf (mNot (eTru (eCall (aCons (eCallP (aCons (eVar 3) (aNil)) mArrows) (aCons (eL (lComp (iRange1 (aCons (eCallB (aCons (eVar 9) (aNil)) oLen) (aNil))) [15] (gmName 15) (eB (eOp (oIn true) (eOp oIx (eVar 9) (eVar 15)) (eSl (eVar 9) (oNone) (oSome (eVar 15))))) (eOp oIx (eVar 9) (eVar 15)))) (aNil))) (mLawSameN 8)))) (sRet (eC (.bl false))) (sNil)
abbrev W2_b : SM := sSeq W2_1 (sSeq W2_2 (sSeq W2_3 (sSeq W2_4 (sSeq W2_5 (sSeq W2_6 (sSeq W2_7 (sSeq W2_8 (sSeq W2_9 (sSeq W2_10 W2_11)))))))))
abbrev W2 : SM := sFor (iRange1 (aCons (eC (.int 3)) (aNil))) (gmName 2) W2_b
abbrev W3 : SM := sAsg (eSl (eLst (aCons (eC (.str ("m.a" : Str))) (aCons (eC (.str ("m.b" : Str))) (aCons (eC (.str ("n.c" : Str))) (aCons (eC (.str ("n.d" : Str))) (aCons (eC (.str ("m.e" : Str))) (aCons (eC (.str ("n.f" : Str))) (aNil)))))))) (oNone) (oSome (eOp oAdd (eC (.int 1)) (eCall (aCons (eVar 1) (aCons (eC (.int 6)) (aNil))) mLawDraw)))) (gmName 10)
abbrev W4 : SM := sAsg (eTup (aCons (eLst (aNil)) (aCons (eDict0) (aNil)))) (gmTup 2 (gmCons (gmName 8) (gmCons (gmName 11) (gmNil))))
abbrev W5_1 : SM := sAsg (eL (lComp (iRange1 (aCons (eCall (aCons (eVar 1) (aCons (eC (.int 3)) (aNil))) mLawDraw) (aNil))) [2] (gmName 2) (mYes) (eCall (aCons (eVar 1) (aCons (eVar 10) (aNil))) mLawPick))) (gmName 13)
abbrev W5_2 : SM := sDrop (eMeth .l (eVar 8) (aCons (eTup (aCons (eVar 12) (aCons (eTup (aNil)) (aCons (eTup (aNil)) (aCons (eTup (aCons (eTup (aCons (eTup (aNil)) (aCons (eCallB (aCons (eL (lComp (iSeq (eVar 13)) [17] (gmName 17) (mYes) (eTup (aCons (eC (.str ("call" : Str))) (aCons (eVar 17) (aCons (eTup (aNil)) (aNil))))))) (aNil)) oTuple) (aCons (eTup (aCons (eC (.str ("give" : Str))) (aCons (eTup (aNil)) (aNil)))) (aNil))))) (aNil))) (aNil)))))) (aNil)) oAppend)
abbrev W5_3 : SM := sAsg (eSortSet (eVar 13)) (gmSub (eVar 11) (eVar 12))
abbrev W5_b : SM := sSeq W5_1 (sSeq W5_2 W5_3)
abbrev W5 : SM := sFor (iSeq (eVar 10)) (gmName 12) W5_b
abbrev W6 : SM := sAsg (eTup (aCons (eC (.str ("code" : Str))) (aCons (eTup (aNil)) (aCons (eCallB (aCons (eVar 8) (aNil)) oTuple) (aNil))))) (gmName 14)
abbrev W7 : SM := sAsg (eL (lComp (iSeq (eVar 10)) [12] (gmName 12) (mYes) (eTup (aCons (eVar 12) (aCons (eCallB (aCons (eCallB (aCons (eL (lComp (iSeq (eVar 10)) [17] (gmName 17) (eB (eOp (oIn false) (eVar 12) (eOp oIx (eVar 11) (eVar 17)))) (eVar 17))) (aNil)) oSorted) (aNil)) oTuple) (aNil)))))) (gmName 9)
abbrev W8 : SM := eIf (mNot (eTru (eCall (aCons (eItems (eCallP (aCons (eVar 14) (aNil)) mCallers)) (aCons (eVar 9) (aNil))) (mLawSameN 8)))) (sRet (eC (.bl false))) (sNil)
abbrev W9 : SM := sFor (iRange1 (aCons (eCallB (aCons (eVar 10) (aNil)) oLen) (aNil))) (gmName 15) (eIf (mOr (mNot (eTru (eCall (aCons (eCallP (aCons (eOp oIx (eVar 8) (eVar 15)) (aNil)) mCallsOf) (aCons (eCallB (aCons (eOp oIx (eVar 11) (eOp oIx (eVar 10) (eVar 15))) (aNil)) oTuple) (aNil))) (mLawSameN 8)))) (mNot (eTru (eCall (aCons (eCallP (aCons (eVar 14) (aCons (eOp oIx (eVar 10) (eVar 15)) (aNil))) mCallsFar) (aCons (eCall (aCons (eVar 11) (aCons (eOp oIx (eVar 10) (eVar 15)) (aNil))) mLawFar) (aNil))) (mLawSameN 8))))) (sRet (eC (.bl false))) (sNil))
abbrev W10 : SM := sRet (eC (.bl true))
abbrev Wb : SM := sSeq W1 (sSeq W2 (sSeq W3 (sSeq W4 (sSeq W5 (sSeq W6 (sSeq W7 (sSeq W8 (sSeq W9 W10))))))))
theorem law_eq : mLaw = bodyM 18 Wb := rfl
/-! ### data that _law_same can hold together -/
theorem same_eq : ∀ n, mLawSameN n = sameN n
  | 0 => rfl
  | n + 1 => by
    show mLawSame (mLawSameN n) = sameM (sameN n)
    rw [same_eq n]; rfl
def Nice (k : Nat) (d : D) : Prop := ∃ p, (∀ h, pyd h k d = some p) ∧ goodP p = true
theorem log2_le (n : Nat) : n.log2 ≤ n := by
  by_cases h : n = 0
  · subst h; decide
  · have := Nat.lt_two_pow_self (n := n)
    have := (Nat.log2_lt h).mpr this
    omega
theorem nice_I {k n : Nat} (hn : n < 1000) : Nice (k + 1) (I n) := ⟨.int n, fun _ => rfl, by
  rw [goodP, decide_eq_true_eq]
  have := log2_le n
  simp
  omega⟩
theorem nice_non {k : Nat} : Nice (k + 1) .non := ⟨.none, fun _ => rfl, rfl⟩
theorem nice_all {k : Nat} : ∀ {xs : List D}, (∀ x ∈ xs, Nice k x) → ∃ ps, (∀ h, pydL (pyd h k) xs = some ps) ∧ goodPs ps = true ∧ ps.length = xs.length
  | [], _ => ⟨[], fun _ => rfl, rfl, rfl⟩
  | x :: xs, h => by
    obtain ⟨p, e1, g1⟩ := h x (by simp)
    obtain ⟨ps, e2, g2, l2⟩ := nice_all (xs := xs) fun y hy => h y (by simp [hy])
    exact ⟨p :: ps, fun h => by rw [pydL, e1, e2], by rw [goodPs, g1, g2]; rfl, by simp [l2]⟩
theorem nice_tup {k : Nat} {xs : List D} (h : ∀ x ∈ xs, Nice k x) (hl : xs.length ≤ 1000) : Nice (k + 1) (.tup xs) := by
  obtain ⟨ps, e, g, l⟩ := nice_all h
  exact ⟨.tuple ps, fun h => by rw [pyd, e]; rfl, by rw [goodP, g, Bool.and_true, decide_eq_true_eq]; omega⟩
theorem same_n {k : Nat} {d : D} {h : AH} (n : Nice k d) : mLawSameN k [d, d] h = .ok (.bl true) h := by
  obtain ⟨p, e, g⟩ := n
  rw [same_eq]
  exact same_ok k d d p (e h) (e h) g
theorem same_l {k : Nat} {m n : Nat} {xs : List D} {h : AH} (e1 : h[m]? = some (.lst xs)) (e2 : h[n]? = some (.lst xs)) (hx : ∀ x ∈ xs, Nice k x) (hl : xs.length ≤ 1000) : mLawSameN (k + 1) [.ref m, .ref n] h = .ok (.bl true) h := by
  obtain ⟨ps, e, g, l⟩ := nice_all hx
  rw [same_eq]
  refine same_ok (k + 1) _ _ (.list ps) ?_ ?_ ?_
  · rw [pyd, e1]; show (pydL (pyd h k) xs).map PyData.list = _; rw [e]; rfl
  · rw [pyd, e2]; show (pydL (pyd h k) xs).map PyData.list = _; rw [e]; rfl
  · rw [goodP, g, Bool.and_true, decide_eq_true_eq]; omega
/-! ### one set of blocks -/
theorem nice_met {bs : List End} (ok : okB bs) (g : Option Nat) (k : Nat) : ∀ x ∈ (met bs g).map I, Nice (k + 1) x := fun x hx => by
  obtain ⟨n, hn, rfl⟩ := List.mem_map.mp hx
  have h1 := (met_ok ok g).2 n hn
  have h2 := ok.2.1
  exact nice_I (by omega)
theorem met_len {bs : List End} (ok : okB bs) (g : Option Nat) : (met bs g).length ≤ 9 := by
  have h1 := (met_ok ok g).len
  have h2 := ok.2.1
  omega
theorem w3 {bs : List End} (ok : okB bs) {m : Nat} {h : AH} (hm : h[m]? = some (Ob.lst ((met bs none).map I))) {x0 x1 x2 x5 x6 x7 x8 x9 : Option D} :
    W2_3 [x0, x1, x2, some (B bs), some (.ref m), x5, x6, x7, x8, x9, none, none, none, none, none, none, none, none] h = .ok (.nx [x0, x1, x2, some (B bs), some (.ref m), x5, x6, x7, x8, x9, none, none, none, none, none, none, none, none]) h := by
  have hs : mLawSameN 8 [.tup ((met bs none).map I), .tup ((met bs none).map I)] h = .ok (.bl true) h := same_n (nice_tup (nice_met ok none 6) (by have := met_len ok none; simp; omega))
  simp [bodyM, sSeq, s_thenNx, s_thenRt, s_loopNx, s_loopRt, s_loopCt, s_loopBk, sAsg, sRet, sRetN, sDrop, sNil, sPar, sBrk, sCnt, eVar, eC, eOp, gmName, gmSub, eCallB, aCons, aNil, eB, eIf, eTru, mAnd, mOr, mNot, mYes, eMeth, eTup, eLst, eL, eDict0, eDict1, r_for1, forR_nat, r_forS, r_lc1, lcR_nat, r_lcS, n_non, n_bl, n_int, n_str, n_tup, n_rol, n_ref, b_non, b_bl, b_int, b_str, b_tup, b_rol, b_ref, eSetd, eItems, gmTup, gmCons, gmNil, dKey, eCall, eCallP, eDc, iSeq, wipeE, eUn, eIsi, eAnd, eOr, eNot, R.bind_ok, noX_ok, s_atI, s_atI0, s_atI1, s_atI2, s_atI3, s_atI4, s_atI5, s_add, s_sub, s_lt, s_le, s_gt, s_ge, s_isN, s_isB, s_eq_ii, s_eq_ss, s_eq_in, s_eq_ni, s_eq_nn, s_eq_sn, s_eq_ns, s_eq_bb, s_lenT, s_lenR, s_int, s_listT, s_listR, s_tupT, s_truB, s_truN, s_truI, s_truT, s_oB, s_itT, s_itR, s_inTI, s_inTS, s_isLst, r_in, r_inDi, r_inDs, inL_I, inL_S, r_ix, r_ixT, r_ixR, r_ixLi, r_ixDi, r_ixDs, r_len, r_list, r_tup, r_sort, r_tru, r_tyL, r_tyD, r_append, r_pop, r_extT, r_extR, r_it, run_reach ok, hm, hs]
theorem above_in {bs : List End} (ok : okB bs) {m l : Nat} {h0 g0 : AH} (hm : h0[m]? = some (Ob.lst ((met bs none).map I))) {x0 x1 x2 x5 x6 x8 x9 : Option D} :
    ∃ g, lcM [x0, x1, x2, some (B bs), some (.ref m), x5, x6, some (I l), x8, x9, none, none, none, none, none, none, none, none] (gmName 16) (mAnd (eB (eOp (oEq true) (eVar 16) (eVar 7))) (eB (eOp (oIn true) (eVar 7) (eCallP (aCons (eVar 3) (aCons (eVar 16) (aNil))) mLawMet)))) (eVar 16) (fun h' => isLst ((met bs none).map I) h'[m]?) ((met bs none).map I) [] (h0 ++ g0) = .ok ((abv bs l).map I) (h0 ++ g) := by
  obtain ⟨h', q, g, e⟩ := lc_run (xs := met bs none) (F := I) (G := I) (p := lies bs l) (env0 := [x0, x1, x2, some (B bs), some (.ref m), x5, x6, some (I l), x8, x9, none, none, none, none, none, none, none, none]) (g := gmName 16) (t := mAnd (eB (eOp (oEq true) (eVar 16) (eVar 7))) (eB (eOp (oIn true) (eVar 7) (eCallP (aCons (eVar 3) (aCons (eVar 16) (aNil))) mLawMet)))) (e := eVar 16)
    (chk := fun h' => isLst ((met bs none).map I) h'[m]?) (fun h => ∃ g, h = h0 ++ g) (fun h ⟨g, e⟩ => by subst e; rw [get_app hm]; exact s_isLst)
    (fun far hf h ⟨g, e⟩ => by
      subst e
      have hrm : ∀ h, runP mLawMet [B bs, .int (far : Int)] h = .ok (.ref h.length) (h ++ [.lst ((met bs (some far)).map I)]) := run_lawMet ok (some far)
      by_cases h1 : l = far
      · subst h1
        refine ⟨[x0, x1, x2, some (B bs), some (.ref m), x5, x6, some (I l), x8, x9, none, none, none, none, none, none, some (I l), none], h0 ++ g, h0 ++ g, rfl, ?_, fun _ => ⟨_, rfl⟩, fun _ => ⟨_, rfl, _, rfl⟩⟩
        simp [bodyM, sSeq, s_thenNx, s_thenRt, s_loopNx, s_loopRt, s_loopCt, s_loopBk, sAsg, sRet, sRetN, sDrop, sNil, sPar, sBrk, sCnt, eVar, eC, eOp, gmName, gmSub, eCallB, aCons, aNil, eB, eIf, eTru, mAnd, mOr, mNot, mYes, eMeth, eTup, eLst, eL, eDict0, eDict1, r_for1, forR_nat, r_forS, r_lc1, lcR_nat, r_lcS, n_non, n_bl, n_int, n_str, n_tup, n_rol, n_ref, b_non, b_bl, b_int, b_str, b_tup, b_rol, b_ref, eSetd, eItems, gmTup, gmCons, gmNil, dKey, eCall, eCallP, eDc, iSeq, wipeE, eUn, eIsi, eAnd, eOr, eNot, R.bind_ok, noX_ok, s_atI, s_atI0, s_atI1, s_atI2, s_atI3, s_atI4, s_atI5, s_add, s_sub, s_lt, s_le, s_gt, s_ge, s_isN, s_isB, s_eq_ii, s_eq_ss, s_eq_in, s_eq_ni, s_eq_nn, s_eq_sn, s_eq_ns, s_eq_bb, s_lenT, s_lenR, s_int, s_listT, s_listR, s_tupT, s_truB, s_truN, s_truI, s_truT, s_oB, s_itT, s_itR, s_inTI, s_inTS, s_isLst, r_in, r_inDi, r_inDs, inL_I, inL_S, r_ix, r_ixT, r_ixR, r_ixLi, r_ixDi, r_ixDs, r_len, r_list, r_tup, r_sort, r_tru, r_tyL, r_tyD, r_append, r_pop, r_extT, r_extR, r_it, I, beq_N, lies]
      · refine ⟨[x0, x1, x2, some (B bs), some (.ref m), x5, x6, some (I l), x8, x9, none, none, none, none, none, none, some (I far), none], h0 ++ g, h0 ++ (g ++ [.lst ((met bs (some far)).map I)]), rfl, ?_, fun _ => ⟨_, rfl⟩, fun _ => ⟨_, rfl, _, rfl⟩⟩
        by_cases h2 : l ∈ met bs (some far)
        · simp [bodyM, sSeq, s_thenNx, s_thenRt, s_loopNx, s_loopRt, s_loopCt, s_loopBk, sAsg, sRet, sRetN, sDrop, sNil, sPar, sBrk, sCnt, eVar, eC, eOp, gmName, gmSub, eCallB, aCons, aNil, eB, eIf, eTru, mAnd, mOr, mNot, mYes, eMeth, eTup, eLst, eL, eDict0, eDict1, r_for1, forR_nat, r_forS, r_lc1, lcR_nat, r_lcS, n_non, n_bl, n_int, n_str, n_tup, n_rol, n_ref, b_non, b_bl, b_int, b_str, b_tup, b_rol, b_ref, eSetd, eItems, gmTup, gmCons, gmNil, dKey, eCall, eCallP, eDc, iSeq, wipeE, eUn, eIsi, eAnd, eOr, eNot, R.bind_ok, noX_ok, s_atI, s_atI0, s_atI1, s_atI2, s_atI3, s_atI4, s_atI5, s_add, s_sub, s_lt, s_le, s_gt, s_ge, s_isN, s_isB, s_eq_ii, s_eq_ss, s_eq_in, s_eq_ni, s_eq_nn, s_eq_sn, s_eq_ns, s_eq_bb, s_lenT, s_lenR, s_int, s_listT, s_listR, s_tupT, s_truB, s_truN, s_truI, s_truT, s_oB, s_itT, s_itR, s_inTI, s_inTS, s_isLst, r_in, r_inDi, r_inDs, inL_I, inL_S, r_ix, r_ixT, r_ixR, r_ixLi, r_ixDi, r_ixDs, r_len, r_list, r_tup, r_sort, r_tru, r_tyL, r_tyD, r_append, r_pop, r_extT, r_extR, r_it, I, beq_N, h1, hrm, inL_N, h2, lies]
        · simp [bodyM, sSeq, s_thenNx, s_thenRt, s_loopNx, s_loopRt, s_loopCt, s_loopBk, sAsg, sRet, sRetN, sDrop, sNil, sPar, sBrk, sCnt, eVar, eC, eOp, gmName, gmSub, eCallB, aCons, aNil, eB, eIf, eTru, mAnd, mOr, mNot, mYes, eMeth, eTup, eLst, eL, eDict0, eDict1, r_for1, forR_nat, r_forS, r_lc1, lcR_nat, r_lcS, n_non, n_bl, n_int, n_str, n_tup, n_rol, n_ref, b_non, b_bl, b_int, b_str, b_tup, b_rol, b_ref, eSetd, eItems, gmTup, gmCons, gmNil, dKey, eCall, eCallP, eDc, iSeq, wipeE, eUn, eIsi, eAnd, eOr, eNot, R.bind_ok, noX_ok, s_atI, s_atI0, s_atI1, s_atI2, s_atI3, s_atI4, s_atI5, s_add, s_sub, s_lt, s_le, s_gt, s_ge, s_isN, s_isB, s_eq_ii, s_eq_ss, s_eq_in, s_eq_ni, s_eq_nn, s_eq_sn, s_eq_ns, s_eq_bb, s_lenT, s_lenR, s_int, s_listT, s_listR, s_tupT, s_truB, s_truN, s_truI, s_truT, s_oB, s_itT, s_itR, s_inTI, s_inTS, s_isLst, r_in, r_inDi, r_inDs, inL_I, inL_S, r_ix, r_ixT, r_ixR, r_ixLi, r_ixDi, r_ixDs, r_len, r_list, r_tup, r_sort, r_tru, r_tyL, r_tyD, r_append, r_pop, r_extT, r_extR, r_it, I, beq_N, h1, hrm, inL_N, h2, lies])
    [] (h0 ++ g0) ⟨g0, rfl⟩ (by have := met_len ok none; simp; omega)
  subst e
  exact ⟨g, by rw [q]; rfl⟩
theorem ft {α : Type} (l : List α) : l.filter (fun _ => true) = l := List.filter_eq_self.mpr fun _ _ => rfl
theorem w4 {bs : List End} (ok : okB bs) {m : Nat} {h : AH} (hm : h[m]? = some (Ob.lst ((met bs none).map I))) {x0 x1 x2 x5 x6 x7 x8 x9 : Option D} :
    ∃ g, W2_4 [x0, x1, x2, some (B bs), some (.ref m), x5, x6, x7, x8, x9, none, none, none, none, none, none, none, none] h = .ok (.nx [x0, x1, x2, some (B bs), some (.ref m), some (.ref (h ++ g).length), x6, x7, x8, x9, none, none, none, none, none, none, none, none]) (h ++ g ++ [Ob.lst (aboveL bs)]) := by
  have sm : SmN bs.length := by unfold SmN; have := ok.2.1; omega
  obtain ⟨h', q, g, e⟩ := lc_run (xs := List.range bs.length) (F := fun i : Nat => D.int ((i : Nat) : Int)) (G := aboveD bs) (p := fun _ => true) (env0 := [x0, x1, x2, some (B bs), some (.ref m), x5, x6, none, x8, x9, none, none, none, none, none, none, none, none]) (g := gmName 7) (t := mYes)
    (e := eCallB (aCons (eL (lComp (iSeq (eVar 4)) [16] (gmName 16) (mAnd (eB (eOp (oEq true) (eVar 16) (eVar 7))) (eB (eOp (oIn true) (eVar 7) (eCallP (aCons (eVar 3) (aCons (eVar 16) (aNil))) mLawMet)))) (eVar 16))) (aNil)) oTuple)
    (chk := fun _ => true) (fun h' => ∃ g, h' = h ++ g) (fun _ _ => rfl)
    (fun l hl h' ⟨g, e⟩ => by
      subst e
      obtain ⟨g2, q⟩ := above_in ok (l := l) (g0 := g) hm (x0 := x0) (x1 := x1) (x2 := x2) (x5 := x5) (x6 := x6) (x8 := x8) (x9 := x9)
      refine ⟨[x0, x1, x2, some (B bs), some (.ref m), x5, x6, some (I l), x8, x9, none, none, none, none, none, none, none, none], h ++ g, h ++ g, rfl, rfl, fun z => (nomatch z), fun _ => ⟨h ++ g2 ++ [.lst ((abv bs l).map I)], ?_, g2 ++ [.lst ((abv bs l).map I)], by simp⟩⟩
      have hm' : ∀ g, (h ++ g)[m]? = some (Ob.lst ((met bs none).map I)) := fun g => get_app hm
      generalize (mAnd (eB (eOp (oEq true) (eVar 16) (eVar 7))) (eB (eOp (oIn true) (eVar 7) (eCallP (aCons (eVar 3) (aCons (eVar 16) (aNil))) mLawMet)))) = Td at q ⊢
      simp [bodyM, sSeq, s_thenNx, s_thenRt, s_loopNx, s_loopRt, s_loopCt, s_loopBk, sAsg, sRet, sRetN, sDrop, sNil, sPar, sBrk, sCnt, eVar, eC, eOp, gmName, gmSub, eCallB, aCons, aNil, eB, eIf, eTru, mAnd, mOr, mNot, mYes, eMeth, eTup, eLst, eL, eDict0, eDict1, r_for1, forR_nat, r_forS, r_lc1, lcR_nat, r_lcS, n_non, n_bl, n_int, n_str, n_tup, n_rol, n_ref, b_non, b_bl, b_int, b_str, b_tup, b_rol, b_ref, eSetd, eItems, gmTup, gmCons, gmNil, dKey, eCall, eCallP, eDc, iSeq, wipeE, eUn, eIsi, eAnd, eOr, eNot, R.bind_ok, noX_ok, s_atI, s_atI0, s_atI1, s_atI2, s_atI3, s_atI4, s_atI5, s_add, s_sub, s_lt, s_le, s_gt, s_ge, s_isN, s_isB, s_eq_ii, s_eq_ss, s_eq_in, s_eq_ni, s_eq_nn, s_eq_sn, s_eq_ns, s_eq_bb, s_lenT, s_lenR, s_int, s_listT, s_listR, s_tupT, s_truB, s_truN, s_truI, s_truT, s_oB, s_itT, s_itR, s_inTI, s_inTS, s_isLst, r_in, r_inDi, r_inDs, inL_I, inL_S, r_ix, r_ixT, r_ixR, r_ixLi, r_ixDi, r_ixDs, r_len, r_list, r_tup, r_sort, r_tru, r_tyL, r_tyD, r_append, r_pop, r_extT, r_extR, r_it, hm', q, aboveD])
    [] h ⟨[], by simp⟩ (by have := ok.2.1; simp; omega)
  subst e
  refine ⟨g, ?_⟩
  have q' : lcM [x0, x1, x2, some (B bs), some (.ref m), x5, x6, none, x8, x9, none, none, none, none, none, none, none, none] (gmName 7) mYes (eCallB (aCons (eL (lComp (iSeq (eVar 4)) [16] (gmName 16) (mAnd (eB (eOp (oEq true) (eVar 16) (eVar 7))) (eB (eOp (oIn true) (eVar 7) (eCallP (aCons (eVar 3) (aCons (eVar 16) (aNil))) mLawMet)))) (eVar 16))) (aNil)) oTuple) (fun _ => true) ((List.range bs.length).map fun i : Nat => D.int ((i : Nat) : Int)) [] h = .ok (aboveL bs) (h ++ g) := by
    rw [q, List.nil_append, ft]; rfl
  unfold W2_4
  generalize eCallB (aCons (eL (lComp (iSeq (eVar 4)) [16] (gmName 16) (mAnd (eB (eOp (oEq true) (eVar 16) (eVar 7))) (eB (eOp (oIn true) (eVar 7) (eCallP (aCons (eVar 3) (aCons (eVar 16) (aNil))) mLawMet)))) (eVar 16))) (aNil)) oTuple = Ed at q' ⊢
  clear q
  generalize hY : (mYes : TM) = Yd at q' ⊢
  simp [bodyM, sSeq, s_thenNx, s_thenRt, s_loopNx, s_loopRt, s_loopCt, s_loopBk, sAsg, sRet, sRetN, sDrop, sNil, sPar, sBrk, sCnt, eVar, eC, eOp, gmName, gmSub, eCallB, aCons, aNil, eB, eIf, eTru, mAnd, mOr, mNot, mYes, eMeth, eTup, eLst, eL, eDict0, eDict1, r_for1, forR_nat, r_forS, r_lc1, lcR_nat, r_lcS, n_non, n_bl, n_int, n_str, n_tup, n_rol, n_ref, b_non, b_bl, b_int, b_str, b_tup, b_rol, b_ref, eSetd, eItems, gmTup, gmCons, gmNil, dKey, eCall, eCallP, eDc, iSeq, wipeE, eUn, eIsi, eAnd, eOr, eNot, R.bind_ok, noX_ok, s_atI, s_atI0, s_atI1, s_atI2, s_atI3, s_atI4, s_atI5, s_add, s_sub, s_lt, s_le, s_gt, s_ge, s_isN, s_isB, s_eq_ii, s_eq_ss, s_eq_in, s_eq_ni, s_eq_nn, s_eq_sn, s_eq_ns, s_eq_bb, s_lenT, s_lenR, s_int, s_listT, s_listR, s_tupT, s_truB, s_truN, s_truI, s_truT, s_oB, s_itT, s_itR, s_inTI, s_inTS, s_isLst, r_in, r_inDi, r_inDs, inL_I, inL_S, r_ix, r_ixT, r_ixR, r_ixLi, r_ixDi, r_ixDs, r_len, r_list, r_tup, r_sort, r_tru, r_tyL, r_tyD, r_append, r_pop, r_extT, r_extR, r_it, lenB, sm]
  rw [← hY, ← hY] at *
  simp [q']
end K04

namespace K04
open PySem L2 PM
def abD (bs : List End) (l : Nat) : D := .tup [I l, aboveD bs l]
def nD (bs : List End) (l : Nat) : D := .tup [I l, domD bs l]
theorem nice_pair {k n : Nat} {d : D} (hn : n < 1000) (hd : Nice (k + 1) d) : Nice (k + 2) (.tup [I n, d]) :=
  nice_tup (fun x hx => by
    rcases List.mem_cons.mp hx with rfl | hx
    · exact nice_I hn
    · rw [List.mem_singleton.mp hx]; exact hd) (by simp)
theorem nice_abv {bs : List End} (ok : okB bs) (l k : Nat) : Nice (k + 2) (aboveD bs l) :=
  nice_tup (fun x hx => by
    obtain ⟨n, hn, rfl⟩ := List.mem_map.mp hx
    have h1 := (met_ok ok none).2 n (abv_mem hn)
    have h2 := ok.2.1
    exact nice_I (by omega)) (by have := abv_len ok l; simp; omega)
theorem nice_dom {bs : List End} (ok : okB bs) (l k : Nat) : Nice (k + 1) (domD bs l) := by
  unfold domD
  split
  · exact nice_non
  · rename_i x r e
    have hx : x ∈ near bs l := by rw [e]; simp
    have h1 := (met_ok ok none).2 x (abv_mem (List.mem_filter.mp hx).1)
    have h2 := ok.2.1
    exact nice_I (by omega)
theorem items_ab (bs : List End) (L : List Nat) : (dN (aboveD bs) L).map (fun p => D.tup [keyD p.1, p.2]) = L.map (abD bs) := by simp [dN, abD, keyD, kN, I]
theorem items_n (bs : List End) (L : List Nat) : (dN (domD bs) L).map (fun p => D.tup [keyD p.1, p.2]) = L.map (nD bs) := by simp [dN, nD, keyD, kN, I]
theorem w5 {bs : List End} (ok : okB bs) {m a : Nat} {h : AH} (hm : h[m]? = some (Ob.lst ((met bs none).map I))) (ha : h[a]? = some (Ob.lst (aboveL bs))) {x0 x1 x2 x6 x7 x8 x9 : Option D} :
    ∃ g, W2_5 [x0, x1, x2, some (B bs), some (.ref m), some (.ref a), x6, x7, x8, x9, none, none, none, none, none, none, none, none] h = .ok (.nx [x0, x1, x2, some (B bs), some (.ref m), some (.ref a), x6, x7, x8, x9, none, none, none, none, none, none, none, none]) (h ++ g) := by
  have hlm := met_len ok none
  have q := lc_pure (xs := met bs none) (F := I) (G := abD bs) (p := fun _ => true) (env0 := [x0, x1, x2, some (B bs), some (.ref m), some (.ref a), x6, none, x8, x9, none, none, none, none, none, none, none, none]) (g := gmName 7) (t := mYes) (e := eTup (aCons (eVar 7) (aCons (eOp oIx (eVar 5) (eVar 7)) (aNil))))
    (chk := fun h' => isLst ((met bs none).map I) h'[m]?) (h := h ++ [.dic false (dN (aboveD bs) (met bs none)), .lst ((met bs none).map (abD bs))]) (fun y => [x0, x1, x2, some (B bs), some (.ref m), some (.ref a), x6, some (I y), x8, x9, none, none, none, none, none, none, none, none])
    (by rw [get_app hm]; exact s_isLst) (fun y _ => by simp [gmName]) (fun y _ => rfl) (fun y hy _ => by
      have haa : ∀ R, (h ++ R)[a]? = some (Ob.lst (aboveL bs)) := fun R => get_app ha
      have hab := above_at ((met_ok ok none).2 y hy)
      simp [bodyM, sSeq, s_thenNx, s_thenRt, s_loopNx, s_loopRt, s_loopCt, s_loopBk, sAsg, sRet, sRetN, sDrop, sNil, sPar, sBrk, sCnt, eVar, eC, eOp, gmName, gmSub, eCallB, aCons, aNil, eB, eIf, eTru, mAnd, mOr, mNot, mYes, eMeth, eTup, eLst, eL, eDict0, eDict1, r_for1, forR_nat, r_forS, r_lc1, lcR_nat, r_lcS, n_non, n_bl, n_int, n_str, n_tup, n_rol, n_ref, b_non, b_bl, b_int, b_str, b_tup, b_rol, b_ref, eSetd, eItems, gmTup, gmCons, gmNil, dKey, eCall, eCallP, eDc, iSeq, wipeE, eUn, eIsi, eAnd, eOr, eNot, R.bind_ok, noX_ok, s_atI, s_atI0, s_atI1, s_atI2, s_atI3, s_atI4, s_atI5, s_add, s_sub, s_lt, s_le, s_gt, s_ge, s_isN, s_isB, s_eq_ii, s_eq_ss, s_eq_in, s_eq_ni, s_eq_nn, s_eq_sn, s_eq_ns, s_eq_bb, s_lenT, s_lenR, s_int, s_listT, s_listR, s_tupT, s_truB, s_truN, s_truI, s_truT, s_oB, s_itT, s_itR, s_inTI, s_inTS, s_isLst, r_in, r_inDi, r_inDs, inL_I, inL_S, r_ix, r_ixT, r_ixR, r_ixLi, r_ixDi, r_ixDs, r_len, r_list, r_tup, r_sort, r_tru, r_tyL, r_tyD, r_append, r_pop, r_extT, r_extR, r_it, I, haa, hab, abD, szl]) (by omega)
  rw [ft] at q
  refine ⟨[.dic false (dN (aboveD bs) (met bs none)), .lst ((met bs none).map (abD bs)), .lst ((met bs none).map (abD bs))], ?_⟩
  have hm' : ∀ g, (h ++ g)[m]? = some (Ob.lst ((met bs none).map I)) := fun g => get_app hm
  have nice : ∀ x ∈ (met bs none).map (abD bs), Nice 7 x := fun x hx => by
    obtain ⟨n, hn, rfl⟩ := List.mem_map.mp hx
    have h1 := (met_ok ok none).2 n hn
    have h2 := ok.2.1
    exact nice_pair (by omega) (nice_abv ok n 4)
  have hs := same_l (k := 7) (m := h.length + 1) (n := h.length + 2) (xs := (met bs none).map (abD bs)) (h := h ++ [.dic false (dN (aboveD bs) (met bs none)), .lst ((met bs none).map (abD bs)), .lst ((met bs none).map (abD bs))])
    (by simp) (by simp) nice (by simp; omega)
  unfold W2_5
  generalize hY : (mYes : TM) = Yd at q ⊢
  generalize hE : eTup (aCons (eVar 7) (aCons (eOp oIx (eVar 5) (eVar 7)) (aNil))) = Ed at q ⊢
  simp [bodyM, sSeq, s_thenNx, s_thenRt, s_loopNx, s_loopRt, s_loopCt, s_loopBk, sAsg, sRet, sRetN, sDrop, sNil, sPar, sBrk, sCnt, eVar, eC, eOp, gmName, gmSub, eCallB, aCons, aNil, eB, eIf, eTru, mAnd, mOr, mNot, mYes, eMeth, eTup, eLst, eL, eDict0, eDict1, r_for1, forR_nat, r_forS, r_lc1, lcR_nat, r_lcS, n_non, n_bl, n_int, n_str, n_tup, n_rol, n_ref, b_non, b_bl, b_int, b_str, b_tup, b_rol, b_ref, eSetd, eItems, gmTup, gmCons, gmNil, dKey, eCall, eCallP, eDc, iSeq, wipeE, eUn, eIsi, eAnd, eOr, eNot, R.bind_ok, noX_ok, s_atI, s_atI0, s_atI1, s_atI2, s_atI3, s_atI4, s_atI5, s_add, s_sub, s_lt, s_le, s_gt, s_ge, s_isN, s_isB, s_eq_ii, s_eq_ss, s_eq_in, s_eq_ni, s_eq_nn, s_eq_sn, s_eq_ns, s_eq_bb, s_lenT, s_lenR, s_int, s_listT, s_listR, s_tupT, s_truB, s_truN, s_truI, s_truT, s_oB, s_itT, s_itR, s_inTI, s_inTS, s_isLst, r_in, r_inDi, r_inDs, inL_I, inL_S, r_ix, r_ixT, r_ixR, r_ixLi, r_ixDi, r_ixDs, r_len, r_list, r_tup, r_sort, r_tru, r_tyL, r_tyD, r_append, r_pop, r_extT, r_extR, r_it, run_over ok, items_ab, hm', q, hs]
/-! ### nearest -/
theorem isE {α : Type} {l : List α} {x : α} {r : List α} (h : l = x :: r) : l.isEmpty = false := by rw [h]; rfl
theorem near_run {bs : List End} (ok : okB bs) {a l : Nat} {hh : AH} (ha : hh[a]? = some (Ob.lst (aboveL bs))) (hl : l ∈ met bs none) {x0 x1 x2 x3 x4 x6 x8 x9 : Option D} :
    W2_7_1 [x0, x1, x2, x3, x4, some (.ref a), x6, some (I l), x8, x9, none, none, none, none, none, none, none, none] hh = .ok (.nx [x0, x1, x2, x3, x4, some (.ref a), x6, some (I l), some (.ref hh.length), x9, none, none, none, none, none, none, none, none]) (hh ++ [.lst ((near bs l).map I)]) := by
  have hab : ∀ x ∈ met bs none, (aboveL bs)[x]? = some (aboveD bs x) := fun x hx => above_at ((met_ok ok none).2 x hx)
  have hla := hab l hl
  have q := lc_pure (xs := abv bs l) (F := I) (G := I) (p := nearP bs l) (env0 := [x0, x1, x2, x3, x4, some (.ref a), x6, some (I l), x8, x9, none, none, none, none, none, none, none, none]) (g := gmName 16) (t := eB (eOp (oEq false) (eCallB (aCons (eOp oIx (eVar 5) (eVar 16)) (aNil)) oLen) (eOp oSub (eCallB (aCons (eOp oIx (eVar 5) (eVar 7)) (aNil)) oLen) (eC (.int 1))))) (e := eVar 16)
    (chk := fun _ => true) (h := hh) (fun y => [x0, x1, x2, x3, x4, some (.ref a), x6, some (I l), x8, x9, none, none, none, none, none, none, some (I y), none])
    rfl (fun y _ => by simp [gmName]) (fun y hy => by simp [bodyM, sSeq, s_thenNx, s_thenRt, s_loopNx, s_loopRt, s_loopCt, s_loopBk, sAsg, sRet, sRetN, sDrop, sNil, sPar, sBrk, sCnt, eVar, eC, eOp, gmName, gmSub, eCallB, aCons, aNil, eB, eIf, eTru, mAnd, mOr, mNot, mYes, eMeth, eTup, eLst, eL, eDict0, eDict1, r_for1, forR_nat, r_forS, r_lc1, lcR_nat, r_lcS, n_non, n_bl, n_int, n_str, n_tup, n_rol, n_ref, b_non, b_bl, b_int, b_str, b_tup, b_rol, b_ref, eSetd, eItems, gmTup, gmCons, gmNil, dKey, eCall, eCallP, eDc, iSeq, wipeE, eUn, eIsi, eAnd, eOr, eNot, R.bind_ok, noX_ok, s_atI, s_atI0, s_atI1, s_atI2, s_atI3, s_atI4, s_atI5, s_add, s_sub, s_lt, s_le, s_gt, s_ge, s_isN, s_isB, s_eq_ii, s_eq_ss, s_eq_in, s_eq_ni, s_eq_nn, s_eq_sn, s_eq_ns, s_eq_bb, s_lenT, s_lenR, s_int, s_listT, s_listR, s_tupT, s_truB, s_truN, s_truI, s_truT, s_oB, s_itT, s_itR, s_inTI, s_inTS, s_isLst, r_in, r_inDi, r_inDs, inL_I, inL_S, r_ix, r_ixT, r_ixR, r_ixLi, r_ixDi, r_ixDs, r_len, r_list, r_tup, r_sort, r_tru, r_tyL, r_tyD, r_append, r_pop, r_extT, r_extR, r_it, I, ha, hab y (abv_mem hy), hla, aboveD, nearP]) (fun y _ _ => by simp [bodyM, sSeq, s_thenNx, s_thenRt, s_loopNx, s_loopRt, s_loopCt, s_loopBk, sAsg, sRet, sRetN, sDrop, sNil, sPar, sBrk, sCnt, eVar, eC, eOp, gmName, gmSub, eCallB, aCons, aNil, eB, eIf, eTru, mAnd, mOr, mNot, mYes, eMeth, eTup, eLst, eL, eDict0, eDict1, r_for1, forR_nat, r_forS, r_lc1, lcR_nat, r_lcS, n_non, n_bl, n_int, n_str, n_tup, n_rol, n_ref, b_non, b_bl, b_int, b_str, b_tup, b_rol, b_ref, eSetd, eItems, gmTup, gmCons, gmNil, dKey, eCall, eCallP, eDc, iSeq, wipeE, eUn, eIsi, eAnd, eOr, eNot, R.bind_ok, noX_ok, s_atI, s_atI0, s_atI1, s_atI2, s_atI3, s_atI4, s_atI5, s_add, s_sub, s_lt, s_le, s_gt, s_ge, s_isN, s_isB, s_eq_ii, s_eq_ss, s_eq_in, s_eq_ni, s_eq_nn, s_eq_sn, s_eq_ns, s_eq_bb, s_lenT, s_lenR, s_int, s_listT, s_listR, s_tupT, s_truB, s_truN, s_truI, s_truT, s_oB, s_itT, s_itR, s_inTI, s_inTS, s_isLst, r_in, r_inDi, r_inDs, inL_I, inL_S, r_ix, r_ixT, r_ixR, r_ixLi, r_ixDi, r_ixDs, r_len, r_list, r_tup, r_sort, r_tru, r_tyL, r_tyD, r_append, r_pop, r_extT, r_extR, r_it]) (by have := abv_len ok l; omega)
  have q' : lcM [x0, x1, x2, x3, x4, some (.ref a), x6, some (I l), x8, x9, none, none, none, none, none, none, none, none] (gmName 16) (eB (eOp (oEq false) (eCallB (aCons (eOp oIx (eVar 5) (eVar 16)) (aNil)) oLen) (eOp oSub (eCallB (aCons (eOp oIx (eVar 5) (eVar 7)) (aNil)) oLen) (eC (.int 1))))) (eVar 16) (fun _ => true) ((abv bs l).map I) [] hh = .ok ((near bs l).map I) hh := q
  clear q
  unfold W2_7_1
  generalize eB (eOp (oEq false) (eCallB (aCons (eOp oIx (eVar 5) (eVar 16)) (aNil)) oLen) (eOp oSub (eCallB (aCons (eOp oIx (eVar 5) (eVar 7)) (aNil)) oLen) (eC (.int 1)))) = Td at q' ⊢
  simp only [I] at q' ⊢
  simp [bodyM, sSeq, s_thenNx, s_thenRt, s_loopNx, s_loopRt, s_loopCt, s_loopBk, sAsg, sRet, sRetN, sDrop, sNil, sPar, sBrk, sCnt, eVar, eC, eOp, gmName, gmSub, eCallB, aCons, aNil, eB, eIf, eTru, mAnd, mOr, mNot, mYes, eMeth, eTup, eLst, eL, eDict0, eDict1, r_for1, forR_nat, r_forS, r_lc1, lcR_nat, r_lcS, n_non, n_bl, n_int, n_str, n_tup, n_rol, n_ref, b_non, b_bl, b_int, b_str, b_tup, b_rol, b_ref, eSetd, eItems, gmTup, gmCons, gmNil, dKey, eCall, eCallP, eDc, iSeq, wipeE, eUn, eIsi, eAnd, eOr, eNot, R.bind_ok, noX_ok, s_atI, s_atI0, s_atI1, s_atI2, s_atI3, s_atI4, s_atI5, s_add, s_sub, s_lt, s_le, s_gt, s_ge, s_isN, s_isB, s_eq_ii, s_eq_ss, s_eq_in, s_eq_ni, s_eq_nn, s_eq_sn, s_eq_ns, s_eq_bb, s_lenT, s_lenR, s_int, s_listT, s_listR, s_tupT, s_truB, s_truN, s_truI, s_truT, s_oB, s_itT, s_itR, s_inTI, s_inTS, s_isLst, r_in, r_inDi, r_inDs, inL_I, inL_S, r_ix, r_ixT, r_ixR, r_ixLi, r_ixDi, r_ixDs, r_len, r_list, r_tup, r_sort, r_tru, r_tyL, r_tyD, r_append, r_pop, r_extT, r_extR, r_it, ha, hla]
  simp [bodyM, sSeq, s_thenNx, s_thenRt, s_loopNx, s_loopRt, s_loopCt, s_loopBk, sAsg, sRet, sRetN, sDrop, sNil, sPar, sBrk, sCnt, eVar, eC, eOp, gmName, gmSub, eCallB, aCons, aNil, eB, eIf, eTru, mAnd, mOr, mNot, mYes, eMeth, eTup, eLst, eL, eDict0, eDict1, r_for1, forR_nat, r_forS, r_lc1, lcR_nat, r_lcS, n_non, n_bl, n_int, n_str, n_tup, n_rol, n_ref, b_non, b_bl, b_int, b_str, b_tup, b_rol, b_ref, eSetd, eItems, gmTup, gmCons, gmNil, dKey, eCall, eCallP, eDc, iSeq, wipeE, eUn, eIsi, eAnd, eOr, eNot, R.bind_ok, noX_ok, s_atI, s_atI0, s_atI1, s_atI2, s_atI3, s_atI4, s_atI5, s_add, s_sub, s_lt, s_le, s_gt, s_ge, s_isN, s_isB, s_eq_ii, s_eq_ss, s_eq_in, s_eq_ni, s_eq_nn, s_eq_sn, s_eq_ns, s_eq_bb, s_lenT, s_lenR, s_int, s_listT, s_listR, s_tupT, s_truB, s_truN, s_truI, s_truT, s_oB, s_itT, s_itR, s_inTI, s_inTS, s_isLst, r_in, r_inDi, r_inDs, inL_I, inL_S, r_ix, r_ixT, r_ixR, r_ixLi, r_ixDi, r_ixDs, r_len, r_list, r_tup, r_sort, r_tru, r_tyL, r_tyD, r_append, r_pop, r_extT, r_extR, r_it, aboveD, I, q']
theorem napp_run {bs : List End} {l : Nat} {F : List D} {h gb : AH} {x0 x1 x2 x3 x4 x5 x9 : Option D} (hF : F.length < 1000) :
    W2_7_2 [x0, x1, x2, x3, x4, x5, some (.ref h.length), some (I l), some (.ref (h ++ Ob.lst F :: gb).length), x9, none, none, none, none, none, none, none, none] (h ++ Ob.lst F :: gb ++ [Ob.lst ((near bs l).map I)]) =
      .ok (.nx [x0, x1, x2, x3, x4, x5, some (.ref h.length), some (I l), some (.ref (h ++ Ob.lst F :: gb).length), x9, none, none, none, none, none, none, none, none]) (h ++ Ob.lst (F ++ [nD bs l]) :: (gb ++ [Ob.lst ((near bs l).map I), Ob.lst []])) := by
  have hFl : F.length < 16777216 := by omega
  have e1 : (h ++ Ob.lst F :: gb ++ [Ob.lst ((near bs l).map I)] ++ [Ob.lst []])[(h ++ Ob.lst F :: gb).length]? = some (Ob.lst ((near bs l).map I)) := by
    rw [List.append_assoc]; exact get_at _ _ _
  have e2 : (h ++ Ob.lst F :: gb ++ [Ob.lst ((near bs l).map I)] ++ [Ob.lst []])[(h ++ Ob.lst F :: gb ++ [Ob.lst ((near bs l).map I)]).length]? = some (Ob.lst []) := get_at _ _ _
  have e3 : (h ++ Ob.lst F :: gb ++ [Ob.lst ((near bs l).map I)] ++ [Ob.lst []])[h.length]? = some (Ob.lst F) := by
    rw [List.append_assoc, List.append_assoc, List.cons_append]; exact get_at _ _ _
  have e4 : ∀ o, (h ++ Ob.lst F :: gb ++ [Ob.lst ((near bs l).map I)] ++ [Ob.lst []]).set h.length o = h ++ o :: (gb ++ [Ob.lst ((near bs l).map I), Ob.lst []]) := fun o => by
    rw [List.append_assoc, List.append_assoc, List.cons_append, set_at]; rfl
  have e5 : (h ++ Ob.lst F :: gb ++ [Ob.lst ((near bs l).map I)])[h.length]? = some (Ob.lst F) := by
    rw [List.append_assoc, List.cons_append]; exact get_at _ _ _
  have en := eqL_nil e1 e2
  rw [← e4]
  generalize hr : (h ++ Ob.lst F :: gb).length = r at en e1 ⊢
  generalize h ++ Ob.lst F :: gb ++ [Ob.lst ((near bs l).map I)] = H1 at en e1 e2 e3 e4 e5 ⊢
  generalize hH2 : H1 ++ [Ob.lst []] = H2 at en e1 e2 e3 e4 ⊢
  generalize h.length = p at e3 e4 e5 ⊢
  have hty : tyIs .l (.ref p) H2 = true := s_tyL e3
  have hty1 : tyIs .l (.ref p) H1 = true := s_tyL e5
  cases hn : near bs l with
  | nil =>
    have hd : domD bs l = .non := by unfold domD; rw [hn]
    rw [hn] at en e1
    have en' : oEq true (.ref r) (.ref H1.length) H2 = .ok (.bl false) H2 := en
    simp [bodyM, sSeq, s_thenNx, s_thenRt, s_loopNx, s_loopRt, s_loopCt, s_loopBk, sAsg, sRet, sRetN, sDrop, sNil, sPar, sBrk, sCnt, eVar, eC, eOp, gmName, gmSub, eCallB, aCons, aNil, eB, eIf, eTru, mAnd, mOr, mNot, mYes, eMeth, eTup, eLst, eL, eDict0, eDict1, r_for1, forR_nat, r_forS, r_lc1, lcR_nat, r_lcS, n_non, n_bl, n_int, n_str, n_tup, n_rol, n_ref, b_non, b_bl, b_int, b_str, b_tup, b_rol, b_ref, eSetd, eItems, gmTup, gmCons, gmNil, dKey, eCall, eCallP, eDc, iSeq, wipeE, eUn, eIsi, eAnd, eOr, eNot, R.bind_ok, noX_ok, s_atI, s_atI0, s_atI1, s_atI2, s_atI3, s_atI4, s_atI5, s_add, s_sub, s_lt, s_le, s_gt, s_ge, s_isN, s_isB, s_eq_ii, s_eq_ss, s_eq_in, s_eq_ni, s_eq_nn, s_eq_sn, s_eq_ns, s_eq_bb, s_lenT, s_lenR, s_int, s_listT, s_listR, s_tupT, s_truB, s_truN, s_truI, s_truT, s_oB, s_itT, s_itR, s_inTI, s_inTS, s_isLst, r_in, r_inDi, r_inDs, inL_I, inL_S, r_ix, r_ixT, r_ixR, r_ixLi, r_ixDi, r_ixDs, r_len, r_list, r_tup, r_sort, r_tru, r_tyL, r_tyD, r_append, r_pop, r_extT, r_extR, r_it, hty, hty1, e5, hH2, en', e3, hFl, szl, nD, hd]
  | cons x rr =>
    have hd : domD bs l = I x := by unfold domD; rw [hn]
    rw [hn] at en e1
    have en' : oEq true (.ref r) (.ref H1.length) H2 = .ok (.bl true) H2 := en
    simp [bodyM, sSeq, s_thenNx, s_thenRt, s_loopNx, s_loopRt, s_loopCt, s_loopBk, sAsg, sRet, sRetN, sDrop, sNil, sPar, sBrk, sCnt, eVar, eC, eOp, gmName, gmSub, eCallB, aCons, aNil, eB, eIf, eTru, mAnd, mOr, mNot, mYes, eMeth, eTup, eLst, eL, eDict0, eDict1, r_for1, forR_nat, r_forS, r_lc1, lcR_nat, r_lcS, n_non, n_bl, n_int, n_str, n_tup, n_rol, n_ref, b_non, b_bl, b_int, b_str, b_tup, b_rol, b_ref, eSetd, eItems, gmTup, gmCons, gmNil, dKey, eCall, eCallP, eDc, iSeq, wipeE, eUn, eIsi, eAnd, eOr, eNot, R.bind_ok, noX_ok, s_atI, s_atI0, s_atI1, s_atI2, s_atI3, s_atI4, s_atI5, s_add, s_sub, s_lt, s_le, s_gt, s_ge, s_isN, s_isB, s_eq_ii, s_eq_ss, s_eq_in, s_eq_ni, s_eq_nn, s_eq_sn, s_eq_ns, s_eq_bb, s_lenT, s_lenR, s_int, s_listT, s_listR, s_tupT, s_truB, s_truN, s_truI, s_truT, s_oB, s_itT, s_itR, s_inTI, s_inTS, s_isLst, r_in, r_inDi, r_inDs, inL_I, inL_S, r_ix, r_ixT, r_ixR, r_ixLi, r_ixDi, r_ixDs, r_len, r_list, r_tup, r_sort, r_tru, r_tyL, r_tyD, r_append, r_pop, r_extT, r_extR, r_it, hty, hty1, e5, hH2, en', e3, e1, hFl, szl, nD, hd]
end K04

namespace K04
open PySem L2 PM
theorem w7 {bs : List End} (ok : okB bs) {m a : Nat} {h : AH} (hm : h[m]? = some (Ob.lst ((met bs none).map I))) (ha : h[a]? = some (Ob.lst (aboveL bs))) {x0 x1 x2 x3 x7 x8 x9 : Option D} :
    ∃ g x7' x8', W2_7 [x0, x1, x2, x3, some (.ref m), some (.ref a), some (.ref h.length), x7, x8, x9, none, none, none, none, none, none, none, none] (h ++ [Ob.lst []]) = .ok (.nx [x0, x1, x2, x3, some (.ref m), some (.ref a), some (.ref h.length), x7', x8', x9, none, none, none, none, none, none, none, none]) (h ++ Ob.lst ((met bs none).map (nD bs)) :: g) := by
  have hlm := met_len ok none
  obtain ⟨env', h', q, x7', x8', gb, e1, e2⟩ := for_run (xs := met bs none) (F := I) (g := gmName 7) (b := W2_7_b) (chk := fun h' => isLst ((met bs none).map I) h'[m]?)
    (fun i env h' => ∃ x7 x8 gb, env = [x0, x1, x2, x3, some (.ref m), some (.ref a), some (.ref h.length), x7, x8, x9, none, none, none, none, none, none, none, none] ∧ h' = h ++ Ob.lst (((met bs none).take i).map (nD bs)) :: gb)
    (fun i env h' _ ⟨x7, x8, gb, _, e2⟩ => by subst e2; rw [get_app hm]; exact s_isLst)
    (fun i l hi env h' ⟨x7, x8, gb, e1, e2⟩ => by
      subst e1 e2
      have hl : l ∈ met bs none := List.mem_of_getElem? hi
      have q1 := near_run ok (hh := h ++ Ob.lst (((met bs none).take i).map (nD bs)) :: gb) (get_app ha) hl (x0 := x0) (x1 := x1) (x2 := x2) (x3 := x3) (x4 := some (.ref m)) (x6 := some (.ref h.length)) (x8 := x8) (x9 := x9)
      have q2 := napp_run (bs := bs) (l := l) (F := ((met bs none).take i).map (nD bs)) (h := h) (gb := gb) (x0 := x0) (x1 := x1) (x2 := x2) (x3 := x3) (x4 := some (.ref m)) (x5 := some (.ref a)) (x9 := x9) (by rw [List.length_map, List.length_take]; omega)
      have q3 := congrArg (fun z => z.bind (thenS W2_7_2)) q1
      have q3' : W2_7_b [x0, x1, x2, x3, some (.ref m), some (.ref a), some (.ref h.length), some (I l), x8, x9, none, none, none, none, none, none, none, none] (h ++ Ob.lst (((met bs none).take i).map (nD bs)) :: gb) = _ := q3.trans q2
      rw [← show ((met bs none).take (i + 1)).map (nD bs) = ((met bs none).take i).map (nD bs) ++ [nD bs l] by rw [take_succ' hi]; simp] at q3'
      exact ⟨_, _, _, _, rfl, q3', some (I l), some (.ref (h ++ Ob.lst (((met bs none).take i).map (nD bs)) :: gb).length), gb ++ [Ob.lst ((near bs l).map I), Ob.lst []], rfl, rfl⟩)
    (env := [x0, x1, x2, x3, some (.ref m), some (.ref a), some (.ref h.length), x7, x8, x9, none, none, none, none, none, none, none, none]) (h := h ++ [Ob.lst []]) ⟨x7, x8, [], rfl, rfl⟩
  subst e1 e2
  refine ⟨gb, x7', x8', ?_⟩
  rw [List.take_length] at q
  rw [← q]
  have hm' : ∀ g, (h ++ g)[m]? = some (Ob.lst ((met bs none).map I)) := fun g => get_app hm
  unfold W2_7
  generalize W2_7_b = Bd
  simp [bodyM, sSeq, s_thenNx, s_thenRt, s_loopNx, s_loopRt, s_loopCt, s_loopBk, sAsg, sRet, sRetN, sDrop, sNil, sPar, sBrk, sCnt, eVar, eC, eOp, gmName, gmSub, eCallB, aCons, aNil, eB, eIf, eTru, mAnd, mOr, mNot, mYes, eMeth, eTup, eLst, eL, eDict0, eDict1, r_for1, forR_nat, r_forS, r_lc1, lcR_nat, r_lcS, n_non, n_bl, n_int, n_str, n_tup, n_rol, n_ref, b_non, b_bl, b_int, b_str, b_tup, b_rol, b_ref, eSetd, eItems, gmTup, gmCons, gmNil, dKey, eCall, eCallP, eDc, iSeq, wipeE, eUn, eIsi, eAnd, eOr, eNot, R.bind_ok, noX_ok, s_atI, s_atI0, s_atI1, s_atI2, s_atI3, s_atI4, s_atI5, s_add, s_sub, s_lt, s_le, s_gt, s_ge, s_isN, s_isB, s_eq_ii, s_eq_ss, s_eq_in, s_eq_ni, s_eq_nn, s_eq_sn, s_eq_ns, s_eq_bb, s_lenT, s_lenR, s_int, s_listT, s_listR, s_tupT, s_truB, s_truN, s_truI, s_truT, s_oB, s_itT, s_itR, s_inTI, s_inTS, s_isLst, r_in, r_inDi, r_inDs, inL_I, inL_S, r_ix, r_ixT, r_ixR, r_ixLi, r_ixDi, r_ixDs, r_len, r_list, r_tup, r_sort, r_tru, r_tyL, r_tyD, r_append, r_pop, r_extT, r_extR, r_it, hm']
theorem w8 {bs : List End} (ok : okB bs) {a n : Nat} {h : AH} (ha : h[a]? = some (Ob.lst (aboveL bs))) (hn : h[n]? = some (Ob.lst ((met bs none).map (nD bs)))) {x0 x1 x2 x4 x7 x8 x9 : Option D} :
    ∃ g, W2_8 [x0, x1, x2, some (B bs), x4, some (.ref a), some (.ref n), x7, x8, x9, none, none, none, none, none, none, none, none] h = .ok (.nx [x0, x1, x2, some (B bs), x4, some (.ref a), some (.ref n), x7, x8, x9, none, none, none, none, none, none, none, none]) (h ++ g) := by
  have hlm := met_len ok none
  have h9 := ok.2.1
  have nice : ∀ x ∈ (met bs none).map (nD bs), Nice 7 x := fun x hx => by
    obtain ⟨n, hn, rfl⟩ := List.mem_map.mp hx
    have h1 := (met_ok ok none).2 n hn
    exact nice_pair (by omega) (nice_dom ok n 5)
  have nice2 : Nice 8 (.tup ((heads bs).map (loopD bs))) := nice_tup (fun x hx => by
    obtain ⟨hd, hh, rfl⟩ := List.mem_map.mp hx
    have h1 : hd < bs.length := (met_ok ok none).2 hd (List.mem_filter.mp hh).1
    refine nice_pair (by omega) (nice_tup (k := 5) (fun y hy => ?_) ?_)
    · obtain ⟨z, hz, rfl⟩ := List.mem_map.mp hy
      have := (itR_ok ok h1 bs.length).2 z ((srtN_mem _ _).mp hz)
      exact nice_I (by omega)
    · have h2 := (itR_ok ok h1 bs.length).len
      have h3 : (inn bs hd).length = (itR bs hd bs.length).length := (srtN_perm _).length_eq
      rw [List.length_map]; omega) (by
    have : (heads bs).length ≤ (met bs none).length := List.length_filter_le _ _
    rw [List.length_map]; omega)
  obtain ⟨g, q⟩ := lawLoops_run ok (h := h ++ [.dic false (dN (domD bs) (met bs none)), .lst ((met bs none).map (nD bs))]) (a := a) (get_app ha)
  have hs1 := same_l (k := 7) (m := h.length + 1) (n := n) (xs := (met bs none).map (nD bs)) (h := h ++ [.dic false (dN (domD bs) (met bs none)), .lst ((met bs none).map (nD bs))])
    (by simp) (get_app hn) nice (by simp; omega)
  have hs2 := fun h => same_n (h := h) nice2
  refine ⟨[.dic false (dN (domD bs) (met bs none)), .lst ((met bs none).map (nD bs))] ++ g, ?_⟩
  simp only [List.append_assoc] at q
  simp [bodyM, sSeq, s_thenNx, s_thenRt, s_loopNx, s_loopRt, s_loopCt, s_loopBk, sAsg, sRet, sRetN, sDrop, sNil, sPar, sBrk, sCnt, eVar, eC, eOp, gmName, gmSub, eCallB, aCons, aNil, eB, eIf, eTru, mAnd, mOr, mNot, mYes, eMeth, eTup, eLst, eL, eDict0, eDict1, r_for1, forR_nat, r_forS, r_lc1, lcR_nat, r_lcS, n_non, n_bl, n_int, n_str, n_tup, n_rol, n_ref, b_non, b_bl, b_int, b_str, b_tup, b_rol, b_ref, eSetd, eItems, gmTup, gmCons, gmNil, dKey, eCall, eCallP, eDc, iSeq, wipeE, eUn, eIsi, eAnd, eOr, eNot, R.bind_ok, noX_ok, s_atI, s_atI0, s_atI1, s_atI2, s_atI3, s_atI4, s_atI5, s_add, s_sub, s_lt, s_le, s_gt, s_ge, s_isN, s_isB, s_eq_ii, s_eq_ss, s_eq_in, s_eq_ni, s_eq_nn, s_eq_sn, s_eq_ns, s_eq_bb, s_lenT, s_lenR, s_int, s_listT, s_listR, s_tupT, s_truB, s_truN, s_truI, s_truT, s_oB, s_itT, s_itR, s_inTI, s_inTS, s_isLst, r_in, r_inDi, r_inDs, inL_I, inL_S, r_ix, r_ixT, r_ixR, r_ixLi, r_ixDi, r_ixDs, r_len, r_list, r_tup, r_sort, r_tru, r_tyL, r_tyD, r_append, r_pop, r_extT, r_extR, r_it, run_dom ok, run_loops ok, items_n, hs1]
  simp at q
  simp [bodyM, sSeq, s_thenNx, s_thenRt, s_loopNx, s_loopRt, s_loopCt, s_loopBk, sAsg, sRet, sRetN, sDrop, sNil, sPar, sBrk, sCnt, eVar, eC, eOp, gmName, gmSub, eCallB, aCons, aNil, eB, eIf, eTru, mAnd, mOr, mNot, mYes, eMeth, eTup, eLst, eL, eDict0, eDict1, r_for1, forR_nat, r_forS, r_lc1, lcR_nat, r_lcS, n_non, n_bl, n_int, n_str, n_tup, n_rol, n_ref, b_non, b_bl, b_int, b_str, b_tup, b_rol, b_ref, eSetd, eItems, gmTup, gmCons, gmNil, dKey, eCall, eCallP, eDc, iSeq, wipeE, eUn, eIsi, eAnd, eOr, eNot, R.bind_ok, noX_ok, s_atI, s_atI0, s_atI1, s_atI2, s_atI3, s_atI4, s_atI5, s_add, s_sub, s_lt, s_le, s_gt, s_ge, s_isN, s_isB, s_eq_ii, s_eq_ss, s_eq_in, s_eq_ni, s_eq_nn, s_eq_sn, s_eq_ns, s_eq_bb, s_lenT, s_lenR, s_int, s_listT, s_listR, s_tupT, s_truB, s_truN, s_truI, s_truT, s_oB, s_itT, s_itR, s_inTI, s_inTS, s_isLst, r_in, r_inDi, r_inDs, inL_I, inL_S, r_ix, r_ixT, r_ixR, r_ixLi, r_ixDi, r_ixDs, r_len, r_list, r_tup, r_sort, r_tru, r_tyL, r_tyD, r_append, r_pop, r_extT, r_extR, r_it, q, hs2]
/-! ### due -/
def prs (bs : List End) (L : List Nat) : List (Nat × Nat) := L.flatMap fun l => (waysAt bs l).map fun o => (l, o)
theorem prs_len (bs : List End) : ∀ L : List Nat, (prs bs L).length ≤ 2 * L.length
  | [] => by simp [prs]
  | l :: L => by
    have h1 := prs_len bs L
    have h2 := waysAt_len bs l
    have e : prs bs (l :: L) = ((waysAt bs l).map fun o => (l, o)) ++ prs bs L := rfl
    rw [e, List.length_append, List.length_map, List.length_cons]; omega
theorem prs_app (bs : List End) (L : List Nat) (l : Nat) : prs bs (L ++ [l]) = prs bs L ++ (waysAt bs l).map fun o => (l, o) := by
  unfold prs; rw [List.flatMap_append]; simp
abbrev dueB : SM := sAsg (eOp oAdd (eVar 9) (eL (lComp (iSeq (eCallP (aCons (eOp oIx (eVar 3) (eVar 7)) (aNil)) mLawWays)) [17] (gmName 17) (mYes) (eTup (aCons (eVar 7) (aCons (eVar 17) (aNil))))))) (gmName 9)
theorem dueB_run {bs : List End} {l r : Nat} (hl : l < bs.length) {ps : List (Nat × Nat)} {hh : AH} (hr : hh[r]? = some (Ob.lst (ps.map pr))) (hp : ps.length < 1000) {x0 x1 x2 x4 x5 x6 x8 : Option D} :
    ∃ g, dueB [x0, x1, x2, some (B bs), x4, x5, x6, some (I l), x8, some (.ref r), none, none, none, none, none, none, none, none] hh = .ok (.nx [x0, x1, x2, some (B bs), x4, x5, x6, some (I l), x8, some (.ref (hh ++ g).length), none, none, none, none, none, none, none, none]) (hh ++ g ++ [Ob.lst ((ps ++ (waysAt bs l).map fun o => (l, o)).map pr)]) := by
  obtain ⟨e, he⟩ := blk_at hl
  have hw := ways_len e
  have q := lc_pure (xs := ways e) (F := I) (G := fun o => pr (l, o)) (p := fun _ => true) (env0 := [x0, x1, x2, some (B bs), x4, x5, x6, some (I l), x8, some (.ref r), none, none, none, none, none, none, none, none]) (g := gmName 17) (t := mYes) (e := eTup (aCons (eVar 7) (aCons (eVar 17) (aNil))))
    (chk := fun h' => isLst ((ways e).map I) h'[hh.length]?) (h := hh ++ [Ob.lst ((ways e).map I)]) (fun y => [x0, x1, x2, some (B bs), x4, x5, x6, some (I l), x8, some (.ref r), none, none, none, none, none, none, none, some (I y)])
    (by rw [get_at _ _ []]; exact s_isLst) (fun y _ => by simp [gmName]) (fun y _ => rfl) (fun y hy _ => by simp [bodyM, sSeq, s_thenNx, s_thenRt, s_loopNx, s_loopRt, s_loopCt, s_loopBk, sAsg, sRet, sRetN, sDrop, sNil, sPar, sBrk, sCnt, eVar, eC, eOp, gmName, gmSub, eCallB, aCons, aNil, eB, eIf, eTru, mAnd, mOr, mNot, mYes, eMeth, eTup, eLst, eL, eDict0, eDict1, r_for1, forR_nat, r_forS, r_lc1, lcR_nat, r_lcS, n_non, n_bl, n_int, n_str, n_tup, n_rol, n_ref, b_non, b_bl, b_int, b_str, b_tup, b_rol, b_ref, eSetd, eItems, gmTup, gmCons, gmNil, dKey, eCall, eCallP, eDc, iSeq, wipeE, eUn, eIsi, eAnd, eOr, eNot, R.bind_ok, noX_ok, s_atI, s_atI0, s_atI1, s_atI2, s_atI3, s_atI4, s_atI5, s_add, s_sub, s_lt, s_le, s_gt, s_ge, s_isN, s_isB, s_eq_ii, s_eq_ss, s_eq_in, s_eq_ni, s_eq_nn, s_eq_sn, s_eq_ns, s_eq_bb, s_lenT, s_lenR, s_int, s_listT, s_listR, s_tupT, s_truB, s_truN, s_truI, s_truT, s_oB, s_itT, s_itR, s_inTI, s_inTS, s_isLst, r_in, r_inDi, r_inDs, inL_I, inL_S, r_ix, r_ixT, r_ixR, r_ixLi, r_ixDi, r_ixDs, r_len, r_list, r_tup, r_sort, r_tru, r_tyL, r_tyD, r_append, r_pop, r_extT, r_extR, r_it, I, pr, szl]) (by omega)
  rw [ft] at q
  have hix := ixB (h := hh) he
  rw [waysAt_of he]
  refine ⟨[Ob.lst ((ways e).map I), Ob.lst ((ways e).map fun o => pr (l, o))], ?_⟩
  have ad := s_addL (h := hh ++ [Ob.lst ((ways e).map I), Ob.lst ((ways e).map fun o => pr (l, o))]) (m := r) (n := hh.length + 1) (xs := ps.map pr) (ys := (ways e).map fun o => pr (l, o)) (get_app hr) (by simp) (by simp only [List.length_map]; rw [szl]; omega)
  unfold dueB
  generalize eTup (aCons (eVar 7) (aCons (eVar 17) (aNil))) = Ed at q ⊢
  generalize (mYes : TM) = Yd at q ⊢
  simp only [I] at q hix ⊢
  simp [bodyM, sSeq, s_thenNx, s_thenRt, s_loopNx, s_loopRt, s_loopCt, s_loopBk, sAsg, sRet, sRetN, sDrop, sNil, sPar, sBrk, sCnt, eVar, eC, eOp, gmName, gmSub, eCallB, aCons, aNil, eB, eIf, eTru, mAnd, mOr, mNot, mYes, eMeth, eTup, eLst, eL, eDict0, eDict1, r_for1, forR_nat, r_forS, r_lc1, lcR_nat, r_lcS, n_non, n_bl, n_int, n_str, n_tup, n_rol, n_ref, b_non, b_bl, b_int, b_str, b_tup, b_rol, b_ref, eSetd, eItems, gmTup, gmCons, gmNil, dKey, eCall, eCallP, eDc, iSeq, wipeE, eUn, eIsi, eAnd, eOr, eNot, R.bind_ok, noX_ok, s_atI, s_atI0, s_atI1, s_atI2, s_atI3, s_atI4, s_atI5, s_add, s_sub, s_lt, s_le, s_gt, s_ge, s_isN, s_isB, s_eq_ii, s_eq_ss, s_eq_in, s_eq_ni, s_eq_nn, s_eq_sn, s_eq_ns, s_eq_bb, s_lenT, s_lenR, s_int, s_listT, s_listR, s_tupT, s_truB, s_truN, s_truI, s_truT, s_oB, s_itT, s_itR, s_inTI, s_inTS, s_isLst, r_in, r_inDi, r_inDs, inL_I, inL_S, r_ix, r_ixT, r_ixR, r_ixLi, r_ixDi, r_ixDs, r_len, r_list, r_tup, r_sort, r_tru, r_tyL, r_tyD, r_append, r_pop, r_extT, r_extR, r_it, hix, runLawWays, q]
  rw [ad, R.bind_ok]
  simp [Function.comp_def]
theorem w10 {bs : List End} (ok : okB bs) {m r : Nat} {h : AH} (hm : h[m]? = some (Ob.lst ((met bs none).map I))) (hr : h[r]? = some (Ob.lst [])) {x0 x1 x2 x5 x6 x7 x8 : Option D} :
    ∃ g x7' r', W2_10 [x0, x1, x2, some (B bs), some (.ref m), x5, x6, x7, x8, some (.ref r), none, none, none, none, none, none, none, none] h = .ok (.nx [x0, x1, x2, some (B bs), some (.ref m), x5, x6, x7', x8, some (.ref r'), none, none, none, none, none, none, none, none]) (h ++ g) ∧ (h ++ g)[r']? = some (Ob.lst ((pairs bs).map pr)) := by
  have hlm := met_len ok none
  obtain ⟨env', h', q, x7', r', gb, e1, e2, e3⟩ := for_run (xs := met bs none) (F := I) (g := gmName 7) (b := dueB) (chk := fun h' => isLst ((met bs none).map I) h'[m]?)
    (fun i env h' => ∃ x7 r gb, env = [x0, x1, x2, some (B bs), some (.ref m), x5, x6, x7, x8, some (.ref r), none, none, none, none, none, none, none, none] ∧ h' = h ++ gb ∧ (h ++ gb)[r]? = some (Ob.lst ((prs bs ((met bs none).take i)).map pr)))
    (fun i env h' _ ⟨x7, r, gb, _, e2, _⟩ => by subst e2; rw [get_app hm]; exact s_isLst)
    (fun i l hi env h' ⟨x7, r, gb, e1, e2, e3⟩ => by
      subst e1 e2
      have hl : l < bs.length := (met_ok ok none).2 l (List.mem_of_getElem? hi)
      have hpl := prs_len bs ((met bs none).take i)
      rw [List.length_take] at hpl
      obtain ⟨g, q⟩ := dueB_run hl e3 (by omega) (x0 := x0) (x1 := x1) (x2 := x2) (x4 := some (.ref m)) (x5 := x5) (x6 := x6) (x8 := x8)
      refine ⟨_, _, _, _, rfl, q, some (I l), (h ++ gb ++ g).length, gb ++ g ++ [Ob.lst ((prs bs ((met bs none).take i) ++ (waysAt bs l).map fun o => (l, o)).map pr)], rfl, by simp, ?_⟩
      rw [take_succ' hi, prs_app, ← List.append_assoc, ← List.append_assoc]
      exact get_at _ _ [])
    (env := [x0, x1, x2, some (B bs), some (.ref m), x5, x6, x7, x8, some (.ref r), none, none, none, none, none, none, none, none]) (h := h) ⟨x7, r, [], rfl, by simp, by simpa [prs] using hr⟩
  subst e1 e2
  rw [List.take_length] at e3
  refine ⟨gb, x7', r', ?_, e3⟩
  rw [← q]
  show sFor (iSeq (eVar 4)) (gmName 7) dueB _ _ = _
  generalize dueB = Bd
  simp [bodyM, sSeq, s_thenNx, s_thenRt, s_loopNx, s_loopRt, s_loopCt, s_loopBk, sAsg, sRet, sRetN, sDrop, sNil, sPar, sBrk, sCnt, eVar, eC, eOp, gmName, gmSub, eCallB, aCons, aNil, eB, eIf, eTru, mAnd, mOr, mNot, mYes, eMeth, eTup, eLst, eL, eDict0, eDict1, r_for1, forR_nat, r_forS, r_lc1, lcR_nat, r_lcS, n_non, n_bl, n_int, n_str, n_tup, n_rol, n_ref, b_non, b_bl, b_int, b_str, b_tup, b_rol, b_ref, eSetd, eItems, gmTup, gmCons, gmNil, dKey, eCall, eCallP, eDc, iSeq, wipeE, eUn, eIsi, eAnd, eOr, eNot, R.bind_ok, noX_ok, s_atI, s_atI0, s_atI1, s_atI2, s_atI3, s_atI4, s_atI5, s_add, s_sub, s_lt, s_le, s_gt, s_ge, s_isN, s_isB, s_eq_ii, s_eq_ss, s_eq_in, s_eq_ni, s_eq_nn, s_eq_sn, s_eq_ns, s_eq_bb, s_lenT, s_lenR, s_int, s_listT, s_listR, s_tupT, s_truB, s_truN, s_truI, s_truT, s_oB, s_itT, s_itR, s_inTI, s_inTS, s_isLst, r_in, r_inDi, r_inDs, inL_I, inL_S, r_ix, r_ixT, r_ixR, r_ixLi, r_ixDi, r_ixDs, r_len, r_list, r_tup, r_sort, r_tru, r_tyL, r_tyD, r_append, r_pop, r_extT, r_extR, r_it, hm]
/-! ### each pair once -/
def fstK (ps : List (Nat × Nat)) (k : Nat) : Bool := decide (ps.getD k (0, 0) ∉ ps.take k)
theorem dedup : ∀ (n : Nat) (ps : List (Nat × Nat)), ps.length = n → ((List.range ps.length).filter (fstK ps)).map (fun k => ps.getD k (0, 0)) = ps.foldl addP []
  | 0, ps, h => by rw [List.eq_nil_of_length_eq_zero h]; rfl
  | n + 1, ps, h => by
    rcases List.eq_nil_or_concat ps with rfl | ⟨qs, p, rfl⟩
    · cases h
    · rw [List.concat_eq_append] at *
      have hq : qs.length = n := by simpa using h
      have ih := dedup n qs hq
      rw [List.length_append, List.length_singleton, List.range_succ, List.filter_append, List.map_append, List.foldl_append, ← ih]
      have e1 : (List.range qs.length).filter (fstK (qs ++ [p])) = (List.range qs.length).filter (fstK qs) := List.filter_congr fun k hk => by
        have hk' : k < qs.length := List.mem_range.mp hk
        unfold fstK
        rw [List.getD_eq_getElem?_getD, List.getD_eq_getElem?_getD, List.getElem?_append_left hk', List.take_append_of_le_length (by omega)]
      have e2 : ((List.range qs.length).filter (fstK qs)).map (fun k => (qs ++ [p]).getD k (0, 0)) = ((List.range qs.length).filter (fstK qs)).map (fun k => qs.getD k (0, 0)) := List.map_congr_left fun k hk => by
        have hk' : k < qs.length := List.mem_range.mp (List.mem_filter.mp hk).1
        show (qs ++ [p]).getD k (0, 0) = qs.getD k (0, 0)
        rw [List.getD_eq_getElem?_getD, List.getD_eq_getElem?_getD, List.getElem?_append_left hk']
      rw [e1, e2, ih]
      have hm : ∀ x, x ∈ qs.foldl addP [] ↔ x ∈ qs := fun x => by
        rw [fold_mem (N := fun x y => y = x) (fun x _ s y => by unfold addP; split <;> simp_all)]
        simp
      have e3 : (qs ++ [p]).getD qs.length (0, 0) = p := by simp
      have e4 : (qs ++ [p]).take qs.length = qs := by simp
      show _ = addP (qs.foldl addP []) p
      generalize qs.foldl addP [] = R at hm ⊢
      unfold addP
      by_cases hp : p ∈ qs
      · rw [if_pos ((hm p).mpr hp), List.filter_cons_of_neg (by unfold fstK; rw [e3, e4]; simpa using hp)]
        simp
      · rw [if_neg (fun z => hp ((hm p).mp z)), List.filter_cons_of_pos (by unfold fstK; rw [e3, e4]; simpa using hp)]
        simp
/-! ### the last test -/
theorem cut_take {α : Type} {xs : List α} {k : Nat} (h : k ≤ xs.length) : cutD xs none (some (k : Int)) = xs.take k := by
  unfold cutD
  rw [HT.sIx_none, HT.sIx_nat, Nat.min_eq_left h]
  rfl
theorem nice_pr {bs : List End} (ok : okB bs) {p : Nat × Nat} (hp : p ∈ arr bs) (k : Nat) : Nice (k + 2) (pr p) := by
  obtain ⟨h1, h2⟩ := (arr_mem bs p).mp hp
  have h3 := (met_ok ok none).2 p.1 h1
  have h4 := waysAt_lt ok h2
  have h9 := ok.2.1
  exact nice_pair (by omega) (nice_I (by omega))
theorem w11c {bs : List End} (hpl : (pairs bs).length ≤ 18) {r : Nat} {h : AH} (hr : h[r]? = some (Ob.lst ((pairs bs).map pr))) {x0 x1 x2 x3 x4 x5 x6 x7 x8 : Option D} :
    ∃ g, lcM [x0, x1, x2, x3, x4, x5, x6, x7, x8, some (.ref r), none, none, none, none, none, none, none, none] (gmName 15) (eB (eOp (oIn true) (eOp oIx (eVar 9) (eVar 15)) (eSl (eVar 9) (oNone) (oSome (eVar 15))))) (eOp oIx (eVar 9) (eVar 15)) (fun _ => true) ((List.range (pairs bs).length).map fun i : Nat => D.int ((i : Nat) : Int)) [] h =
      .ok ((arr bs).map pr) (h ++ g) := by
  obtain ⟨h', q, g, e⟩ := lc_run (xs := List.range (pairs bs).length) (F := fun i : Nat => D.int ((i : Nat) : Int)) (G := fun k => pr ((pairs bs).getD k (0, 0))) (p := fstK (pairs bs)) (env0 := [x0, x1, x2, x3, x4, x5, x6, x7, x8, some (.ref r), none, none, none, none, none, none, none, none]) (g := gmName 15)
    (t := eB (eOp (oIn true) (eOp oIx (eVar 9) (eVar 15)) (eSl (eVar 9) (oNone) (oSome (eVar 15))))) (e := eOp oIx (eVar 9) (eVar 15)) (chk := fun _ => true) (fun h' => ∃ g, h' = h ++ g) (fun _ _ => rfl)
    (fun k hk h' ⟨g, e⟩ => by
      subst e
      have hk' : k < (pairs bs).length := List.mem_range.mp hk
      have hr' : ∀ g, (h ++ g)[r]? = some (Ob.lst ((pairs bs).map pr)) := fun g => get_app hr
      have hix : ((pairs bs).map pr)[k]? = some (pr ((pairs bs).getD k (0, 0))) := by simp [hk']
      have hsl : oSl (.ref r) none (some (k : Int)) (h ++ g) = .ok (.ref (h ++ g).length) (h ++ (g ++ [Ob.lst (((pairs bs).take k).map pr)])) := by
        unfold oSl
        simp only [hr' g]
        rw [cut_take (by rw [List.length_map]; omega), List.map_take, List.append_assoc]
      have hlast : (h ++ (g ++ [Ob.lst (((pairs bs).take k).map pr)]))[(h ++ g).length]? = some (Ob.lst (((pairs bs).take k).map pr)) := by
        rw [← List.append_assoc]; exact get_at _ _ []
      have hin := fun h => inL_P (neg := true) (p := (pairs bs).getD k (0, 0)) (ps := (pairs bs).take k) (h := h)
      have hf : fstK (pairs bs) k = decide ((pairs bs).getD k (0, 0) ∉ (pairs bs).take k) := rfl
      generalize (pairs bs).getD k (0, 0) = pk at *
      refine ⟨[x0, x1, x2, x3, x4, x5, x6, x7, x8, some (.ref r), none, none, none, none, none, some (.int (k : Int)), none, none], h ++ g, h ++ (g ++ [Ob.lst (((pairs bs).take k).map pr)]), rfl, ?_, fun _ => ⟨_, rfl⟩, fun _ => ⟨h ++ (g ++ [Ob.lst (((pairs bs).take k).map pr)]), ?_, g ++ [Ob.lst (((pairs bs).take k).map pr)], rfl⟩⟩
      · rw [hf]
        generalize (pairs bs).take k = tk at *
        generalize h ++ (g ++ [Ob.lst (tk.map pr)]) = H2 at *
        generalize hh : h ++ g = H1 at *
        have hr1 : H1[r]? = some (Ob.lst ((pairs bs).map pr)) := by rw [← hh]; exact hr' g
        simp [bodyM, sSeq, s_thenNx, s_thenRt, s_loopNx, s_loopRt, s_loopCt, s_loopBk, sAsg, sRet, sRetN, sDrop, sNil, sPar, sBrk, sCnt, eVar, eC, eOp, gmName, gmSub, eCallB, aCons, aNil, eB, eIf, eTru, mAnd, mOr, mNot, mYes, eMeth, eTup, eLst, eL, eDict0, eDict1, r_for1, forR_nat, r_forS, r_lc1, lcR_nat, r_lcS, n_non, n_bl, n_int, n_str, n_tup, n_rol, n_ref, b_non, b_bl, b_int, b_str, b_tup, b_rol, b_ref, eSetd, eItems, gmTup, gmCons, gmNil, dKey, eCall, eCallP, eDc, iSeq, wipeE, eUn, eIsi, eAnd, eOr, eNot, R.bind_ok, noX_ok, s_atI, s_atI0, s_atI1, s_atI2, s_atI3, s_atI4, s_atI5, s_add, s_sub, s_lt, s_le, s_gt, s_ge, s_isN, s_isB, s_eq_ii, s_eq_ss, s_eq_in, s_eq_ni, s_eq_nn, s_eq_sn, s_eq_ns, s_eq_bb, s_lenT, s_lenR, s_int, s_listT, s_listR, s_tupT, s_truB, s_truN, s_truI, s_truT, s_oB, s_itT, s_itR, s_inTI, s_inTS, s_isLst, r_in, r_inDi, r_inDs, inL_I, inL_S, r_ix, r_ixT, r_ixR, r_ixLi, r_ixDi, r_ixDs, r_len, r_list, r_tup, r_sort, r_tru, r_tyL, r_tyD, r_append, r_pop, r_extT, r_extR, r_it, eSl, oNone, oSome, hr1, hix, hsl, hlast]
        simp only [pr, I]
        simp [hin, s_oB]
      · simp [bodyM, sSeq, s_thenNx, s_thenRt, s_loopNx, s_loopRt, s_loopCt, s_loopBk, sAsg, sRet, sRetN, sDrop, sNil, sPar, sBrk, sCnt, eVar, eC, eOp, gmName, gmSub, eCallB, aCons, aNil, eB, eIf, eTru, mAnd, mOr, mNot, mYes, eMeth, eTup, eLst, eL, eDict0, eDict1, r_for1, forR_nat, r_forS, r_lc1, lcR_nat, r_lcS, n_non, n_bl, n_int, n_str, n_tup, n_rol, n_ref, b_non, b_bl, b_int, b_str, b_tup, b_rol, b_ref, eSetd, eItems, gmTup, gmCons, gmNil, dKey, eCall, eCallP, eDc, iSeq, wipeE, eUn, eIsi, eAnd, eOr, eNot, R.bind_ok, noX_ok, s_atI, s_atI0, s_atI1, s_atI2, s_atI3, s_atI4, s_atI5, s_add, s_sub, s_lt, s_le, s_gt, s_ge, s_isN, s_isB, s_eq_ii, s_eq_ss, s_eq_in, s_eq_ni, s_eq_nn, s_eq_sn, s_eq_ns, s_eq_bb, s_lenT, s_lenR, s_int, s_listT, s_listR, s_tupT, s_truB, s_truN, s_truI, s_truT, s_oB, s_itT, s_itR, s_inTI, s_inTS, s_isLst, r_in, r_inDi, r_inDs, inL_I, inL_S, r_ix, r_ixT, r_ixR, r_ixLi, r_ixDi, r_ixDs, r_len, r_list, r_tup, r_sort, r_tru, r_tyL, r_tyD, r_append, r_pop, r_extT, r_extR, r_it, hr', hix])
    [] h ⟨[], by simp⟩ (by simp; omega)
  subst e
  refine ⟨g, ?_⟩
  have e : ((List.range (pairs bs).length).filter (fstK (pairs bs))).map (fun k => pr ((pairs bs).getD k (0, 0))) = (arr bs).map pr := by
    unfold arr
    rw [← dedup _ (pairs bs) rfl, List.map_map]
    rfl
  rw [q, List.nil_append, e]
theorem w11 {bs : List End} (ok : okB bs) {r : Nat} {h : AH} (hr : h[r]? = some (Ob.lst ((pairs bs).map pr))) {x0 x1 x2 x4 x5 x6 x7 x8 : Option D} :
    ∃ g, W2_11 [x0, x1, x2, some (B bs), x4, x5, x6, x7, x8, some (.ref r), none, none, none, none, none, none, none, none] h = .ok (.nx [x0, x1, x2, some (B bs), x4, x5, x6, x7, x8, some (.ref r), none, none, none, none, none, none, none, none]) (h ++ g) := by
  have hlm := met_len ok none
  have hpl : (pairs bs).length ≤ 18 := by have := prs_len bs (met bs none); have e : prs bs (met bs none) = pairs bs := rfl; rw [e] at this; omega
  have sm : SmN (pairs bs).length := by unfold SmN; omega
  have hal : (arr bs).length ≤ 18 := by have := foldP_len (pairs bs) []; unfold arr; simp only [List.length_nil] at this; omega
  obtain ⟨g, q⟩ := w11c hpl (h := h ++ [Ob.lst ((arr bs).map pr)]) (get_app hr) (x0 := x0) (x1 := x1) (x2 := x2) (x3 := some (B bs)) (x4 := x4) (x5 := x5) (x6 := x6) (x7 := x7) (x8 := x8)
  have hs := same_l (k := 7) (m := h.length) (n := (h ++ [Ob.lst ((arr bs).map pr)] ++ g).length) (xs := (arr bs).map pr) (h := h ++ [Ob.lst ((arr bs).map pr)] ++ g ++ [Ob.lst ((arr bs).map pr)])
    (by rw [List.append_assoc, List.append_assoc]; exact get_at _ _ _) (get_at _ _ []) (fun x hx => by
      obtain ⟨p, hp, rfl⟩ := List.mem_map.mp hx
      exact nice_pr ok hp 5) (by rw [List.length_map]; omega)
  have hr' : ∀ g, (h ++ g)[r]? = some (Ob.lst ((pairs bs).map pr)) := fun g => get_app hr
  refine ⟨[Ob.lst ((arr bs).map pr)] ++ g ++ [Ob.lst ((arr bs).map pr)], ?_⟩
  unfold W2_11
  generalize eB (eOp (oIn true) (eOp oIx (eVar 9) (eVar 15)) (eSl (eVar 9) (oNone) (oSome (eVar 15)))) = Td at q ⊢
  generalize hE : eOp oIx (eVar 9) (eVar 15) = Ed at q ⊢
  simp at q
  simp [bodyM, sSeq, s_thenNx, s_thenRt, s_loopNx, s_loopRt, s_loopCt, s_loopBk, sAsg, sRet, sRetN, sDrop, sNil, sPar, sBrk, sCnt, eVar, eC, eOp, gmName, gmSub, eCallB, aCons, aNil, eB, eIf, eTru, mAnd, mOr, mNot, mYes, eMeth, eTup, eLst, eL, eDict0, eDict1, r_for1, forR_nat, r_forS, r_lc1, lcR_nat, r_lcS, n_non, n_bl, n_int, n_str, n_tup, n_rol, n_ref, b_non, b_bl, b_int, b_str, b_tup, b_rol, b_ref, eSetd, eItems, gmTup, gmCons, gmNil, dKey, eCall, eCallP, eDc, iSeq, wipeE, eUn, eIsi, eAnd, eOr, eNot, R.bind_ok, noX_ok, s_atI, s_atI0, s_atI1, s_atI2, s_atI3, s_atI4, s_atI5, s_add, s_sub, s_lt, s_le, s_gt, s_ge, s_isN, s_isB, s_eq_ii, s_eq_ss, s_eq_in, s_eq_ni, s_eq_nn, s_eq_sn, s_eq_ns, s_eq_bb, s_lenT, s_lenR, s_int, s_listT, s_listR, s_tupT, s_truB, s_truN, s_truI, s_truT, s_oB, s_itT, s_itR, s_inTI, s_inTS, s_isLst, r_in, r_inDi, r_inDs, inL_I, inL_S, r_ix, r_ixT, r_ixR, r_ixLi, r_ixDi, r_ixDs, r_len, r_list, r_tup, r_sort, r_tru, r_tyL, r_tyD, r_append, r_pop, r_extT, r_extR, r_it, run_arrows ok, hr', sm, q]
  simp at hs
  simp [bodyM, sSeq, s_thenNx, s_thenRt, s_loopNx, s_loopRt, s_loopCt, s_loopBk, sAsg, sRet, sRetN, sDrop, sNil, sPar, sBrk, sCnt, eVar, eC, eOp, gmName, gmSub, eCallB, aCons, aNil, eB, eIf, eTru, mAnd, mOr, mNot, mYes, eMeth, eTup, eLst, eL, eDict0, eDict1, r_for1, forR_nat, r_forS, r_lc1, lcR_nat, r_lcS, n_non, n_bl, n_int, n_str, n_tup, n_rol, n_ref, b_non, b_bl, b_int, b_str, b_tup, b_rol, b_ref, eSetd, eItems, gmTup, gmCons, gmNil, dKey, eCall, eCallP, eDc, iSeq, wipeE, eUn, eIsi, eAnd, eOr, eNot, R.bind_ok, noX_ok, s_atI, s_atI0, s_atI1, s_atI2, s_atI3, s_atI4, s_atI5, s_add, s_sub, s_lt, s_le, s_gt, s_ge, s_isN, s_isB, s_eq_ii, s_eq_ss, s_eq_in, s_eq_ni, s_eq_nn, s_eq_sn, s_eq_ns, s_eq_bb, s_lenT, s_lenR, s_int, s_listT, s_listR, s_tupT, s_truB, s_truN, s_truI, s_truT, s_oB, s_itT, s_itR, s_inTI, s_inTS, s_isLst, r_in, r_inDi, r_inDs, inL_I, inL_S, r_ix, r_ixT, r_ixR, r_ixLi, r_ixDi, r_ixDs, r_len, r_list, r_tup, r_sort, r_tru, r_tyL, r_tyD, r_append, r_pop, r_extT, r_extR, r_it, hs]
end K04

namespace K04
open PySem L2 PM
theorem turn_run {ds : List Int} {c : Nat} {G : AH} {S t : D} {x3 x4 x5 x6 x7 x8 x9 : Option D} : ∃ c' G' x3' x4' x5' x6' x7' x8' x9',
    W2_b [some S, some (.ref 1), some t, x3, x4, x5, x6, x7, x8, x9, none, none, none, none, none, none, none, none] (Bx ds c G) = .ok (.nx [some S, some (.ref 1), some t, x3', x4', x5', x6', x7', x8', x9', none, none, none, none, none, none, none, none]) (Bx ds c' G') := by
  obtain ⟨bs, c1, ok, qb⟩ := blocks_run (ds := ds) (c := c) (G := G)
  have q1 : W2_1 [some S, some (.ref 1), some t, x3, x4, x5, x6, x7, x8, x9, none, none, none, none, none, none, none, none] (Bx ds c G) = .ok (.nx [some S, some (.ref 1), some t, some (B bs), x4, x5, x6, x7, x8, x9, none, none, none, none, none, none, none, none]) (Bx ds c1 (G ++ [.lst (bs.map blkD)])) := by
    simp [bodyM, sSeq, s_thenNx, s_thenRt, s_loopNx, s_loopRt, s_loopCt, s_loopBk, sAsg, sRet, sRetN, sDrop, sNil, sPar, sBrk, sCnt, eVar, eC, eOp, gmName, gmSub, eCallB, aCons, aNil, eB, eIf, eTru, mAnd, mOr, mNot, mYes, eMeth, eTup, eLst, eL, eDict0, eDict1, r_for1, forR_nat, r_forS, r_lc1, lcR_nat, r_lcS, n_non, n_bl, n_int, n_str, n_tup, n_rol, n_ref, b_non, b_bl, b_int, b_str, b_tup, b_rol, b_ref, eSetd, eItems, gmTup, gmCons, gmNil, dKey, eCall, eCallP, eDc, iSeq, wipeE, eUn, eIsi, eAnd, eOr, eNot, R.bind_ok, noX_ok, s_atI, s_atI0, s_atI1, s_atI2, s_atI3, s_atI4, s_atI5, s_add, s_sub, s_lt, s_le, s_gt, s_ge, s_isN, s_isB, s_eq_ii, s_eq_ss, s_eq_in, s_eq_ni, s_eq_nn, s_eq_sn, s_eq_ns, s_eq_bb, s_lenT, s_lenR, s_int, s_listT, s_listR, s_tupT, s_truB, s_truN, s_truI, s_truT, s_oB, s_itT, s_itR, s_inTI, s_inTS, s_isLst, r_in, r_inDi, r_inDs, inL_I, inL_S, r_ix, r_ixT, r_ixR, r_ixLi, r_ixDi, r_ixDs, r_len, r_list, r_tup, r_sort, r_tru, r_tyL, r_tyD, r_append, r_pop, r_extT, r_extR, r_it, qb]
  generalize hH1 : Bx ds c1 (G ++ [.lst (bs.map blkD)]) = H1 at q1
  have q2 : W2_2 [some S, some (.ref 1), some t, some (B bs), x4, x5, x6, x7, x8, x9, none, none, none, none, none, none, none, none] H1 = .ok (.nx [some S, some (.ref 1), some t, some (B bs), some (.ref H1.length), x5, x6, x7, x8, x9, none, none, none, none, none, none, none, none]) (H1 ++ [.lst ((met bs none).map I)]) := by
    have hrm : ∀ h, runP mLawMet [B bs, .non] h = .ok (.ref h.length) (h ++ [.lst ((met bs none).map I)]) := run_lawMet ok none
    simp [bodyM, sSeq, s_thenNx, s_thenRt, s_loopNx, s_loopRt, s_loopCt, s_loopBk, sAsg, sRet, sRetN, sDrop, sNil, sPar, sBrk, sCnt, eVar, eC, eOp, gmName, gmSub, eCallB, aCons, aNil, eB, eIf, eTru, mAnd, mOr, mNot, mYes, eMeth, eTup, eLst, eL, eDict0, eDict1, r_for1, forR_nat, r_forS, r_lc1, lcR_nat, r_lcS, n_non, n_bl, n_int, n_str, n_tup, n_rol, n_ref, b_non, b_bl, b_int, b_str, b_tup, b_rol, b_ref, eSetd, eItems, gmTup, gmCons, gmNil, dKey, eCall, eCallP, eDc, iSeq, wipeE, eUn, eIsi, eAnd, eOr, eNot, R.bind_ok, noX_ok, s_atI, s_atI0, s_atI1, s_atI2, s_atI3, s_atI4, s_atI5, s_add, s_sub, s_lt, s_le, s_gt, s_ge, s_isN, s_isB, s_eq_ii, s_eq_ss, s_eq_in, s_eq_ni, s_eq_nn, s_eq_sn, s_eq_ns, s_eq_bb, s_lenT, s_lenR, s_int, s_listT, s_listR, s_tupT, s_truB, s_truN, s_truI, s_truT, s_oB, s_itT, s_itR, s_inTI, s_inTS, s_isLst, r_in, r_inDi, r_inDs, inL_I, inL_S, r_ix, r_ixT, r_ixR, r_ixLi, r_ixDi, r_ixDs, r_len, r_list, r_tup, r_sort, r_tru, r_tyL, r_tyD, r_append, r_pop, r_extT, r_extR, r_it, hrm]
  have hm : (H1 ++ [Ob.lst ((met bs none).map I)])[H1.length]? = some (Ob.lst ((met bs none).map I)) := get_at _ _ []
  generalize H1.length = m at q2 hm
  generalize hH2 : H1 ++ [Ob.lst ((met bs none).map I)] = H2 at q2 hm
  have q3 := w3 ok hm (x0 := some S) (x1 := some (.ref 1)) (x2 := some t) (x5 := x5) (x6 := x6) (x7 := x7) (x8 := x8) (x9 := x9)
  obtain ⟨g4, q4⟩ := w4 ok hm (x0 := some S) (x1 := some (.ref 1)) (x2 := some t) (x5 := x5) (x6 := x6) (x7 := x7) (x8 := x8) (x9 := x9)
  have ha : (H2 ++ g4 ++ [Ob.lst (aboveL bs)])[(H2 ++ g4).length]? = some (Ob.lst (aboveL bs)) := get_at _ _ []
  have hm4 : (H2 ++ g4 ++ [Ob.lst (aboveL bs)])[m]? = some (Ob.lst ((met bs none).map I)) := get_app (get_app hm)
  generalize (H2 ++ g4).length = a at q4 ha
  generalize hH4 : H2 ++ g4 ++ [Ob.lst (aboveL bs)] = H4 at q4 ha hm4
  obtain ⟨g5, q5⟩ := w5 ok hm4 ha (x0 := some S) (x1 := some (.ref 1)) (x2 := some t) (x6 := x6) (x7 := x7) (x8 := x8) (x9 := x9)
  have ha5 : (H4 ++ g5)[a]? = some (Ob.lst (aboveL bs)) := get_app ha
  have hm5 : (H4 ++ g5)[m]? = some (Ob.lst ((met bs none).map I)) := get_app hm4
  generalize hH5 : H4 ++ g5 = H5 at q5 ha5 hm5
  have q6 : W2_6 [some S, some (.ref 1), some t, some (B bs), some (.ref m), some (.ref a), x6, x7, x8, x9, none, none, none, none, none, none, none, none] H5 = .ok (.nx [some S, some (.ref 1), some t, some (B bs), some (.ref m), some (.ref a), some (.ref H5.length), x7, x8, x9, none, none, none, none, none, none, none, none]) (H5 ++ [.lst []]) := by
    simp [bodyM, sSeq, s_thenNx, s_thenRt, s_loopNx, s_loopRt, s_loopCt, s_loopBk, sAsg, sRet, sRetN, sDrop, sNil, sPar, sBrk, sCnt, eVar, eC, eOp, gmName, gmSub, eCallB, aCons, aNil, eB, eIf, eTru, mAnd, mOr, mNot, mYes, eMeth, eTup, eLst, eL, eDict0, eDict1, r_for1, forR_nat, r_forS, r_lc1, lcR_nat, r_lcS, n_non, n_bl, n_int, n_str, n_tup, n_rol, n_ref, b_non, b_bl, b_int, b_str, b_tup, b_rol, b_ref, eSetd, eItems, gmTup, gmCons, gmNil, dKey, eCall, eCallP, eDc, iSeq, wipeE, eUn, eIsi, eAnd, eOr, eNot, R.bind_ok, noX_ok, s_atI, s_atI0, s_atI1, s_atI2, s_atI3, s_atI4, s_atI5, s_add, s_sub, s_lt, s_le, s_gt, s_ge, s_isN, s_isB, s_eq_ii, s_eq_ss, s_eq_in, s_eq_ni, s_eq_nn, s_eq_sn, s_eq_ns, s_eq_bb, s_lenT, s_lenR, s_int, s_listT, s_listR, s_tupT, s_truB, s_truN, s_truI, s_truT, s_oB, s_itT, s_itR, s_inTI, s_inTS, s_isLst, r_in, r_inDi, r_inDs, inL_I, inL_S, r_ix, r_ixT, r_ixR, r_ixLi, r_ixDi, r_ixDs, r_len, r_list, r_tup, r_sort, r_tru, r_tyL, r_tyD, r_append, r_pop, r_extT, r_extR, r_it, szl]
  obtain ⟨g7, x7', x8', q7⟩ := w7 ok hm5 ha5 (x0 := some S) (x1 := some (.ref 1)) (x2 := some t) (x3 := some (B bs)) (x7 := x7) (x8 := x8) (x9 := x9)
  have hn : (H5 ++ Ob.lst ((met bs none).map (nD bs)) :: g7)[H5.length]? = some (Ob.lst ((met bs none).map (nD bs))) := get_at _ _ _
  have ha7 : (H5 ++ Ob.lst ((met bs none).map (nD bs)) :: g7)[a]? = some (Ob.lst (aboveL bs)) := get_app ha5
  have hm7 : (H5 ++ Ob.lst ((met bs none).map (nD bs)) :: g7)[m]? = some (Ob.lst ((met bs none).map I)) := get_app hm5
  generalize hH7 : H5 ++ Ob.lst ((met bs none).map (nD bs)) :: g7 = H7 at q7 hn ha7 hm7
  generalize H5.length = n at q6 q7 hn
  obtain ⟨g8, q8⟩ := w8 ok ha7 hn (x0 := some S) (x1 := some (.ref 1)) (x2 := some t) (x4 := some (.ref m)) (x7 := x7') (x8 := x8') (x9 := x9)
  have hm8 : (H7 ++ g8)[m]? = some (Ob.lst ((met bs none).map I)) := get_app hm7
  generalize hH8 : H7 ++ g8 = H8 at q8 hm8
  have q9 : W2_9 [some S, some (.ref 1), some t, some (B bs), some (.ref m), some (.ref a), some (.ref n), x7', x8', x9, none, none, none, none, none, none, none, none] H8 = .ok (.nx [some S, some (.ref 1), some t, some (B bs), some (.ref m), some (.ref a), some (.ref n), x7', x8', some (.ref H8.length), none, none, none, none, none, none, none, none]) (H8 ++ [.lst []]) := by
    simp [bodyM, sSeq, s_thenNx, s_thenRt, s_loopNx, s_loopRt, s_loopCt, s_loopBk, sAsg, sRet, sRetN, sDrop, sNil, sPar, sBrk, sCnt, eVar, eC, eOp, gmName, gmSub, eCallB, aCons, aNil, eB, eIf, eTru, mAnd, mOr, mNot, mYes, eMeth, eTup, eLst, eL, eDict0, eDict1, r_for1, forR_nat, r_forS, r_lc1, lcR_nat, r_lcS, n_non, n_bl, n_int, n_str, n_tup, n_rol, n_ref, b_non, b_bl, b_int, b_str, b_tup, b_rol, b_ref, eSetd, eItems, gmTup, gmCons, gmNil, dKey, eCall, eCallP, eDc, iSeq, wipeE, eUn, eIsi, eAnd, eOr, eNot, R.bind_ok, noX_ok, s_atI, s_atI0, s_atI1, s_atI2, s_atI3, s_atI4, s_atI5, s_add, s_sub, s_lt, s_le, s_gt, s_ge, s_isN, s_isB, s_eq_ii, s_eq_ss, s_eq_in, s_eq_ni, s_eq_nn, s_eq_sn, s_eq_ns, s_eq_bb, s_lenT, s_lenR, s_int, s_listT, s_listR, s_tupT, s_truB, s_truN, s_truI, s_truT, s_oB, s_itT, s_itR, s_inTI, s_inTS, s_isLst, r_in, r_inDi, r_inDs, inL_I, inL_S, r_ix, r_ixT, r_ixR, r_ixLi, r_ixDi, r_ixDs, r_len, r_list, r_tup, r_sort, r_tru, r_tyL, r_tyD, r_append, r_pop, r_extT, r_extR, r_it, szl]
  obtain ⟨g10, x7b, r', q10, hr⟩ := w10 ok (h := H8 ++ [Ob.lst []]) (r := H8.length) (get_app hm8) (get_at _ _ []) (x0 := some S) (x1 := some (.ref 1)) (x2 := some t) (x5 := some (.ref a)) (x6 := some (.ref n)) (x7 := x7') (x8 := x8')
  obtain ⟨g11, q11⟩ := w11 ok hr (x0 := some S) (x1 := some (.ref 1)) (x2 := some t) (x4 := some (.ref m)) (x5 := some (.ref a)) (x6 := some (.ref n)) (x7 := x7b) (x8 := x8')
  have whole : ∃ g, H8 ++ [Ob.lst []] ++ g10 ++ g11 = H1 ++ g := by
    subst hH8 hH7 hH5 hH4 hH2
    exact ⟨_, by simp only [List.append_assoc]; rfl⟩
  obtain ⟨g, eg⟩ := whole
  refine ⟨c1, G ++ [.lst (bs.map blkD)] ++ g, some (B bs), some (.ref m), some (.ref a), some (.ref n), x7b, x8', some (.ref r'), ?_⟩
  show sSeq W2_1 (sSeq W2_2 (sSeq W2_3 (sSeq W2_4 (sSeq W2_5 (sSeq W2_6 (sSeq W2_7 (sSeq W2_8 (sSeq W2_9 (sSeq W2_10 W2_11))))))))) _ _ = _
  rw [← bx_app, hH1, ← eg]
  rw [sq_eq, q1, R.bind_ok, s_thenNx, sq_eq, q2, R.bind_ok, s_thenNx, sq_eq, q3, R.bind_ok, s_thenNx, sq_eq, q4, R.bind_ok, s_thenNx, sq_eq, q5, R.bind_ok, s_thenNx, sq_eq, q6, R.bind_ok, s_thenNx, sq_eq, q7, R.bind_ok, s_thenNx, sq_eq, q8, R.bind_ok, s_thenNx, sq_eq, q9, R.bind_ok, s_thenNx, sq_eq, q10, R.bind_ok, s_thenNx, q11]
theorem sm3 : SmN 3 := by unfold SmN; decide
theorem forR3 {g : GM} {b : SM} {env : PM.Env} {h : AH} : forR [.int 3] g b env h = PM.forM g b (fun _ => true) ((List.range 3).map fun i => D.int ((i : Nat) : Int)) env h := forR_nat (k := 3) sm3
theorem turns_run {ds : List Int} {c : Nat} {G : AH} {S : D} : ∃ c' G' x2' x3' x4' x5' x6' x7' x8' x9',
    W2 [some S, some (.ref 1), none, none, none, none, none, none, none, none, none, none, none, none, none, none, none, none] (Bx ds c G) = .ok (.nx [some S, some (.ref 1), x2', x3', x4', x5', x6', x7', x8', x9', none, none, none, none, none, none, none, none]) (Bx ds c' G') := by
  obtain ⟨env', h', q, c', G', x2', x3', x4', x5', x6', x7', x8', x9', e1, e2⟩ := for_run (xs := List.range 3) (F := fun i : Nat => D.int ((i : Nat) : Int)) (g := gmName 2) (b := W2_b) (chk := fun _ => true)
    (fun i env h => ∃ c G x2 x3 x4 x5 x6 x7 x8 x9, env = [some S, some (.ref 1), x2, x3, x4, x5, x6, x7, x8, x9, none, none, none, none, none, none, none, none] ∧ h = Bx ds c G)
    (fun _ _ _ _ _ => rfl)
    (fun i t hi env h ⟨c, G, x2, x3, x4, x5, x6, x7, x8, x9, e1, e2⟩ => by
      subst e1 e2
      obtain ⟨c', G', x3', x4', x5', x6', x7', x8', x9', q⟩ := turn_run (ds := ds) (c := c) (G := G) (S := S) (t := .int (t : Int)) (x3 := x3) (x4 := x4) (x5 := x5) (x6 := x6) (x7 := x7) (x8 := x8) (x9 := x9)
      exact ⟨_, _, _, _, rfl, q, c', G', some (.int (t : Int)), x3', x4', x5', x6', x7', x8', x9', rfl, rfl⟩)
    (env := [some S, some (.ref 1), none, none, none, none, none, none, none, none, none, none, none, none, none, none, none, none]) (h := Bx ds c G) ⟨c, G, none, none, none, none, none, none, none, none, rfl, rfl⟩
  subst e1 e2
  refine ⟨c', G', x2', x3', x4', x5', x6', x7', x8', x9', ?_⟩
  rw [← q]
  unfold W2
  generalize W2_b = Bd
  simp [bodyM, sSeq, s_thenNx, s_thenRt, s_loopNx, s_loopRt, s_loopCt, s_loopBk, sAsg, sRet, sRetN, sDrop, sNil, sPar, sBrk, sCnt, eVar, eC, eOp, gmName, gmSub, eCallB, aCons, aNil, eB, eIf, eTru, mAnd, mOr, mNot, mYes, eMeth, eTup, eLst, eL, eDict0, eDict1, r_for1, forR_nat, r_forS, r_lc1, lcR_nat, r_lcS, n_non, n_bl, n_int, n_str, n_tup, n_rol, n_ref, b_non, b_bl, b_int, b_str, b_tup, b_rol, b_ref, eSetd, eItems, gmTup, gmCons, gmNil, dKey, eCall, eCallP, eDc, iSeq, wipeE, eUn, eIsi, eAnd, eOr, eNot, R.bind_ok, noX_ok, s_atI, s_atI0, s_atI1, s_atI2, s_atI3, s_atI4, s_atI5, s_add, s_sub, s_lt, s_le, s_gt, s_ge, s_isN, s_isB, s_eq_ii, s_eq_ss, s_eq_in, s_eq_ni, s_eq_nn, s_eq_sn, s_eq_ns, s_eq_bb, s_lenT, s_lenR, s_int, s_listT, s_listR, s_tupT, s_truB, s_truN, s_truI, s_truT, s_oB, s_itT, s_itR, s_inTI, s_inTS, s_isLst, r_in, r_inDi, r_inDs, inL_I, inL_S, r_ix, r_ixT, r_ixR, r_ixLi, r_ixDi, r_ixDs, r_len, r_list, r_tup, r_sort, r_tru, r_tyL, r_tyD, r_append, r_pop, r_extT, r_extR, r_it, forR3]
end K04

namespace K04
open PySem L2 PM
def six : List Str := [("m.a" : Str), ("m.b" : Str), ("n.c" : Str), ("n.d" : Str), ("m.e" : Str), ("n.f" : Str)]
theorem six_nd : six.Nodup := by decide +kernel
/-- the heap while the rows are laid -/
def HS (ds : List Int) (c : Nat) (G : AH) (N : List Str) (cs : List Fn) (rf : Str → Nat) (gb : AH) : AH :=
  Bx ds c (G ++ Ob.lst (six.map T) :: Ob.lst (N.map T) :: Ob.lst (cs.map rowD) :: Ob.dic false (dS (fun n => .ref (rf n)) (nms cs)) :: gb)
section
variable {ds : List Int} {c : Nat} {G gb : AH} {N : List Str} {cs : List Fn} {rf : Str → Nat}
theorem hs_n : (HS ds c G N cs rf gb)[G.length + 1 + 2]? = some (Ob.lst (N.map T)) := by
  unfold HS; rw [bx_get]; simp
theorem hs_r : (HS ds c G N cs rf gb)[G.length + 2 + 2]? = some (Ob.lst (cs.map rowD)) := by
  unfold HS; rw [bx_get]; simp
theorem hs_t : (HS ds c G N cs rf gb)[G.length + 3 + 2]? = some (Ob.dic false (dS (fun n => .ref (rf n)) (nms cs))) := by
  unfold HS; rw [bx_get]; simp
theorem hs_app {g : AH} : HS ds c G N cs rf gb ++ g = HS ds c G N cs rf (gb ++ g) := by
  unfold HS; rw [bx_app]; simp
theorem hs_len : (HS ds c G N cs rf gb).length = G.length + gb.length + 6 := by
  unfold HS; rw [bx_len]; simp; omega
/-- an end that lies anywhere behind -/
theorem hs_at {a : Ob} {R : AH} : (HS ds c G N cs rf (gb ++ a :: R))[(HS ds c G N cs rf gb).length]? = some a := by
  rw [← hs_app]; exact get_at _ _ _
end
abbrev pkE : EM := eCall (aCons (eVar 1) (aCons (eVar 10) (aNil))) mLawPick
theorem pick_lc {ds : List Int} {G : AH} {r : Nat} {row : List Str} (hr : G[r]? = some (.lst (row.map T))) (hz : row ≠ []) {x0 x3 x4 x5 x6 x7 x8 x9 x11 x12 x13 : Option D} :
    ∀ (ks : List Nat) (acc : List D) (c : Nat), acc.length + ks.length < 1000 → ∃ (ys : List Str) (c' : Nat), lcM [x0, some (.ref 1), none, x3, x4, x5, x6, x7, x8, x9, some (.ref (r + 2)), x11, x12, x13, none, none, none, none] (gmName 2) mYes pkE (fun _ => true) (ks.map fun i => D.int ((i : Nat) : Int)) acc (Bx ds c G) = .ok (acc ++ ys.map T) (Bx ds c' G) ∧ ys.length = ks.length ∧ ∀ y ∈ ys, y ∈ row
  | [], acc, c, _ => ⟨[], c, by rw [List.map_nil, lcM, if_pos rfl]; simp, rfl, fun y hy => (nomatch hy)⟩
  | k :: ks, acc, c, hl => by
    rw [List.length_cons] at hl
    obtain ⟨x, hx, q⟩ := pick_run (ds := ds) (c := c) hr (by simpa using hz)
    obtain ⟨y, hy, rfl⟩ := List.mem_map.mp hx
    obtain ⟨ys, c', q2, e2, e3⟩ := pick_lc hr hz (ds := ds) (x0 := x0) (x3 := x3) (x4 := x4) (x5 := x5) (x6 := x6) (x7 := x7) (x8 := x8) (x9 := x9) (x11 := x11) (x12 := x12) (x13 := x13) ks (acc ++ [T y]) (c + 1) (by simp; omega)
    refine ⟨y :: ys, c', ?_, by simp [e2], fun z hz => (List.mem_cons.mp hz).elim (fun e => e ▸ hy) (e3 z)⟩
    have qe : pkE [x0, some (.ref 1), some (.int (k : Int)), x3, x4, x5, x6, x7, x8, x9, some (.ref (r + 2)), x11, x12, x13, none, none, none, none] (Bx ds c G) = .ok (T y) (Bx ds (c + 1) G) := by
      simp [bodyM, sSeq, s_thenNx, s_thenRt, s_loopNx, s_loopRt, s_loopCt, s_loopBk, sAsg, sRet, sRetN, sDrop, sNil, sPar, sBrk, sCnt, eVar, eC, eOp, gmName, gmSub, eCallB, aCons, aNil, eB, eIf, eTru, mAnd, mOr, mNot, mYes, eMeth, eTup, eLst, eL, eDict0, eDict1, r_for1, forR_nat, r_forS, r_lc1, lcR_nat, r_lcS, n_non, n_bl, n_int, n_str, n_tup, n_rol, n_ref, b_non, b_bl, b_int, b_str, b_tup, b_rol, b_ref, eSetd, eItems, gmTup, gmCons, gmNil, dKey, eCall, eCallP, eDc, iSeq, wipeE, eUn, eIsi, eAnd, eOr, eNot, R.bind_ok, noX_ok, s_atI, s_atI0, s_atI1, s_atI2, s_atI3, s_atI4, s_atI5, s_add, s_sub, s_lt, s_le, s_gt, s_ge, s_isN, s_isB, s_eq_ii, s_eq_ss, s_eq_in, s_eq_ni, s_eq_nn, s_eq_sn, s_eq_ns, s_eq_bb, s_lenT, s_lenR, s_int, s_listT, s_listR, s_tupT, s_truB, s_truN, s_truI, s_truT, s_oB, s_itT, s_itR, s_inTI, s_inTS, s_isLst, r_in, r_inDi, r_inDs, inL_I, inL_S, r_ix, r_ixT, r_ixR, r_ixLi, r_ixDi, r_ixDs, r_len, r_list, r_tup, r_sort, r_tru, r_tyL, r_tyD, r_append, r_pop, r_extT, r_extR, r_it, q]
    rw [List.map_cons, lcM, if_pos rfl, show gmName 2 (.int (k : Int)) [x0, some (.ref 1), none, x3, x4, x5, x6, x7, x8, x9, some (.ref (r + 2)), x11, x12, x13, none, none, none, none] (Bx ds c G) = .ok [x0, some (.ref 1), some (.int (k : Int)), x3, x4, x5, x6, x7, x8, x9, some (.ref (r + 2)), x11, x12, x13, none, none, none, none] (Bx ds c G) from rfl, noX_ok, R.bind_ok]
    show (noX (R.ok true (Bx ds c G))).bind _ = _
    rw [noX_ok, R.bind_ok, if_pos rfl, qe, noX_ok, R.bind_ok, if_pos (by rw [szl]; omega), q2]
    simp
theorem calledRun {ds : List Int} {c : Nat} {G gb : AH} {N : List Str} {cs : List Fn} {rf : Str → Nat} (hz : N ≠ []) {x0 x2 x3 x4 x5 x6 x7 x8 x9 x11 x12 x13 : Option D} :
    ∃ (ys : List Str) (c' : Nat), ys.length ≤ 2 ∧ (∀ y ∈ ys, y ∈ N) ∧ W5_1 [x0, some (.ref 1), x2, x3, x4, x5, x6, x7, x8, x9, some (.ref (G.length + 1 + 2)), x11, x12, x13, none, none, none, none] (HS ds c G N cs rf gb) =
      .ok (.nx [x0, some (.ref 1), x2, x3, x4, x5, x6, x7, x8, x9, some (.ref (G.length + 1 + 2)), x11, x12, some (.ref (HS ds c' G N cs rf gb).length), none, none, none, none]) (HS ds c' G N cs rf (gb ++ [Ob.lst (ys.map T)])) := by
  obtain ⟨d, hd, q1⟩ := draw3 (ds := ds) (c := c) (G := G ++ Ob.lst (six.map T) :: Ob.lst (N.map T) :: Ob.lst (cs.map rowD) :: Ob.dic false (dS (fun n => .ref (rf n)) (nms cs)) :: gb)
  have q1' : mLawDraw [.ref 1, .int 3] (HS ds c G N cs rf gb) = .ok (.int (d : Int)) (HS ds (c + 1) G N cs rf gb) := q1
  have hr : (G ++ Ob.lst (six.map T) :: Ob.lst (N.map T) :: Ob.lst (cs.map rowD) :: Ob.dic false (dS (fun n => .ref (rf n)) (nms cs)) :: gb)[G.length + 1]? = some (Ob.lst (N.map T)) := by simp
  obtain ⟨ys, c', q2, e2, e3⟩ := pick_lc hr hz (ds := ds) (x0 := x0) (x3 := x3) (x4 := x4) (x5 := x5) (x6 := x6) (x7 := x7) (x8 := x8) (x9 := x9) (x11 := x11) (x12 := x12) (x13 := x13) (List.range d) [] (c + 1) (by simp; omega)
  have q2' : lcM [x0, some (.ref 1), none, x3, x4, x5, x6, x7, x8, x9, some (.ref (G.length + 1 + 2)), x11, x12, x13, none, none, none, none] (gmName 2) mYes pkE (fun _ => true) ((List.range d).map fun i => D.int ((i : Nat) : Int)) [] (HS ds (c + 1) G N cs rf gb) = .ok (ys.map T) (HS ds c' G N cs rf gb) := q2
  have sm : SmN d := by unfold SmN; omega
  refine ⟨ys, c', by rw [e2]; simp; omega, e3, ?_⟩
  show sAsg (eL (lComp (iRange1 (aCons (eCall (aCons (eVar 1) (aCons (eC (.int 3)) (aNil))) mLawDraw) (aNil))) [2] (gmName 2) (mYes) pkE)) (gmName 13) _ _ = _
  generalize hP : pkE = Pd at q2' ⊢
  generalize hY : (mYes : TM) = Yd at q2' ⊢
  simp [bodyM, sSeq, s_thenNx, s_thenRt, s_loopNx, s_loopRt, s_loopCt, s_loopBk, sAsg, sRet, sRetN, sDrop, sNil, sPar, sBrk, sCnt, eVar, eC, eOp, gmName, gmSub, eCallB, aCons, aNil, eB, eIf, eTru, mAnd, mOr, mNot, mYes, eMeth, eTup, eLst, eL, eDict0, eDict1, r_for1, forR_nat, r_forS, r_lc1, lcR_nat, r_lcS, n_non, n_bl, n_int, n_str, n_tup, n_rol, n_ref, b_non, b_bl, b_int, b_str, b_tup, b_rol, b_ref, eSetd, eItems, gmTup, gmCons, gmNil, dKey, eCall, eCallP, eDc, iSeq, wipeE, eUn, eIsi, eAnd, eOr, eNot, R.bind_ok, noX_ok, s_atI, s_atI0, s_atI1, s_atI2, s_atI3, s_atI4, s_atI5, s_add, s_sub, s_lt, s_le, s_gt, s_ge, s_isN, s_isB, s_eq_ii, s_eq_ss, s_eq_in, s_eq_ni, s_eq_nn, s_eq_sn, s_eq_ns, s_eq_bb, s_lenT, s_lenR, s_int, s_listT, s_listR, s_tupT, s_truB, s_truN, s_truI, s_truT, s_oB, s_itT, s_itR, s_inTI, s_inTS, s_isLst, r_in, r_inDi, r_inDs, inL_I, inL_S, r_ix, r_ixT, r_ixR, r_ixLi, r_ixDi, r_ixDs, r_len, r_list, r_tup, r_sort, r_tru, r_tyL, r_tyD, r_append, r_pop, r_extT, r_extR, r_it, q1', sm, q2', hs_app]
theorem rowRun {ds : List Int} {c : Nat} {G gb : AH} {N : List Str} {cs : List Fn} {rf : Str → Nat} {a : Str} {ys : List Str} (hl : ys.length ≤ 2) (hc : cs.length < 100) {x0 x1 x2 x3 x4 x5 x6 x7 x9 x10 x11 : Option D} :
    W5_2 [x0, x1, x2, x3, x4, x5, x6, x7, some (.ref (G.length + 2 + 2)), x9, x10, x11, some (T a), some (.ref (HS ds c G N cs rf gb).length), none, none, none, none] (HS ds c G N cs rf (gb ++ [Ob.lst (ys.map T)])) =
      .ok (.nx [x0, x1, x2, x3, x4, x5, x6, x7, some (.ref (G.length + 2 + 2)), x9, x10, x11, some (T a), some (.ref (HS ds c G N cs rf gb).length), none, none, none, none])
        ((HS ds c G N cs rf (gb ++ [Ob.lst (ys.map T), Ob.lst (ys.map callD)])).set (G.length + 2 + 2) (.lst (cs.map rowD ++ [rowD (a, ys)]))) := by
  have hat := hs_at (ds := ds) (c := c) (G := G) (gb := gb) (N := N) (cs := cs) (rf := rf) (a := Ob.lst (ys.map T)) (R := [])
  have hr := fun gb => hs_r (ds := ds) (c := c) (G := G) (gb := gb) (N := N) (cs := cs) (rf := rf)
  have hty := fun gb => s_tyL (hr gb)
  generalize (HS ds c G N cs rf gb).length = q0 at hat ⊢
  have q := lc_pure (xs := ys) (F := T) (G := callD) (p := fun _ => true) (env0 := [x0, x1, x2, x3, x4, x5, x6, x7, some (.ref (G.length + 2 + 2)), x9, x10, x11, some (T a), some (.ref q0), none, none, none, none]) (g := gmName 17) (t := mYes) (e := eTup (aCons (eC (.str ("call" : Str))) (aCons (eVar 17) (aCons (eTup (aNil)) (aNil)))))
    (chk := fun h' => isLst (ys.map T) h'[q0]?) (h := HS ds c G N cs rf (gb ++ [Ob.lst (ys.map T)])) (fun y => [x0, x1, x2, x3, x4, x5, x6, x7, some (.ref (G.length + 2 + 2)), x9, x10, x11, some (T a), some (.ref q0), none, none, none, some (T y)])
    (by rw [hat]; exact s_isLst) (fun y _ => by simp [gmName]) (fun y _ => rfl) (fun y hy _ => by simp [bodyM, sSeq, s_thenNx, s_thenRt, s_loopNx, s_loopRt, s_loopCt, s_loopBk, sAsg, sRet, sRetN, sDrop, sNil, sPar, sBrk, sCnt, eVar, eC, eOp, gmName, gmSub, eCallB, aCons, aNil, eB, eIf, eTru, mAnd, mOr, mNot, mYes, eMeth, eTup, eLst, eL, eDict0, eDict1, r_for1, forR_nat, r_forS, r_lc1, lcR_nat, r_lcS, n_non, n_bl, n_int, n_str, n_tup, n_rol, n_ref, b_non, b_bl, b_int, b_str, b_tup, b_rol, b_ref, eSetd, eItems, gmTup, gmCons, gmNil, dKey, eCall, eCallP, eDc, iSeq, wipeE, eUn, eIsi, eAnd, eOr, eNot, R.bind_ok, noX_ok, s_atI, s_atI0, s_atI1, s_atI2, s_atI3, s_atI4, s_atI5, s_add, s_sub, s_lt, s_le, s_gt, s_ge, s_isN, s_isB, s_eq_ii, s_eq_ss, s_eq_in, s_eq_ni, s_eq_nn, s_eq_sn, s_eq_ns, s_eq_bb, s_lenT, s_lenR, s_int, s_listT, s_listR, s_tupT, s_truB, s_truN, s_truI, s_truT, s_oB, s_itT, s_itR, s_inTI, s_inTS, s_isLst, r_in, r_inDi, r_inDs, inL_I, inL_S, r_ix, r_ixT, r_ixR, r_ixLi, r_ixDi, r_ixDs, r_len, r_list, r_tup, r_sort, r_tru, r_tyL, r_tyD, r_append, r_pop, r_extT, r_extR, r_it, T, callD, szl]) (by omega)
  rw [ft] at q
  have hnew : (HS ds c G N cs rf (gb ++ [Ob.lst (ys.map T)]) ++ [Ob.lst (ys.map callD)])[(HS ds c G N cs rf (gb ++ [Ob.lst (ys.map T)])).length]? = some (Ob.lst (ys.map callD)) := get_at _ _ []
  have e6 : HS ds c G N cs rf (gb ++ [Ob.lst (ys.map T), Ob.lst (ys.map callD)]) = HS ds c G N cs rf (gb ++ [Ob.lst (ys.map T)]) ++ [Ob.lst (ys.map callD)] := by rw [hs_app]; simp
  have hr2 : (HS ds c G N cs rf (gb ++ [Ob.lst (ys.map T)]) ++ [Ob.lst (ys.map callD)])[G.length + 2 + 2]? = some (Ob.lst (cs.map rowD)) := by rw [hs_app]; exact hr _
  rw [e6]
  have hr1 := hr (gb ++ [Ob.lst (ys.map T)])
  have hty1 := hty (gb ++ [Ob.lst (ys.map T)])
  have hcl : (cs.map rowD).length < 16777216 := by rw [List.length_map]; omega
  generalize G.length + 2 + 2 = p at *
  generalize HS ds c G N cs rf (gb ++ [Ob.lst (ys.map T)]) = H1 at *
  have hl9 : 9 ≤ sizeLine := by rw [szl]; omega
  unfold W5_2
  generalize (mYes : TM) = Yd at q ⊢
  generalize hE : eTup (aCons (eC (.str ("call" : Str))) (aCons (eVar 17) (aCons (eTup (aNil)) (aNil)))) = Ed at q ⊢
  generalize cs.map rowD = rows at *
  simp only [T] at q ⊢
  simp [bodyM, sSeq, s_thenNx, s_thenRt, s_loopNx, s_loopRt, s_loopCt, s_loopBk, sAsg, sRet, sRetN, sDrop, sNil, sPar, sBrk, sCnt, eVar, eC, eOp, gmName, gmSub, eCallB, aCons, aNil, eB, eIf, eTru, mAnd, mOr, mNot, mYes, eMeth, eTup, eLst, eL, eDict0, eDict1, r_for1, forR_nat, r_forS, r_lc1, lcR_nat, r_lcS, n_non, n_bl, n_int, n_str, n_tup, n_rol, n_ref, b_non, b_bl, b_int, b_str, b_tup, b_rol, b_ref, eSetd, eItems, gmTup, gmCons, gmNil, dKey, eCall, eCallP, eDc, iSeq, wipeE, eUn, eIsi, eAnd, eOr, eNot, R.bind_ok, noX_ok, s_atI, s_atI0, s_atI1, s_atI2, s_atI3, s_atI4, s_atI5, s_add, s_sub, s_lt, s_le, s_gt, s_ge, s_isN, s_isB, s_eq_ii, s_eq_ss, s_eq_in, s_eq_ni, s_eq_nn, s_eq_sn, s_eq_ns, s_eq_bb, s_lenT, s_lenR, s_int, s_listT, s_listR, s_tupT, s_truB, s_truN, s_truI, s_truT, s_oB, s_itT, s_itR, s_inTI, s_inTS, s_isLst, r_in, r_inDi, r_inDs, inL_I, inL_S, r_ix, r_ixT, r_ixR, r_ixLi, r_ixDi, r_ixDs, r_len, r_list, r_tup, r_sort, r_tru, r_tyL, r_tyD, r_append, r_pop, r_extT, r_extR, r_it, hr1, hat, q, szl, hnew, hr2, hcl, rowD, T]
end K04

namespace K04
open PySem L2 PM
theorem set_app {β : Type} (A : List β) (R : List β) (k : Nat) (x : β) : (A ++ R).set (A.length + k) x = A ++ R.set k x := by
  rw [List.set_append_right _ _ (by omega)]
  congr 2
  omega
theorem hs_set2 {ds : List Int} {c : Nat} {G gb : AH} {N : List Str} {cs cs' : List Fn} {rf rf' : Str → Nat} {x : Ob} :
    ((HS ds c G N cs rf gb).set (G.length + 2 + 2) (.lst (cs'.map rowD)) ++ [x]).set (G.length + 3 + 2) (.dic false (dS (fun n => .ref (rf' n)) (nms cs'))) = HS ds c G N cs' rf' (gb ++ [x]) := by
  unfold HS
  rw [bx_set, bx_app, bx_set, set_app, List.append_assoc, set_app]
  rfl
theorem hs_gb {ds : List Int} {c : Nat} {G gb : AH} {N : List Str} {cs : List Fn} {rf : Str → Nat} (j : Nat) : (HS ds c G N cs rf gb)[G.length + 6 + j]? = gb[j]? := by
  unfold HS
  have : G.length + 6 + j = (G.length + (4 + j)) + 2 := by omega
  rw [this, bx_get, List.getElem?_append_right (by omega)]
  have : G.length + (4 + j) - G.length = j + 1 + 1 + 1 + 1 := by omega
  rw [this]
  rfl
theorem pt_new {rf : Str → Nat} {L : List Str} {a : Str} {q : Nat} (h : a ∉ L) : ptD (dS (fun n => .ref (rf n)) L) (.inr a) (.ref q) = dS (fun n => .ref (if n = a then q else rf n)) (L ++ [a]) := by
  have e1 : dS (fun n => D.ref (rf n)) L = dS (fun n => .ref (if n = a then q else rf n)) L := by
    unfold dS
    apply List.map_congr_left
    intro l hl
    have : l ≠ a := fun z => h (by rw [← z]; exact hl)
    show (kS l, D.ref (rf l)) = (kS l, D.ref (if l = a then q else rf l))
    rw [if_neg this]
  rw [e1]
  have := pt_dS (F := fun n => D.ref (if n = a then q else rf n)) h
  simp only [if_pos] at this
  exact this
theorem tabRun {ds : List Int} {c : Nat} {G gb : AH} {N : List Str} {cs : List Fn} {rf : Str → Nat} {a : Str} {ys : List Str} (hl : ys.length ≤ 2) (hc : cs.length < 100) (ha : a ∉ nms cs) {x0 x1 x2 x3 x4 x5 x6 x7 x8 x9 x10 : Option D} :
    W5_3 [x0, x1, x2, x3, x4, x5, x6, x7, x8, x9, x10, some (.ref (G.length + 3 + 2)), some (T a), some (.ref (HS ds c G N cs rf gb).length), none, none, none, none]
        ((HS ds c G N cs rf (gb ++ [Ob.lst (ys.map T), Ob.lst (ys.map callD)])).set (G.length + 2 + 2) (.lst (cs.map rowD ++ [rowD (a, ys)]))) =
      .ok (.nx [x0, x1, x2, x3, x4, x5, x6, x7, x8, x9, x10, some (.ref (G.length + 3 + 2)), some (T a), some (.ref (HS ds c G N cs rf gb).length), none, none, none, none])
        (HS ds c G N (cs ++ [(a, ys)]) (fun n => if n = a then G.length + 6 + (gb.length + 2) else rf n) (gb ++ [Ob.lst (ys.map T), Ob.lst (ys.map callD), Ob.lst ((cal ys).map T)])) := by
  have hat := hs_at (ds := ds) (c := c) (G := G) (gb := gb) (N := N) (cs := cs) (rf := rf) (a := Ob.lst (ys.map T)) (R := [Ob.lst (ys.map callD)])
  have hlen : (HS ds c G N cs rf gb).length ≠ G.length + 2 + 2 := by rw [hs_len]; omega
  have fin := hs_set2 (ds := ds) (c := c) (G := G) (N := N) (cs := cs) (cs' := cs ++ [(a, ys)]) (rf := rf) (rf' := fun n => if n = a then G.length + 6 + (gb.length + 2) else rf n) (gb := gb ++ [Ob.lst (ys.map T), Ob.lst (ys.map callD)]) (x := Ob.lst ((cal ys).map T))
  have eg : gb ++ [Ob.lst (ys.map T), Ob.lst (ys.map callD)] ++ [Ob.lst ((cal ys).map T)] = gb ++ [Ob.lst (ys.map T), Ob.lst (ys.map callD), Ob.lst ((cal ys).map T)] := by simp
  have en : nms (cs ++ [(a, ys)]) = nms cs ++ [a] := by simp
  have er : (cs ++ [(a, ys)]).map rowD = cs.map rowD ++ [rowD (a, ys)] := by simp
  rw [eg, en, er] at fin
  rw [← fin]
  have hlen2 : ((HS ds c G N cs rf (gb ++ [Ob.lst (ys.map T), Ob.lst (ys.map callD)])).set (G.length + 2 + 2) (.lst (cs.map rowD ++ [rowD (a, ys)]))).length = G.length + 6 + (gb.length + 2) := by
    rw [List.length_set, hs_len]; simp; omega
  have hat2 : ((HS ds c G N cs rf (gb ++ [Ob.lst (ys.map T), Ob.lst (ys.map callD)])).set (G.length + 2 + 2) (.lst (cs.map rowD ++ [rowD (a, ys)])))[(HS ds c G N cs rf gb).length]? = some (Ob.lst (ys.map T)) := by
    rw [List.getElem?_set_ne (Ne.symm hlen)]; exact hat
  have ht : ((HS ds c G N cs rf (gb ++ [Ob.lst (ys.map T), Ob.lst (ys.map callD)])).set (G.length + 2 + 2) (.lst (cs.map rowD ++ [rowD (a, ys)])))[G.length + 3 + 2]? = some (Ob.dic false (dS (fun n => .ref (rf n)) (nms cs))) := by
    rw [List.getElem?_set_ne (by omega)]; exact hs_t
  generalize (HS ds c G N cs rf (gb ++ [Ob.lst (ys.map T), Ob.lst (ys.map callD)])).set (G.length + 2 + 2) (.lst (cs.map rowD ++ [rowD (a, ys)])) = H2 at *
  have hs := s_sortset hat2 (by omega)
  have ht2 : (H2 ++ [Ob.lst ((cal ys).map T)])[G.length + 3 + 2]? = some (Ob.dic false (dS (fun n => .ref (rf n)) (nms cs))) := get_app ht
  generalize (HS ds c G N cs rf gb).length = q0 at *
  generalize G.length + 3 + 2 = p at *
  have hdl : (dS (fun n => D.ref (rf n)) (nms cs)).length < 16777216 := by rw [dS_len]; simp; omega
  have hpt := pt_new (rf := rf) (q := G.length + 6 + (gb.length + 2)) ha
  simp only [T]
  rw [hlen2] at hs
  generalize G.length + 6 + (gb.length + 2) = q at *
  generalize dS (fun n => D.ref (rf n)) (nms cs) = kvs at *
  simp [bodyM, sSeq, s_thenNx, s_thenRt, s_loopNx, s_loopRt, s_loopCt, s_loopBk, sAsg, sRet, sRetN, sDrop, sNil, sPar, sBrk, sCnt, eVar, eC, eOp, gmName, gmSub, eCallB, aCons, aNil, eB, eIf, eTru, mAnd, mOr, mNot, mYes, eMeth, eTup, eLst, eL, eDict0, eDict1, r_for1, forR_nat, r_forS, r_lc1, lcR_nat, r_lcS, n_non, n_bl, n_int, n_str, n_tup, n_rol, n_ref, b_non, b_bl, b_int, b_str, b_tup, b_rol, b_ref, eSetd, eItems, gmTup, gmCons, gmNil, dKey, eCall, eCallP, eDc, iSeq, wipeE, eUn, eIsi, eAnd, eOr, eNot, R.bind_ok, noX_ok, s_atI, s_atI0, s_atI1, s_atI2, s_atI3, s_atI4, s_atI5, s_add, s_sub, s_lt, s_le, s_gt, s_ge, s_isN, s_isB, s_eq_ii, s_eq_ss, s_eq_in, s_eq_ni, s_eq_nn, s_eq_sn, s_eq_ns, s_eq_bb, s_lenT, s_lenR, s_int, s_listT, s_listR, s_tupT, s_truB, s_truN, s_truI, s_truT, s_oB, s_itT, s_itR, s_inTI, s_inTS, s_isLst, r_in, r_inDi, r_inDs, inL_I, inL_S, r_ix, r_ixT, r_ixR, r_ixLi, r_ixDi, r_ixDs, r_len, r_list, r_tup, r_sort, r_tru, r_tyL, r_tyD, r_append, r_pop, r_extT, r_extR, r_it, eSortSet, hs, ht2, hdl, szl, hpt]
/-- the rows as they stand -/
structure Rw (G gb : AH) (N : List Str) (cs : List Fn) (rf : Str → Nat) (i : Nat) : Prop where
  nm : nms cs = N.take i
  cl : ∀ c ∈ cs, c.2.length ≤ 2 ∧ ∀ y ∈ c.2, y ∈ N
  at_ : ∀ c ∈ cs, ∃ j, rf c.1 = G.length + 6 + j ∧ gb[j]? = some (Ob.lst ((cal c.2).map T))
theorem w5n {ds : List Int} {c : Nat} {G : AH} {N : List Str} (hz : N ≠ []) (nd : N.Nodup) (hN : N.length ≤ 6) {x0 x2 x3 x4 x5 x6 x7 x9 x12 x13 : Option D} : ∃ c' cs rf gb x12' x13',
    W5 [x0, some (.ref 1), x2, x3, x4, x5, x6, x7, some (.ref (G.length + 2 + 2)), x9, some (.ref (G.length + 1 + 2)), some (.ref (G.length + 3 + 2)), x12, x13, none, none, none, none] (HS ds c G N [] (fun _ => 0) []) =
      .ok (.nx [x0, some (.ref 1), x2, x3, x4, x5, x6, x7, some (.ref (G.length + 2 + 2)), x9, some (.ref (G.length + 1 + 2)), some (.ref (G.length + 3 + 2)), x12', x13', none, none, none, none]) (HS ds c' G N cs rf gb) ∧ Rw G gb N cs rf N.length := by
  obtain ⟨env', h', q, c', cs, rf, gb, x12', x13', e1, e2, e3⟩ := for_run (xs := N) (F := T) (g := gmName 12) (b := W5_b) (chk := fun h' => isLst (N.map T) h'[G.length + 1 + 2]?)
    (fun i env h => ∃ (c : Nat) (cs : List Fn) (rf : Str → Nat) (gb : AH) (x12 x13 : Option D), env = [x0, some (.ref 1), x2, x3, x4, x5, x6, x7, some (.ref (G.length + 2 + 2)), x9, some (.ref (G.length + 1 + 2)), some (.ref (G.length + 3 + 2)), x12, x13, none, none, none, none] ∧ h = HS ds c G N cs rf gb ∧ Rw G gb N cs rf i)
    (fun i env h _ ⟨c, cs, rf, gb, x12, x13, _, e2, _⟩ => by subst e2; rw [hs_n]; exact s_isLst)
    (fun i a hi env h ⟨c, cs, rf, gb, x12, x13, e1, e2, e3⟩ => by
      subst e1 e2
      have ha : a ∈ N := List.mem_of_getElem? hi
      have hlt := (List.getElem?_eq_some_iff.mp hi).1
      have hcl : cs.length = i := by
        have := congrArg List.length e3.nm
        simp at this; omega
      have han : a ∉ nms cs := by rw [e3.nm]; exact notinS nd hi
      obtain ⟨ys, c', hl, hy, q1⟩ := calledRun (ds := ds) (c := c) (G := G) (gb := gb) (cs := cs) (rf := rf) hz (x0 := x0) (x2 := x2) (x3 := x3) (x4 := x4) (x5 := x5) (x6 := x6) (x7 := x7) (x8 := some (.ref (G.length + 2 + 2))) (x9 := x9) (x11 := some (.ref (G.length + 3 + 2))) (x12 := some (T a)) (x13 := x13)
      have q2 := rowRun (ds := ds) (c := c') (G := G) (gb := gb) (N := N) (cs := cs) (rf := rf) (a := a) hl (by omega) (x0 := x0) (x1 := some (.ref 1)) (x2 := x2) (x3 := x3) (x4 := x4) (x5 := x5) (x6 := x6) (x7 := x7) (x9 := x9) (x10 := some (.ref (G.length + 1 + 2))) (x11 := some (.ref (G.length + 3 + 2)))
      have q3 := tabRun (ds := ds) (c := c') (G := G) (gb := gb) (N := N) (cs := cs) (rf := rf) (a := a) hl (by omega) han (x0 := x0) (x1 := some (.ref 1)) (x2 := x2) (x3 := x3) (x4 := x4) (x5 := x5) (x6 := x6) (x7 := x7) (x8 := some (.ref (G.length + 2 + 2))) (x9 := x9) (x10 := some (.ref (G.length + 1 + 2)))
      have q : W5_b [x0, some (.ref 1), x2, x3, x4, x5, x6, x7, some (.ref (G.length + 2 + 2)), x9, some (.ref (G.length + 1 + 2)), some (.ref (G.length + 3 + 2)), some (T a), x13, none, none, none, none] (HS ds c G N cs rf gb) = _ := (congrArg (fun z => z.bind (thenS (sSeq W5_2 W5_3))) q1).trans ((congrArg (fun z => z.bind (thenS W5_3)) q2).trans q3)
      refine ⟨_, _, _, _, rfl, q, c', cs ++ [(a, ys)], fun n => if n = a then G.length + 6 + (gb.length + 2) else rf n, gb ++ [Ob.lst (ys.map T), Ob.lst (ys.map callD), Ob.lst ((cal ys).map T)], some (T a), some (.ref (HS ds c' G N cs rf gb).length), rfl, rfl, ?_⟩
      refine ⟨by rw [take_succ' hi, ← e3.nm]; simp, fun d hd => ?_, fun d hd => ?_⟩
      · rcases List.mem_append.mp hd with hd | hd
        · exact e3.cl d hd
        · rw [List.mem_singleton.mp hd]; exact ⟨hl, hy⟩
      · rcases List.mem_append.mp hd with hd | hd
        · obtain ⟨j, e4, e5⟩ := e3.at_ d hd
          have hne : d.1 ≠ a := fun z => han (by rw [← z]; exact List.mem_map.mpr ⟨d, hd, rfl⟩)
          exact ⟨j, by show (if d.1 = a then _ else rf d.1) = _; rw [if_neg hne]; exact e4, get_app e5⟩
        · rw [List.mem_singleton.mp hd]
          exact ⟨gb.length + 2, by show (if a = a then _ else _) = _; rw [if_pos rfl], by simp⟩)
    (env := [x0, some (.ref 1), x2, x3, x4, x5, x6, x7, some (.ref (G.length + 2 + 2)), x9, some (.ref (G.length + 1 + 2)), some (.ref (G.length + 3 + 2)), x12, x13, none, none, none, none]) (h := HS ds c G N [] (fun _ => 0) []) ⟨c, [], _, [], x12, x13, rfl, rfl, ⟨by simp, fun d hd => (nomatch hd), fun d hd => (nomatch hd)⟩⟩
  subst e1 e2
  refine ⟨c', cs, rf, gb, x12', x13', ?_, e3⟩
  rw [← q]
  have hn := hs_n (ds := ds) (c := c) (G := G) (gb := []) (N := N) (cs := []) (rf := fun _ => 0)
  unfold W5
  generalize W5_b = Bd
  generalize HS ds c G N [] (fun _ => 0) [] = H1 at *
  simp [bodyM, sSeq, s_thenNx, s_thenRt, s_loopNx, s_loopRt, s_loopCt, s_loopBk, sAsg, sRet, sRetN, sDrop, sNil, sPar, sBrk, sCnt, eVar, eC, eOp, gmName, gmSub, eCallB, aCons, aNil, eB, eIf, eTru, mAnd, mOr, mNot, mYes, eMeth, eTup, eLst, eL, eDict0, eDict1, r_for1, forR_nat, r_forS, r_lc1, lcR_nat, r_lcS, n_non, n_bl, n_int, n_str, n_tup, n_rol, n_ref, b_non, b_bl, b_int, b_str, b_tup, b_rol, b_ref, eSetd, eItems, gmTup, gmCons, gmNil, dKey, eCall, eCallP, eDc, iSeq, wipeE, eUn, eIsi, eAnd, eOr, eNot, R.bind_ok, noX_ok, s_atI, s_atI0, s_atI1, s_atI2, s_atI3, s_atI4, s_atI5, s_add, s_sub, s_lt, s_le, s_gt, s_ge, s_isN, s_isB, s_eq_ii, s_eq_ss, s_eq_in, s_eq_ni, s_eq_nn, s_eq_sn, s_eq_ns, s_eq_bb, s_lenT, s_lenR, s_int, s_listT, s_listR, s_tupT, s_truB, s_truN, s_truI, s_truT, s_oB, s_itT, s_itR, s_inTI, s_inTS, s_isLst, r_in, r_inDi, r_inDs, inL_I, inL_S, r_ix, r_ixT, r_ixR, r_ixLi, r_ixDi, r_ixDs, r_len, r_list, r_tup, r_sort, r_tru, r_tyL, r_tyD, r_append, r_pop, r_extT, r_extR, r_it, hn]
theorem w34n {ds : List Int} {c : Nat} {G : AH} {x0 x2 x3 x4 x5 x6 x7 x8 x9 : Option D} : ∃ (c' : Nat) (N : List Str), N ≠ [] ∧ N.Nodup ∧ N.length ≤ 6 ∧ (∀ x ∈ N, x ∈ six) ∧
    sSeq W3 W4 [x0, some (.ref 1), x2, x3, x4, x5, x6, x7, x8, x9, none, none, none, none, none, none, none, none] (Bx ds c G) = .ok (.nx [x0, some (.ref 1), x2, x3, x4, x5, x6, x7, some (.ref (G.length + 2 + 2)), x9, some (.ref (G.length + 1 + 2)), some (.ref (G.length + 3 + 2)), none, none, none, none, none, none]) (HS ds c' G N [] (fun _ => 0) []) := by
  obtain ⟨r, hr, q⟩ := draw6 (ds := ds) (c := c) (G := G ++ [Ob.lst (six.map T)])
  have hi : (1 : Int) + (r : Int) = ((r + 1 : Nat) : Int) := by omega
  have e6 : six.length = 6 := rfl
  refine ⟨c + 1, six.take (r + 1), ?_, six_nd.sublist (List.take_sublist _ _), by rw [List.length_take]; omega, fun x hx => List.mem_of_mem_take hx, ?_⟩
  · intro z
    have := congrArg List.length z
    rw [List.length_take, e6, List.length_nil] at this
    omega
  · have hsl : oSl (.ref (G.length + 2)) none (some ((1 : Int) + (r : Int))) (Bx ds (c + 1) (G ++ [Ob.lst (six.map T)])) = .ok (.ref (G.length + 1 + 2)) (Bx ds (c + 1) (G ++ [Ob.lst (six.map T), Ob.lst ((six.take (r + 1)).map T)])) := by
      rw [hi]
      unfold oSl
      simp only [bx_last]
      rw [cut_take (by rw [List.length_map]; omega), List.map_take, bx_len, bx_app]
      simp
    have esix : [D.str ("m.a" : Str), D.str ("m.b" : Str), D.str ("n.c" : Str), D.str ("n.d" : Str), D.str ("m.e" : Str), D.str ("n.f" : Str)] = six.map T := rfl
    have hSD : (six.map T).length ≤ 16777216 := by rw [List.length_map, e6]; omega
    have e0 : dS (fun n => D.ref ((fun _ => 0) n)) (nms []) = [] := rfl
    have g0 : gmTup 2 (gmCons (gmName 8) (gmCons (gmName 11) (gmNil))) = gmTup 2 (gmCons (gmName 8) (gmCons (gmName 11) (gmNil))) := rfl
    unfold HS
    rw [e0]
    generalize (six.take (r + 1)).map T = NT at *
    generalize six.map T = SD at *
    unfold W3 W4
    simp [bodyM, sSeq, s_thenNx, s_thenRt, s_loopNx, s_loopRt, s_loopCt, s_loopBk, sAsg, sRet, sRetN, sDrop, sNil, sPar, sBrk, sCnt, eVar, eC, eOp, gmName, gmSub, eCallB, aCons, aNil, eB, eIf, eTru, mAnd, mOr, mNot, mYes, eMeth, eTup, eLst, eL, eDict0, eDict1, r_for1, forR_nat, r_forS, r_lc1, lcR_nat, r_lcS, n_non, n_bl, n_int, n_str, n_tup, n_rol, n_ref, b_non, b_bl, b_int, b_str, b_tup, b_rol, b_ref, eSetd, eItems, gmTup, gmCons, gmNil, dKey, eCall, eCallP, eDc, iSeq, wipeE, eUn, eIsi, eAnd, eOr, eNot, R.bind_ok, noX_ok, s_atI, s_atI0, s_atI1, s_atI2, s_atI3, s_atI4, s_atI5, s_add, s_sub, s_lt, s_le, s_gt, s_ge, s_isN, s_isB, s_eq_ii, s_eq_ss, s_eq_in, s_eq_ni, s_eq_nn, s_eq_sn, s_eq_ns, s_eq_bb, s_lenT, s_lenR, s_int, s_listT, s_listR, s_tupT, s_truB, s_truN, s_truI, s_truT, s_oB, s_itT, s_itR, s_inTI, s_inTS, s_isLst, r_in, r_inDi, r_inDs, inL_I, inL_S, r_ix, r_ixT, r_ixR, r_ixLi, r_ixDi, r_ixDs, r_len, r_list, r_tup, r_sort, r_tru, r_tyL, r_tyD, r_append, r_pop, r_extT, r_extR, r_it, eSl, oNone, oSome, szl, bx_app, bx_len, esix, hSD, q, hsl]
end K04

namespace K04
open PySem L2 PM
theorem six_repr : ∀ x ∈ six, (reprText x).length ≤ 100 := by decide +kernel
theorem nice_T {x : Str} (h : x ∈ six) (k : Nat) : Nice (k + 1) (T x) := ⟨.str x, fun _ => rfl, by
  rw [goodP, decide_eq_true_eq, szl]
  have := six_repr x h
  omega⟩
theorem nice_Ts {L : List Str} (h : ∀ x ∈ L, x ∈ six) (hl : L.length ≤ 1000) (k : Nat) : Nice (k + 2) (.tup (L.map T)) :=
  nice_tup (fun d hd => by
    obtain ⟨x, hx, rfl⟩ := List.mem_map.mp hd
    exact nice_T (h x hx) k) (by rw [List.length_map]; omega)
theorem who_eq {cs : List Fn} (ok : OkC cs) (n : Str) : (nms cs).filter (fun o => decide (n ∈ clo cs o)) = whoF cs n := by
  unfold whoF nms
  rw [List.filter_map]
  congr 1
  apply List.filter_congr
  intro c hc
  show decide (n ∈ clo cs c.1) = decide (n ∈ c.2)
  rw [clo_of ok.nd hc, Bool.eq_iff_iff, decide_eq_true_eq, decide_eq_true_eq, cal_mem]
def dueD (cs : List Fn) (n : Str) : D := .tup [T n, .tup ((srtS (whoF cs n)).map T)]
section
variable {cs : List Fn} {t1 r1 n1 : Nat} {rf : Str → Nat} {h : AH} {x0 x1 x2 x3 x4 x5 x6 x7 x8 x9 x12 x13 x14 : Option D}
theorem w6n (hr : h[r1]? = some (Ob.lst (cs.map rowD))) {x10 x11 : Option D} : W6 [x0, x1, x2, x3, x4, x5, x6, x7, some (.ref r1), x9, x10, x11, x12, x13, none, none, none, none] h =
    .ok (.nx [x0, x1, x2, x3, x4, x5, x6, x7, some (.ref r1), x9, x10, x11, x12, x13, some (codeD cs), none, none, none]) h := by
  simp [bodyM, sSeq, s_thenNx, s_thenRt, s_loopNx, s_loopRt, s_loopCt, s_loopBk, sAsg, sRet, sRetN, sDrop, sNil, sPar, sBrk, sCnt, eVar, eC, eOp, gmName, gmSub, eCallB, aCons, aNil, eB, eIf, eTru, mAnd, mOr, mNot, mYes, eMeth, eTup, eLst, eL, eDict0, eDict1, r_for1, forR_nat, r_forS, r_lc1, lcR_nat, r_lcS, n_non, n_bl, n_int, n_str, n_tup, n_rol, n_ref, b_non, b_bl, b_int, b_str, b_tup, b_rol, b_ref, eSetd, eItems, gmTup, gmCons, gmNil, dKey, eCall, eCallP, eDc, iSeq, wipeE, eUn, eIsi, eAnd, eOr, eNot, R.bind_ok, noX_ok, s_atI, s_atI0, s_atI1, s_atI2, s_atI3, s_atI4, s_atI5, s_add, s_sub, s_lt, s_le, s_gt, s_ge, s_isN, s_isB, s_eq_ii, s_eq_ss, s_eq_in, s_eq_ni, s_eq_nn, s_eq_sn, s_eq_ns, s_eq_bb, s_lenT, s_lenR, s_int, s_listT, s_listR, s_tupT, s_truB, s_truN, s_truI, s_truT, s_oB, s_itT, s_itR, s_inTI, s_inTS, s_isLst, r_in, r_inDi, r_inDs, inL_I, inL_S, r_ix, r_ixT, r_ixR, r_ixLi, r_ixDi, r_ixDs, r_len, r_list, r_tup, r_sort, r_tru, r_tyL, r_tyD, r_append, r_pop, r_extT, r_extR, r_it, hr, szl, codeD]
abbrev inE : TM := eB (eOp (oIn false) (eVar 12) (eOp oIx (eVar 11) (eVar 17)))
theorem who_run (ok : OkC cs) (hn : h[n1]? = some (Ob.lst ((nms cs).map T))) (H : HT cs t1 rf h) {a : Str} : lcM [x0, x1, x2, x3, x4, x5, x6, x7, x8, x9, some (.ref n1), some (.ref t1), some (T a), x13, x14, none, none, none] (gmName 17) inE (eVar 17) (fun h' => isLst ((nms cs).map T) h'[n1]?) ((nms cs).map T) [] h =
    .ok ((whoF cs a).map T) h := by
  have q := lc_pure (xs := nms cs) (F := T) (G := T) (p := fun o => decide (a ∈ clo cs o)) (env0 := [x0, x1, x2, x3, x4, x5, x6, x7, x8, x9, some (.ref n1), some (.ref t1), some (T a), x13, x14, none, none, none]) (g := gmName 17) (t := inE) (e := eVar 17)
    (chk := fun h' => isLst ((nms cs).map T) h'[n1]?) (h := h) (fun y => [x0, x1, x2, x3, x4, x5, x6, x7, x8, x9, some (.ref n1), some (.ref t1), some (T a), x13, x14, none, none, some (T y)])
    (by rw [hn]; exact s_isLst) (fun y _ => by simp [gmName]) (fun y hy => by
      have hz := H.at_ y hy
      have hix := HT.ixd (rf := rf) hy h
      have hi := inL_T (h := h) (neg := false) (a := a) (ns := clo cs y)
      have htab := H.tab
      generalize dS (fun n => D.ref (rf n)) (nms cs) = kvs at *
      simp [bodyM, sSeq, s_thenNx, s_thenRt, s_loopNx, s_loopRt, s_loopCt, s_loopBk, sAsg, sRet, sRetN, sDrop, sNil, sPar, sBrk, sCnt, eVar, eC, eOp, gmName, gmSub, eCallB, aCons, aNil, eB, eIf, eTru, mAnd, mOr, mNot, mYes, eMeth, eTup, eLst, eL, eDict0, eDict1, r_for1, forR_nat, r_forS, r_lc1, lcR_nat, r_lcS, n_non, n_bl, n_int, n_str, n_tup, n_rol, n_ref, b_non, b_bl, b_int, b_str, b_tup, b_rol, b_ref, eSetd, eItems, gmTup, gmCons, gmNil, dKey, eCall, eCallP, eDc, iSeq, wipeE, eUn, eIsi, eAnd, eOr, eNot, R.bind_ok, noX_ok, s_atI, s_atI0, s_atI1, s_atI2, s_atI3, s_atI4, s_atI5, s_add, s_sub, s_lt, s_le, s_gt, s_ge, s_isN, s_isB, s_eq_ii, s_eq_ss, s_eq_in, s_eq_ni, s_eq_nn, s_eq_sn, s_eq_ns, s_eq_bb, s_lenT, s_lenR, s_int, s_listT, s_listR, s_tupT, s_truB, s_truN, s_truI, s_truT, s_oB, s_itT, s_itR, s_inTI, s_inTS, s_isLst, r_in, r_inDi, r_inDs, inL_I, inL_S, r_ix, r_ixT, r_ixR, r_ixLi, r_ixDi, r_ixDs, r_len, r_list, r_tup, r_sort, r_tru, r_tyL, r_tyD, r_append, r_pop, r_extT, r_extR, r_it, htab, hix, hz]
      simp only [T]
      simp [r_in, hz, hi, s_oB]) (fun y _ _ => by simp [bodyM, sSeq, s_thenNx, s_thenRt, s_loopNx, s_loopRt, s_loopCt, s_loopBk, sAsg, sRet, sRetN, sDrop, sNil, sPar, sBrk, sCnt, eVar, eC, eOp, gmName, gmSub, eCallB, aCons, aNil, eB, eIf, eTru, mAnd, mOr, mNot, mYes, eMeth, eTup, eLst, eL, eDict0, eDict1, r_for1, forR_nat, r_forS, r_lc1, lcR_nat, r_lcS, n_non, n_bl, n_int, n_str, n_tup, n_rol, n_ref, b_non, b_bl, b_int, b_str, b_tup, b_rol, b_ref, eSetd, eItems, gmTup, gmCons, gmNil, dKey, eCall, eCallP, eDc, iSeq, wipeE, eUn, eIsi, eAnd, eOr, eNot, R.bind_ok, noX_ok, s_atI, s_atI0, s_atI1, s_atI2, s_atI3, s_atI4, s_atI5, s_add, s_sub, s_lt, s_le, s_gt, s_ge, s_isN, s_isB, s_eq_ii, s_eq_ss, s_eq_in, s_eq_ni, s_eq_nn, s_eq_sn, s_eq_ns, s_eq_bb, s_lenT, s_lenR, s_int, s_listT, s_listR, s_tupT, s_truB, s_truN, s_truI, s_truT, s_oB, s_itT, s_itR, s_inTI, s_inTS, s_isLst, r_in, r_inDi, r_inDs, inL_I, inL_S, r_ix, r_ixT, r_ixR, r_ixLi, r_ixDi, r_ixDs, r_len, r_list, r_tup, r_sort, r_tru, r_tyL, r_tyD, r_append, r_pop, r_extT, r_extR, r_it]) (by have := ok.len; simp; omega)
  rw [who_eq ok] at q
  exact q
abbrev duE : EM := eTup (aCons (eVar 12) (aCons (eCallB (aCons (eCallB (aCons (eL (lComp (iSeq (eVar 10)) [17] (gmName 17) inE (eVar 17))) (aNil)) oSorted) (aNil)) oTuple) (aNil)))
theorem w7n (ok : OkC cs) (hn : h[n1]? = some (Ob.lst ((nms cs).map T))) (H : HT cs t1 rf h) : ∃ g r, W7 [x0, x1, x2, x3, x4, x5, x6, x7, x8, x9, some (.ref n1), some (.ref t1), x12, x13, x14, none, none, none] h =
    .ok (.nx [x0, x1, x2, x3, x4, x5, x6, x7, x8, some (.ref r), some (.ref n1), some (.ref t1), x12, x13, x14, none, none, none]) (h ++ g) ∧ (h ++ g)[r]? = some (Ob.lst ((nms cs).map (dueD cs))) := by
  have hl := ok.len
  obtain ⟨h', q, g, e⟩ := lc_run (xs := nms cs) (F := T) (G := dueD cs) (p := fun _ => true) (env0 := [x0, x1, x2, x3, x4, x5, x6, x7, x8, x9, some (.ref n1), some (.ref t1), none, x13, x14, none, none, none]) (g := gmName 12) (t := mYes) (e := duE)
    (chk := fun h' => isLst ((nms cs).map T) h'[n1]?) (fun h' => ∃ g, h' = h ++ g) (fun h' ⟨g, e⟩ => by subst e; rw [get_app hn]; exact s_isLst)
    (fun a ha h' ⟨g, e⟩ => by
      subst e
      have hn' : (h ++ g)[n1]? = some (Ob.lst ((nms cs).map T)) := get_app hn
      have q := who_run ok hn' (H.app g) (a := a) (x0 := x0) (x1 := x1) (x2 := x2) (x3 := x3) (x4 := x4) (x5 := x5) (x6 := x6) (x7 := x7) (x8 := x8) (x9 := x9) (x13 := x13) (x14 := x14)
      refine ⟨[x0, x1, x2, x3, x4, x5, x6, x7, x8, x9, some (.ref n1), some (.ref t1), some (T a), x13, x14, none, none, none], h ++ g, h ++ g, rfl, rfl, fun z => (nomatch z), fun _ => ⟨h ++ g ++ [Ob.lst ((whoF cs a).map T), Ob.lst ((srtS (whoF cs a)).map T)], ?_, g ++ [Ob.lst ((whoF cs a).map T), Ob.lst ((srtS (whoF cs a)).map T)], by simp⟩⟩
      have hwl := who_len cs a
      have hs : ∀ b h, sortL b ((whoF cs a).map T) h = .ok (.ref h.length) (h ++ [.lst ((srtS (whoF cs a)).map T)]) := fun b h => sortL_T (by omega)
      unfold duE dueD
      generalize inE = Td at q ⊢
      generalize (h ++ g) = h1 at *
      generalize (whoF cs a) = wf at *
      generalize (nms cs).map T = NL at hn' q
      simp [bodyM, sSeq, s_thenNx, s_thenRt, s_loopNx, s_loopRt, s_loopCt, s_loopBk, sAsg, sRet, sRetN, sDrop, sNil, sPar, sBrk, sCnt, eVar, eC, eOp, gmName, gmSub, eCallB, aCons, aNil, eB, eIf, eTru, mAnd, mOr, mNot, mYes, eMeth, eTup, eLst, eL, eDict0, eDict1, r_for1, forR_nat, r_forS, r_lc1, lcR_nat, r_lcS, n_non, n_bl, n_int, n_str, n_tup, n_rol, n_ref, b_non, b_bl, b_int, b_str, b_tup, b_rol, b_ref, eSetd, eItems, gmTup, gmCons, gmNil, dKey, eCall, eCallP, eDc, iSeq, wipeE, eUn, eIsi, eAnd, eOr, eNot, R.bind_ok, noX_ok, s_atI, s_atI0, s_atI1, s_atI2, s_atI3, s_atI4, s_atI5, s_add, s_sub, s_lt, s_le, s_gt, s_ge, s_isN, s_isB, s_eq_ii, s_eq_ss, s_eq_in, s_eq_ni, s_eq_nn, s_eq_sn, s_eq_ns, s_eq_bb, s_lenT, s_lenR, s_int, s_listT, s_listR, s_tupT, s_truB, s_truN, s_truI, s_truT, s_oB, s_itT, s_itR, s_inTI, s_inTS, s_isLst, r_in, r_inDi, r_inDs, inL_I, inL_S, r_ix, r_ixT, r_ixR, r_ixLi, r_ixDi, r_ixDs, r_len, r_list, r_tup, r_sort, r_tru, r_tyL, r_tyD, r_append, r_pop, r_extT, r_extR, r_it, hn', q, hs, szl])
    [] h ⟨[], by simp⟩ (by simp; omega)
  subst e
  rw [List.nil_append, ft] at q
  refine ⟨g ++ [Ob.lst ((nms cs).map (dueD cs))], (h ++ g).length, ?_, by rw [← List.append_assoc]; exact get_at _ _ []⟩
  show sAsg (eL (lComp (iSeq (eVar 10)) [12] (gmName 12) (mYes) duE)) (gmName 9) _ _ = _
  generalize duE = Ed at q ⊢
  generalize (mYes : TM) = Yd at q ⊢
  generalize (nms cs) = N at *
  simp [bodyM, sSeq, s_thenNx, s_thenRt, s_loopNx, s_loopRt, s_loopCt, s_loopBk, sAsg, sRet, sRetN, sDrop, sNil, sPar, sBrk, sCnt, eVar, eC, eOp, gmName, gmSub, eCallB, aCons, aNil, eB, eIf, eTru, mAnd, mOr, mNot, mYes, eMeth, eTup, eLst, eL, eDict0, eDict1, r_for1, forR_nat, r_forS, r_lc1, lcR_nat, r_lcS, n_non, n_bl, n_int, n_str, n_tup, n_rol, n_ref, b_non, b_bl, b_int, b_str, b_tup, b_rol, b_ref, eSetd, eItems, gmTup, gmCons, gmNil, dKey, eCall, eCallP, eDc, iSeq, wipeE, eUn, eIsi, eAnd, eOr, eNot, R.bind_ok, noX_ok, s_atI, s_atI0, s_atI1, s_atI2, s_atI3, s_atI4, s_atI5, s_add, s_sub, s_lt, s_le, s_gt, s_ge, s_isN, s_isB, s_eq_ii, s_eq_ss, s_eq_in, s_eq_ni, s_eq_nn, s_eq_sn, s_eq_ns, s_eq_bb, s_lenT, s_lenR, s_int, s_listT, s_listR, s_tupT, s_truB, s_truN, s_truI, s_truT, s_oB, s_itT, s_itR, s_inTI, s_inTS, s_isLst, r_in, r_inDi, r_inDs, inL_I, inL_S, r_ix, r_ixT, r_ixR, r_ixLi, r_ixDi, r_ixDs, r_len, r_list, r_tup, r_sort, r_tru, r_tyL, r_tyD, r_append, r_pop, r_extT, r_extR, r_it, hn, q]
theorem run_callers (ok : OkC cs) (h : AH) : runP mCallers [codeD cs] h = .ok (.ref h.length) (h ++ [.dic false (dS (fun n => .tup ((srtS (whoF cs n)).map T)) (nms cs))]) := by
  obtain ⟨h', k, e, ek⟩ := callers_run ok
  exact s_runD (by simp [purs, pur_code]) e ek (by unfold dS; simp [pur, purs_map pur_T])
theorem items_due (cs : List Fn) (L : List Str) : (dS (fun n => D.tup ((srtS (whoF cs n)).map T)) L).map (fun p => D.tup [keyD p.1, p.2]) = L.map (dueD cs) := by
  unfold dS dueD
  rw [List.map_map]
  rfl
theorem w8n (ok : OkC cs) (h6 : ∀ x ∈ nms cs, x ∈ six) {r : Nat} (hr : h[r]? = some (Ob.lst ((nms cs).map (dueD cs)))) {x10 x11 : Option D} : ∃ g, W8 [x0, x1, x2, x3, x4, x5, x6, x7, x8, some (.ref r), x10, x11, x12, x13, some (codeD cs), none, none, none] h =
    .ok (.nx [x0, x1, x2, x3, x4, x5, x6, x7, x8, some (.ref r), x10, x11, x12, x13, some (codeD cs), none, none, none]) (h ++ g) := by
  have hl := ok.len
  have nice : ∀ x ∈ (nms cs).map (dueD cs), Nice 7 x := fun x hx => by
    obtain ⟨n, hn, rfl⟩ := List.mem_map.mp hx
    refine nice_tup (fun y hy => ?_) (by simp)
    rcases List.mem_cons.mp hy with rfl | hy
    · exact nice_T (h6 n hn) 5
    · rw [List.mem_singleton.mp hy]
      refine nice_Ts (fun z hz => h6 z ?_) ?_ 4
      · have := (srtS_mem _ _).mp hz
        unfold whoF at this
        obtain ⟨c, hc, rfl⟩ := List.mem_map.mp this
        exact List.mem_map.mpr ⟨c, (List.mem_filter.mp hc).1, rfl⟩
      · have h1 : (srtS (whoF cs n)).length = (whoF cs n).length := (List.mergeSort_perm _ _).length_eq
        have h2 := who_len cs n
        omega
  have hs := same_l (k := 7) (m := h.length + 1) (n := r) (xs := (nms cs).map (dueD cs)) (h := h ++ [.dic false (dS (fun n => .tup ((srtS (whoF cs n)).map T)) (nms cs)), .lst ((nms cs).map (dueD cs))])
    (by simp) (get_app hr) nice (by simp; omega)
  refine ⟨[.dic false (dS (fun n => .tup ((srtS (whoF cs n)).map T)) (nms cs)), .lst ((nms cs).map (dueD cs))], ?_⟩
  have hi := items_due cs (nms cs)
  have hrc := run_callers ok
  generalize (nms cs).map (dueD cs) = DL at *
  generalize dS (fun n => D.tup ((srtS (whoF cs n)).map T)) (nms cs) = KV at *
  simp [bodyM, sSeq, s_thenNx, s_thenRt, s_loopNx, s_loopRt, s_loopCt, s_loopBk, sAsg, sRet, sRetN, sDrop, sNil, sPar, sBrk, sCnt, eVar, eC, eOp, gmName, gmSub, eCallB, aCons, aNil, eB, eIf, eTru, mAnd, mOr, mNot, mYes, eMeth, eTup, eLst, eL, eDict0, eDict1, r_for1, forR_nat, r_forS, r_lc1, lcR_nat, r_lcS, n_non, n_bl, n_int, n_str, n_tup, n_rol, n_ref, b_non, b_bl, b_int, b_str, b_tup, b_rol, b_ref, eSetd, eItems, gmTup, gmCons, gmNil, dKey, eCall, eCallP, eDc, iSeq, wipeE, eUn, eIsi, eAnd, eOr, eNot, R.bind_ok, noX_ok, s_atI, s_atI0, s_atI1, s_atI2, s_atI3, s_atI4, s_atI5, s_add, s_sub, s_lt, s_le, s_gt, s_ge, s_isN, s_isB, s_eq_ii, s_eq_ss, s_eq_in, s_eq_ni, s_eq_nn, s_eq_sn, s_eq_ns, s_eq_bb, s_lenT, s_lenR, s_int, s_listT, s_listR, s_tupT, s_truB, s_truN, s_truI, s_truT, s_oB, s_itT, s_itR, s_inTI, s_inTS, s_isLst, r_in, r_inDi, r_inDs, inL_I, inL_S, r_ix, r_ixT, r_ixR, r_ixLi, r_ixDi, r_ixDs, r_len, r_list, r_tup, r_sort, r_tru, r_tyL, r_tyD, r_append, r_pop, r_extT, r_extR, r_it, hrc, hi, hs]
end
end K04

namespace K04
open PySem L2 PM
abbrev kB : SM := eIf (mOr (mNot (eTru (eCall (aCons (eCallP (aCons (eOp oIx (eVar 8) (eVar 15)) (aNil)) mCallsOf) (aCons (eCallB (aCons (eOp oIx (eVar 11) (eOp oIx (eVar 10) (eVar 15))) (aNil)) oTuple) (aNil))) (mLawSameN 8)))) (mNot (eTru (eCall (aCons (eCallP (aCons (eVar 14) (aCons (eOp oIx (eVar 10) (eVar 15)) (aNil))) mCallsFar) (aCons (eCall (aCons (eVar 11) (aCons (eOp oIx (eVar 10) (eVar 15)) (aNil))) mLawFar) (aNil))) (mLawSameN 8))))) (sRet (eC (.bl false))) (sNil)
section
variable {cs : List Fn} {t1 r1 n1 : Nat} {rf : Str → Nat} {h : AH} {x0 x1 x2 x3 x4 x5 x6 x7 x9 x12 x13 : Option D}
theorem kB_run (ok : OkC cs) (h6 : ∀ x ∈ nms cs, x ∈ six) (hr : h[r1]? = some (Ob.lst (cs.map rowD))) (hn : h[n1]? = some (Ob.lst ((nms cs).map T))) (H : HT cs t1 rf h) {k : Nat} (hk : k < cs.length) : ∃ g, kB [x0, x1, x2, x3, x4, x5, x6, x7, some (.ref r1), x9, some (.ref n1), some (.ref t1), x12, x13, some (codeD cs), some (.int (k : Int)), none, none] h =
    .ok (.nx [x0, x1, x2, x3, x4, x5, x6, x7, some (.ref r1), x9, some (.ref n1), some (.ref t1), x12, x13, some (codeD cs), some (.int (k : Int)), none, none]) (h ++ g) := by
  have hl := ok.len
  have hc : cs[k] ∈ cs := List.getElem_mem hk
  generalize hcc : cs[k] = c at hc
  have hrow : (cs.map rowD)[k]? = some (rowD c) := by rw [List.getElem?_map, List.getElem?_eq_getElem hk, hcc]; rfl
  have hnam : ((nms cs).map T)[k]? = some (T c.1) := by rw [List.map_map, List.getElem?_map, List.getElem?_eq_getElem hk, hcc]; rfl
  have ha : c.1 ∈ nms cs := List.mem_map.mpr ⟨c, hc, rfl⟩
  have hcl := ok.cl c hc
  have hix := fun h => HT.ixd (rf := rf) ha h
  have htab := H.tab
  have hz := H.at_ c.1 ha
  have hcalls := run_calls (c := c) (by omega)
  rw [← clo_of ok.nd hc] at hcalls
  have s1 : ∀ h, mLawSameN 8 [.tup ((clo cs c.1).map T), .tup ((clo cs c.1).map T)] h = .ok (.bl true) h := fun h => same_n (nice_Ts (fun x hx => h6 x (clo_sub ok ha hx)) (by have := clo_len ok ha; omega) 6)
  have hfar := run_far ok ha
  obtain ⟨g, q⟩ := lawFar_run ok H ha
  have hfl : ∀ x ∈ farL cs c.1, x ∈ nms cs := fun x hx => (itF_ok ok ha cs.length).2 x ((cal_mem _ _).mp hx)
  have s2 : ∀ h, mLawSameN 8 [.tup ((farL cs c.1).map T), .tup ((farL cs c.1).map T)] h = .ok (.bl true) h := fun h => same_n (nice_Ts (fun x hx => h6 x (hfl x hx)) (by
    have h1 := nodup_len (cal_nd (itF cs c.1 cs.length)) hfl
    have h2 : (nms cs).length = cs.length := by simp
    unfold farL; omega) 6)
  refine ⟨g, ?_⟩
  generalize (clo cs c.1).map T = CL at *
  generalize (farL cs c.1).map T = FL at *
  generalize dS (fun n => D.ref (rf n)) (nms cs) = kvs at *
  generalize (nms cs).map T = NL at *
  generalize cs.map rowD = RL at *
  simp [bodyM, sSeq, s_thenNx, s_thenRt, s_loopNx, s_loopRt, s_loopCt, s_loopBk, sAsg, sRet, sRetN, sDrop, sNil, sPar, sBrk, sCnt, eVar, eC, eOp, gmName, gmSub, eCallB, aCons, aNil, eB, eIf, eTru, mAnd, mOr, mNot, mYes, eMeth, eTup, eLst, eL, eDict0, eDict1, r_for1, forR_nat, r_forS, r_lc1, lcR_nat, r_lcS, n_non, n_bl, n_int, n_str, n_tup, n_rol, n_ref, b_non, b_bl, b_int, b_str, b_tup, b_rol, b_ref, eSetd, eItems, gmTup, gmCons, gmNil, dKey, eCall, eCallP, eDc, iSeq, wipeE, eUn, eIsi, eAnd, eOr, eNot, R.bind_ok, noX_ok, s_atI, s_atI0, s_atI1, s_atI2, s_atI3, s_atI4, s_atI5, s_add, s_sub, s_lt, s_le, s_gt, s_ge, s_isN, s_isB, s_eq_ii, s_eq_ss, s_eq_in, s_eq_ni, s_eq_nn, s_eq_sn, s_eq_ns, s_eq_bb, s_lenT, s_lenR, s_int, s_listT, s_listR, s_tupT, s_truB, s_truN, s_truI, s_truT, s_oB, s_itT, s_itR, s_inTI, s_inTS, s_isLst, r_in, r_inDi, r_inDs, inL_I, inL_S, r_ix, r_ixT, r_ixR, r_ixLi, r_ixDi, r_ixDs, r_len, r_list, r_tup, r_sort, r_tru, r_tyL, r_tyD, r_append, r_pop, r_extT, r_extR, r_it, hr, hrow, hn, hnam, htab, hix, hz, hcalls, s1, hfar, q, s2]
theorem w9n (ok : OkC cs) (h6 : ∀ x ∈ nms cs, x ∈ six) (hr : h[r1]? = some (Ob.lst (cs.map rowD))) (hn : h[n1]? = some (Ob.lst ((nms cs).map T))) (H : HT cs t1 rf h) : ∃ g x15', W9 [x0, x1, x2, x3, x4, x5, x6, x7, some (.ref r1), x9, some (.ref n1), some (.ref t1), x12, x13, some (codeD cs), none, none, none] h =
    .ok (.nx [x0, x1, x2, x3, x4, x5, x6, x7, some (.ref r1), x9, some (.ref n1), some (.ref t1), x12, x13, some (codeD cs), x15', none, none]) (h ++ g) := by
  have hl := ok.len
  have sm : SmN cs.length := by unfold SmN; omega
  obtain ⟨env', h', q, g, x15', e1, e2⟩ := for_run (xs := List.range cs.length) (F := fun i : Nat => D.int ((i : Nat) : Int)) (g := gmName 15) (b := kB) (chk := fun _ => true)
    (fun i env h' => ∃ g x15, env = [x0, x1, x2, x3, x4, x5, x6, x7, some (.ref r1), x9, some (.ref n1), some (.ref t1), x12, x13, some (codeD cs), x15, none, none] ∧ h' = h ++ g)
    (fun _ _ _ _ _ => rfl)
    (fun i k hi env h' ⟨g, x15, e1, e2⟩ => by
      subst e1 e2
      have hk : k < cs.length := List.mem_range.mp (List.mem_of_getElem? hi)
      obtain ⟨g2, q⟩ := kB_run ok h6 (h := h ++ g) (get_app hr) (get_app hn) (H.app g) hk (x0 := x0) (x1 := x1) (x2 := x2) (x3 := x3) (x4 := x4) (x5 := x5) (x6 := x6) (x7 := x7) (x9 := x9) (x12 := x12) (x13 := x13)
      exact ⟨_, _, _, _, rfl, q, g ++ g2, some (.int (k : Int)), rfl, by simp⟩)
    (env := [x0, x1, x2, x3, x4, x5, x6, x7, some (.ref r1), x9, some (.ref n1), some (.ref t1), x12, x13, some (codeD cs), none, none, none]) (h := h) ⟨[], none, rfl, by simp⟩
  subst e1 e2
  refine ⟨g, x15', ?_⟩
  rw [← q]
  show sFor (iRange1 (aCons (eCallB (aCons (eVar 10) (aNil)) oLen) (aNil))) (gmName 15) kB _ _ = _
  generalize kB = Bd
  have hnl : ((nms cs).map T).length = cs.length := by simp
  generalize (nms cs).map T = NL at *
  simp [bodyM, sSeq, s_thenNx, s_thenRt, s_loopNx, s_loopRt, s_loopCt, s_loopBk, sAsg, sRet, sRetN, sDrop, sNil, sPar, sBrk, sCnt, eVar, eC, eOp, gmName, gmSub, eCallB, aCons, aNil, eB, eIf, eTru, mAnd, mOr, mNot, mYes, eMeth, eTup, eLst, eL, eDict0, eDict1, r_for1, forR_nat, r_forS, r_lc1, lcR_nat, r_lcS, n_non, n_bl, n_int, n_str, n_tup, n_rol, n_ref, b_non, b_bl, b_int, b_str, b_tup, b_rol, b_ref, eSetd, eItems, gmTup, gmCons, gmNil, dKey, eCall, eCallP, eDc, iSeq, wipeE, eUn, eIsi, eAnd, eOr, eNot, R.bind_ok, noX_ok, s_atI, s_atI0, s_atI1, s_atI2, s_atI3, s_atI4, s_atI5, s_add, s_sub, s_lt, s_le, s_gt, s_ge, s_isN, s_isB, s_eq_ii, s_eq_ss, s_eq_in, s_eq_ni, s_eq_nn, s_eq_sn, s_eq_ns, s_eq_bb, s_lenT, s_lenR, s_int, s_listT, s_listR, s_tupT, s_truB, s_truN, s_truI, s_truT, s_oB, s_itT, s_itR, s_inTI, s_inTS, s_isLst, r_in, r_inDi, r_inDs, inL_I, inL_S, r_ix, r_ixT, r_ixR, r_ixLi, r_ixDi, r_ixDs, r_len, r_list, r_tup, r_sort, r_tru, r_tyL, r_tyD, r_append, r_pop, r_extT, r_extR, r_it, hn, hnl, sm]
end
theorem w1n (ns : List Int) : ∃ ds : List Int, W1 [some (.rol (ns.map .int)), none, none, none, none, none, none, none, none, none, none, none, none, none, none, none, none, none] [] =
    .ok (.nx [some (.rol (ns.map .int)), some (.ref 1), none, none, none, none, none, none, none, none, none, none, none, none, none, none, none, none]) (Bx ds 0 []) := by
  obtain ⟨ds, q⟩ := digits_run ns
  have q' : runP mLawDigits [.rol (ns.map .int), .int 0, .int 30] [] = .ok (.ref 0) [.lst (ds.map .int)] := s_runL (by simp [purs, pur, purs_ints]) q rfl (purs_ints _)
  refine ⟨ds, ?_⟩
  simp [bodyM, sSeq, s_thenNx, s_thenRt, s_loopNx, s_loopRt, s_loopCt, s_loopBk, sAsg, sRet, sRetN, sDrop, sNil, sPar, sBrk, sCnt, eVar, eC, eOp, gmName, gmSub, eCallB, aCons, aNil, eB, eIf, eTru, mAnd, mOr, mNot, mYes, eMeth, eTup, eLst, eL, eDict0, eDict1, r_for1, forR_nat, r_forS, r_lc1, lcR_nat, r_lcS, n_non, n_bl, n_int, n_str, n_tup, n_rol, n_ref, b_non, b_bl, b_int, b_str, b_tup, b_rol, b_ref, eSetd, eItems, gmTup, gmCons, gmNil, dKey, eCall, eCallP, eDc, iSeq, wipeE, eUn, eIsi, eAnd, eOr, eNot, R.bind_ok, noX_ok, s_atI, s_atI0, s_atI1, s_atI2, s_atI3, s_atI4, s_atI5, s_add, s_sub, s_lt, s_le, s_gt, s_ge, s_isN, s_isB, s_eq_ii, s_eq_ss, s_eq_in, s_eq_ni, s_eq_nn, s_eq_sn, s_eq_ns, s_eq_bb, s_lenT, s_lenR, s_int, s_listT, s_listR, s_tupT, s_truB, s_truN, s_truI, s_truT, s_oB, s_itT, s_itR, s_inTI, s_inTS, s_isLst, r_in, r_inDi, r_inDs, inL_I, inL_S, r_ix, r_ixT, r_ixR, r_ixLi, r_ixDi, r_ixDs, r_len, r_list, r_tup, r_sort, r_tru, r_tyL, r_tyD, r_append, r_pop, r_extT, r_extR, r_it, q', szl, Bx]
theorem law_run (ns : List Int) : ∃ h', mLaw [.rol (ns.map .int)] [] = .ok (.bl true) h' := by
  obtain ⟨ds, q1⟩ := w1n ns
  obtain ⟨c, G, x2, x3, x4, x5, x6, x7, x8, x9, q2⟩ := turns_run (ds := ds) (c := 0) (G := []) (S := .rol (ns.map .int))
  obtain ⟨c', N, hz, nd, hN, h6, q34⟩ := w34n (ds := ds) (c := c) (G := G) (x0 := some (.rol (ns.map .int))) (x2 := x2) (x3 := x3) (x4 := x4) (x5 := x5) (x6 := x6) (x7 := x7) (x8 := x8) (x9 := x9)
  obtain ⟨c2, cs, rf, gb, x12, x13, q5, rw5⟩ := w5n (ds := ds) (c := c') (G := G) hz nd hN (x0 := some (.rol (ns.map .int))) (x2 := x2) (x3 := x3) (x4 := x4) (x5 := x5) (x6 := x6) (x7 := x7) (x9 := x9) (x12 := none) (x13 := none)
  have hnm : nms cs = N := by rw [rw5.nm, List.take_length]
  have hcl : cs.length = N.length := by rw [← hnm]; simp
  have ok : OkC cs := ⟨by rw [hnm]; exact nd, by omega, fun d hd => (rw5.cl d hd).1, fun d hd y hy => by rw [hnm]; exact (rw5.cl d hd).2 y hy⟩
  have h6' : ∀ x ∈ nms cs, x ∈ six := by rw [hnm]; exact h6
  have hn := hs_n (ds := ds) (c := c2) (G := G) (gb := gb) (N := N) (cs := cs) (rf := rf)
  have hr := hs_r (ds := ds) (c := c2) (G := G) (gb := gb) (N := N) (cs := cs) (rf := rf)
  have H : HT cs (G.length + 3 + 2) rf (HS ds c2 G N cs rf gb) := ⟨hs_t, fun a ha => by
    obtain ⟨d, hd, e⟩ := List.mem_map.mp ha
    obtain ⟨j, e4, e5⟩ := rw5.at_ d hd
    subst e
    rw [e4, hs_gb, e5, clo_of ok.nd hd]⟩
  subst hnm
  generalize HS ds c2 G (nms cs) cs rf gb = H5 at *
  have q6 := w6n hr (x0 := some (.rol (ns.map .int))) (x1 := some (.ref 1)) (x2 := x2) (x3 := x3) (x4 := x4) (x5 := x5) (x6 := x6) (x7 := x7) (x9 := x9) (x10 := some (.ref (G.length + 1 + 2))) (x11 := some (.ref (G.length + 3 + 2))) (x12 := x12) (x13 := x13)
  obtain ⟨g7, r, q7, hrr⟩ := w7n ok hn H (x0 := some (.rol (ns.map .int))) (x1 := some (.ref 1)) (x2 := x2) (x3 := x3) (x4 := x4) (x5 := x5) (x6 := x6) (x7 := x7) (x8 := some (.ref (G.length + 2 + 2))) (x9 := x9) (x12 := x12) (x13 := x13) (x14 := some (codeD cs))
  obtain ⟨g8, q8⟩ := w8n ok h6' hrr (x0 := some (.rol (ns.map .int))) (x1 := some (.ref 1)) (x2 := x2) (x3 := x3) (x4 := x4) (x5 := x5) (x6 := x6) (x7 := x7) (x8 := some (.ref (G.length + 2 + 2))) (x10 := some (.ref (G.length + 1 + 2))) (x11 := some (.ref (G.length + 3 + 2))) (x12 := x12) (x13 := x13)
  obtain ⟨g9, x15, q9⟩ := w9n ok h6' (h := H5 ++ g7 ++ g8) (get_app (get_app hr)) (get_app (get_app hn)) ((H.app g7).app g8) (x0 := some (.rol (ns.map .int))) (x1 := some (.ref 1)) (x2 := x2) (x3 := x3) (x4 := x4) (x5 := x5) (x6 := x6) (x7 := x7) (x9 := some (.ref r)) (x12 := x12) (x13 := x13)
  refine ⟨H5 ++ g7 ++ g8 ++ g9, ?_⟩
  have fin : Wb [some (.rol (ns.map .int)), none, none, none, none, none, none, none, none, none, none, none, none, none, none, none, none, none] [] = .ok (.rt (.bl true)) (H5 ++ g7 ++ g8 ++ g9) := by
    have e : ∀ env h, Wb env h = sSeq W1 (sSeq W2 (sSeq (sSeq W3 W4) (sSeq W5 (sSeq W6 (sSeq W7 (sSeq W8 (sSeq W9 W10))))))) env h := fun env h => by
      show (W1 env h).bind (thenS (sSeq W2 (sSeq W3 (sSeq W4 _)))) = (W1 env h).bind (thenS (sSeq W2 (sSeq (sSeq W3 W4) _)))
      congr 2
      funext env h
      show (W2 env h).bind (thenS (sSeq W3 (sSeq W4 _))) = (W2 env h).bind (thenS (sSeq (sSeq W3 W4) _))
      congr 2
      funext env h
      exact seq_assoc _ _ _ env h
    rw [e, sq_eq, q1, R.bind_ok, s_thenNx, sq_eq, q2, R.bind_ok, s_thenNx, sq_eq, q34, R.bind_ok, s_thenNx, sq_eq, q5, R.bind_ok, s_thenNx, sq_eq, q6, R.bind_ok, s_thenNx, sq_eq, q7, R.bind_ok, s_thenNx, sq_eq, q8, R.bind_ok, s_thenNx, sq_eq, q9, R.bind_ok, s_thenNx]
    rfl
  rw [law_eq]
  show (Wb _ _).bind _ = _
  have : ([some (D.rol (ns.map .int))] ++ List.replicate 17 none : PM.Env) = [some (.rol (ns.map .int)), none, none, none, none, none, none, none, none, none, none, none, none, none, none, none, none, none] := rfl
  show bodyM 18 Wb [.rol (ns.map .int)] [] = _
  generalize Wb = Bd at fin ⊢
  simp [bodyM, sSeq, s_thenNx, s_thenRt, s_loopNx, s_loopRt, s_loopCt, s_loopBk, sAsg, sRet, sRetN, sDrop, sNil, sPar, sBrk, sCnt, eVar, eC, eOp, gmName, gmSub, eCallB, aCons, aNil, eB, eIf, eTru, mAnd, mOr, mNot, mYes, eMeth, eTup, eLst, eL, eDict0, eDict1, r_for1, forR_nat, r_forS, r_lc1, lcR_nat, r_lcS, n_non, n_bl, n_int, n_str, n_tup, n_rol, n_ref, b_non, b_bl, b_int, b_str, b_tup, b_rol, b_ref, eSetd, eItems, gmTup, gmCons, gmNil, dKey, eCall, eCallP, eDc, iSeq, wipeE, eUn, eIsi, eAnd, eOr, eNot, R.bind_ok, noX_ok, s_atI, s_atI0, s_atI1, s_atI2, s_atI3, s_atI4, s_atI5, s_add, s_sub, s_lt, s_le, s_gt, s_ge, s_isN, s_isB, s_eq_ii, s_eq_ss, s_eq_in, s_eq_ni, s_eq_nn, s_eq_sn, s_eq_ns, s_eq_bb, s_lenT, s_lenR, s_int, s_listT, s_listR, s_tupT, s_truB, s_truN, s_truI, s_truT, s_oB, s_itT, s_itR, s_inTI, s_inTS, s_isLst, r_in, r_inDi, r_inDs, inL_I, inL_S, r_ix, r_ixT, r_ixR, r_ixLi, r_ixDi, r_ixDs, r_len, r_list, r_tup, r_sort, r_tru, r_tyL, r_tyD, r_append, r_pop, r_extT, r_extR, r_it, fin]
end K04

/-! printed by fin.py -/
namespace K04
open PySem L2 PM
def spEnd (K : PySem.W.Frag) : Sp := fun vs H Q _ => ∃ (a : Addr) (ns : List Int), vs = [.ref a] ∧ (∀ H', Stb H H' → SqL K H' a (ns.map V.int)) ∧ ∀ H', Q (.bl true) H'
theorem only_stb {K : PySem.W.Frag} {H : Hp} {a : Addr} {ns : List Int} (hO : Only H) (hS : SqL K H a (ns.map V.int)) : ∀ H', Stb H H' → SqL K H' a (ns.map V.int) := fun H' s => by
  rcases hS with h | h
  · rcases h with h | ⟨o, h⟩
    · rcases hO a with z | ⟨o, xs, z⟩
      · rw [z] at h; cases h
      · rw [z] at h; cases h
    · exact .inl (.inr ⟨o, s a _ h fun z => z⟩)
  · exact .inr h
theorem end_of {K : PySem.W.Frag} {mg : Str → Option Value} {f : FM} (q : ∀ ns : List Int, ∃ h', f [.rol (ns.map .int)] [] = .ok (.bl true) h') : ∀ vs H Q E, spEnd K vs H Q E → spM K mg 1 f vs H Q E := by
  rintro vs H Q E ⟨a, ns, rfl, st, z⟩
  obtain ⟨h', e⟩ := q ns
  refine ⟨rfl, [], [], [.rol (ns.map .int)], ⟨rfl, List.nodup_nil, fun i o a e => by simp at e⟩, ⟨.ref a, [], rfl, ⟨a, ns.map .int, rfl, st, rvs_of_ints ns⟩, rfl⟩, ?_⟩
  rw [e]
  intro ms' H' s rh v r
  have : v = .bl true := r
  subst this
  exact z H'
theorem law_fn {P : Program} {w : World} {K : PySem.W.Frag} {mg : Str → Option Value} {base : Heap} {fa : Addr} {fd : FuncData} (B : Bn mg) (F : Fun K "law" "law" s_law fa fd) (d__law_digits : DOk P w K mg base 2 "_law_digits" 3 mLawDigits) (d__law_blocks : DOk P w K mg base 2 "_law_blocks" 1 mLawBlocks) (d__law_met : DOk P w K mg base 2 "_law_met" 2 mLawMet) (d__law_same : DOk P w K mg base 8 "_law_same" 2 (mLawSameN 8)) (d_reach : DOk P w K mg base 2 "reach" 1 mReach) (d_arrows : DOk P w K mg base 3 "arrows" 1 mArrows) (d_loops : DOk P w K mg base 5 "loops" 1 mLoops) (d__law_loops : DOk P w K mg base 3 "_law_loops" 2 mLawLoops) (d__law_ways : DOk P w K mg base 1 "_law_ways" 1 mLawWays) (d_over : DOk P w K mg base 3 "over" 1 mOver) (d_dominators : DOk P w K mg base 4 "dominators" 1 mDominators) (d__law_draw : DOk P w K mg base 1 "_law_draw" 2 mLawDraw) (d__law_pick : DOk P w K mg base 2 "_law_pick" 2 mLawPick) (d_callers : DOk P w K mg base 2 "callers" 1 mCallers) (d_calls_of : DOk P w K mg base 1 "calls_of" 1 mCallsOf) (d_calls_far : DOk P w K mg base 2 "calls_far" 2 mCallsFar) (d__law_far : DOk P w K mg base 1 "_law_far" 2 mLawFar) : FnOk P w K mg base CX0 9 fa fd ["script"] (spM K mg 1 mLaw) :=
  fn_body (N := ["script", "box", "turn", "blocks", "met", "above", "nearest", "label", "rows", "due", "names", "table", "name", "called", "code", "k", "far", "other"]) F sc_law fun cdv A outer s H E hr =>
    have hu := hr.units
    have nd := sc_law.nd
    sds_cons (sd_set 1 nd (ed_lst (ad_cons (ed_callP (d__law_digits.mono (by decide)) hr (by rfl) (ad_cons (ed_var 0) (ad_cons (ed_int) (ad_cons (ed_int) (ad_nil))))) (ad_cons (ed_int) (ad_nil))))) (sds_cons (sd_for PassesOwn.never rfl (id_range1 (by rfl) B.h_range (ad_cons (ed_int) (ad_nil))) (gd_name nd (i := 2)) (sds_cons (sd_set 3 nd (ed_call (d__law_blocks.mono (by decide)) hr (by rfl) (ad_cons (ed_var 1) (ad_nil)))) (sds_cons (sd_set 4 nd (ed_callP (d__law_met.mono (by decide)) hr (by rfl) (ad_cons (ed_var 3) (ad_cons (ed_non) (ad_nil))))) (sds_cons (sd_if (td_not (td_tru (ed_call (d__law_same.mono (by decide)) hr (by rfl) (ad_cons (ed_callP (d_reach.mono (by decide)) hr (by rfl) (ad_cons (ed_var 3) (ad_nil))) (ad_cons (ed_callT om_tuple (by rfl) B.h_tuple (by decide +kernel) (ad_cons (ed_var 4) (ad_nil))) (ad_nil)))))) (sds_one (sd_ret (ed_bl))) (sds_nil)) (sds_cons (sd_set 5 nd (LD.ed (ld_lc [("label", 7)] rfl nd (blkOk_by (N := ["script", "box", "turn", "blocks", "met", "above", "nearest", "label", "rows", "due", "names", "table", "name", "called", "code", "k", "far", "other"]) (sc := (defScope s_law)) (own := [("label", 7)]) (by decide +kernel)) (id_range1 (by rfl) B.h_range (ad_cons (ed_callB om_len (by rfl) B.h_len (by decide +kernel) (ad_cons (ed_var 3) (ad_nil))) (ad_nil))) (bgd_name 7 nd) (btds_nil) (fun _ _ _ _ _ => ed_callT om_tuple (by rfl) B.h_tuple (by decide +kernel) (ad_cons (LD.ed (ld_lc [("far", 16)] rfl nd (blkOk_by (N := ["script", "box", "turn", "blocks", "met", "above", "nearest", "label", "rows", "due", "names", "table", "name", "called", "code", "k", "far", "other"]) (sc := (relS _ (defScope s_law))) (own := [("far", 16)]) (by decide +kernel)) (id_seq (ed_var 4)) (bgd_name 16 nd) (btds_one (fun _ _ _ _ _ => WD.td (wd_and (td_cmp (om_ne hu) (ed_var 16) (ed_var 7) (by rfl)) (wd_and1 (td_cmp (om_notin hu) (ed_var 7) (ed_callP (d__law_met.mono (by decide)) hr (by rfl) (ad_cons (ed_var 3) (ad_cons (ed_var 16) (ad_nil)))) (by rfl)))))) (fun _ _ _ _ _ => ed_var 16))) (ad_nil)))))) (sds_cons (sd_if (td_not (td_tru (ed_call (d__law_same.mono (by decide)) hr (by rfl) (ad_cons (ed_items rfl (ed_callP (d_over.mono (by decide)) hr (by rfl) (ad_cons (ed_var 3) (ad_nil))) (by rfl) B.h_list (by decide +kernel)) (ad_cons (LD.ed (ld_lc [("label", 7)] rfl nd (blkOk_by (N := ["script", "box", "turn", "blocks", "met", "above", "nearest", "label", "rows", "due", "names", "table", "name", "called", "code", "k", "far", "other"]) (sc := (defScope s_law)) (own := [("label", 7)]) (by decide +kernel)) (id_seq (ed_var 4)) (bgd_name 7 nd) (btds_nil) (fun _ _ _ _ _ => ed_tup (ad_cons (ed_var 7) (ad_cons (ed_ix hu (ed_var 5) (ed_var 7) (fun _ _ => rfl)) (ad_nil)))))) (ad_nil)))))) (sds_one (sd_ret (ed_bl))) (sds_nil)) (sds_cons (sd_set 6 nd (ed_lst (ad_nil))) (sds_cons (sd_for PassesOwn.never rfl (id_seq (ed_var 4)) (gd_name nd (i := 7)) (sds_cons (sd_setLc 8 [("far", 16)] rfl nd (blkOk_by (N := ["script", "box", "turn", "blocks", "met", "above", "nearest", "label", "rows", "due", "names", "table", "name", "called", "code", "k", "far", "other"]) (sc := (defScope s_law)) (own := [("far", 16)]) (by decide +kernel)) (id_seq (ed_ix hu (ed_var 5) (ed_var 7) (fun _ _ => rfl))) (bgd_name 16 nd) (btds_one (fun _ _ _ _ _ => td_cmp (om_eq hu) (ed_callB om_len (by rfl) B.h_len (by decide +kernel) (ad_cons (ed_ix hu (ed_var 5) (ed_var 16) (fun _ _ => rfl)) (ad_nil))) (ed_op om_sub (ed_callB om_len (by rfl) B.h_len (by decide +kernel) (ad_cons (ed_ix hu (ed_var 5) (ed_var 7) (fun _ _ => rfl)) (ad_nil))) (ed_int)) (by rfl))) (fun _ _ _ _ _ => ed_var 16) (sw_true rfl rfl (by rfl) (by decide +kernel))) (sds_one (sd_expr (ed_meth .l PySem.F.plainAttrs_list PySem.F.slot_list_append PySem.F.type_list_append om_append (ed_var 6) (ad_cons (ed_tup (ad_cons (ed_var 7) (ad_cons (ed_if (td_cmp (om_ne hu) (ed_var 8) (ed_lst (ad_nil)) (by rfl)) (ed_ix hu (ed_var 8) (ed_int) (fun _ _ => rfl)) (ed_non)) (ad_nil)))) (ad_nil))))))) (sds_cons (sd_if (WD.td (wd_or (td_not (td_tru (ed_call (d__law_same.mono (by decide)) hr (by rfl) (ad_cons (ed_items rfl (ed_callP (d_dominators.mono (by decide)) hr (by rfl) (ad_cons (ed_var 3) (ad_nil))) (by rfl) B.h_list (by decide +kernel)) (ad_cons (ed_var 6) (ad_nil)))))) (wd_or1 (td_not (td_tru (ed_call (d__law_same.mono (by decide)) hr (by rfl) (ad_cons (ed_callP (d_loops.mono (by decide)) hr (by rfl) (ad_cons (ed_var 3) (ad_nil))) (ad_cons (ed_call (d__law_loops.mono (by decide)) hr (by rfl) (ad_cons (ed_var 3) (ad_cons (ed_var 5) (ad_nil)))) (ad_nil))))))))) (sds_one (sd_ret (ed_bl))) (sds_nil)) (sds_cons (sd_set 9 nd (ed_lst (ad_nil))) (sds_cons (sd_for PassesOwn.never rfl (id_seq (ed_var 4)) (gd_name nd (i := 7)) (sds_one (sd_set 9 nd (ed_op om_add (ed_var 9) (LD.ed (ld_lc [("other", 17)] rfl nd (blkOk_by (N := ["script", "box", "turn", "blocks", "met", "above", "nearest", "label", "rows", "due", "names", "table", "name", "called", "code", "k", "far", "other"]) (sc := (defScope s_law)) (own := [("other", 17)]) (by decide +kernel)) (id_seq (ed_callP (d__law_ways.mono (by decide)) hr (by rfl) (ad_cons (ed_ix hu (ed_var 3) (ed_var 7) (fun _ _ => rfl)) (ad_nil)))) (bgd_name 17 nd) (btds_nil) (fun _ _ _ _ _ => ed_tup (ad_cons (ed_var 7) (ad_cons (ed_var 17) (ad_nil)))))))))) (sds_one (sd_if (td_not (td_tru (ed_call (d__law_same.mono (by decide)) hr (by rfl) (ad_cons (ed_callP (d_arrows.mono (by decide)) hr (by rfl) (ad_cons (ed_var 3) (ad_nil))) (ad_cons (LD.ed (ld_lc [("k", 15)] rfl nd (blkOk_by (N := ["script", "box", "turn", "blocks", "met", "above", "nearest", "label", "rows", "due", "names", "table", "name", "called", "code", "k", "far", "other"]) (sc := (defScope s_law)) (own := [("k", 15)]) (by decide +kernel)) (id_range1 (by rfl) B.h_range (ad_cons (ed_callB om_len (by rfl) B.h_len (by decide +kernel) (ad_cons (ed_var 9) (ad_nil))) (ad_nil))) (bgd_name 15 nd) (btds_one (fun _ _ _ _ _ => td_cmp (om_notin hu) (ed_ix hu (ed_var 9) (ed_var 15) (fun _ _ => rfl)) (ed_sl (ed_var 9) (od_none) (od_some (ed_var 15))) (by rfl))) (fun _ _ _ _ _ => ed_ix hu (ed_var 9) (ed_var 15) (fun _ _ => rfl)))) (ad_nil)))))) (sds_one (sd_ret (ed_bl))) (sds_nil)))))))))))))) (sds_cons (sd_set 10 nd (ed_sl (ed_lst (ad_cons (ed_str) (ad_cons (ed_str) (ad_cons (ed_str) (ad_cons (ed_str) (ad_cons (ed_str) (ad_cons (ed_str) (ad_nil)))))))) (od_none) (od_some (ed_op om_add (ed_int) (ed_call (d__law_draw.mono (by decide)) hr (by rfl) (ad_cons (ed_var 1) (ad_cons (ed_int) (ad_nil)))))))) (sds_cons (sd_asg (ed_tup (ad_cons (ed_lst (ad_nil)) (ad_cons (ed_dict0) (ad_nil)))) (gd_tup rfl (gds_cons (gd_name nd (i := 8)) (gds_cons (gd_name nd (i := 11)) (gds_nil))))) (sds_cons (sd_for PassesOwn.never rfl (id_seq (ed_var 10)) (gd_name nd (i := 12)) (sds_cons (sd_setLc 13 [("turn", 2)] rfl nd (blkOk_by (N := ["script", "box", "turn", "blocks", "met", "above", "nearest", "label", "rows", "due", "names", "table", "name", "called", "code", "k", "far", "other"]) (sc := (defScope s_law)) (own := [("turn", 2)]) (by decide +kernel)) (id_range1 (by rfl) B.h_range (ad_cons (ed_call (d__law_draw.mono (by decide)) hr (by rfl) (ad_cons (ed_var 1) (ad_cons (ed_int) (ad_nil)))) (ad_nil))) (bgd_name 2 nd) (btds_nil) (fun _ _ _ _ _ => ed_call (d__law_pick.mono (by decide)) hr (by rfl) (ad_cons (ed_var 1) (ad_cons (ed_var 10) (ad_nil)))) (sw_true rfl rfl (by rfl) (by decide +kernel))) (sds_cons (sd_expr (ed_meth .l PySem.F.plainAttrs_list PySem.F.slot_list_append PySem.F.type_list_append om_append (ed_var 8) (ad_cons (ed_tup (ad_cons (ed_var 12) (ad_cons (ed_tup (ad_nil)) (ad_cons (ed_tup (ad_nil)) (ad_cons (ed_tup (ad_cons (ed_tup (ad_cons (ed_tup (ad_nil)) (ad_cons (ed_callT om_tuple (by rfl) B.h_tuple (by decide +kernel) (ad_cons (LD.ed (ld_lc [("other", 17)] rfl nd (blkOk_by (N := ["script", "box", "turn", "blocks", "met", "above", "nearest", "label", "rows", "due", "names", "table", "name", "called", "code", "k", "far", "other"]) (sc := (defScope s_law)) (own := [("other", 17)]) (by decide +kernel)) (id_seq (ed_var 13)) (bgd_name 17 nd) (btds_nil) (fun _ _ _ _ _ => ed_tup (ad_cons (ed_str) (ad_cons (ed_var 17) (ad_cons (ed_tup (ad_nil)) (ad_nil))))))) (ad_nil))) (ad_cons (ed_tup (ad_cons (ed_str) (ad_cons (ed_tup (ad_nil)) (ad_nil)))) (ad_nil))))) (ad_nil))) (ad_nil)))))) (ad_nil)))) (sds_one (sd_asg (ed_sortset rfl (ed_var 13) (by rfl) B.h_sorted (by rfl) B.h_set) (gd_sub hu (ed_var 11) (ed_var 12))))))) (sds_cons (sd_set 14 nd (ed_tup (ad_cons (ed_str) (ad_cons (ed_tup (ad_nil)) (ad_cons (ed_callT om_tuple (by rfl) B.h_tuple (by decide +kernel) (ad_cons (ed_var 8) (ad_nil))) (ad_nil)))))) (sds_cons (sd_set 9 nd (LD.ed (ld_lc [("name", 12)] rfl nd (blkOk_by (N := ["script", "box", "turn", "blocks", "met", "above", "nearest", "label", "rows", "due", "names", "table", "name", "called", "code", "k", "far", "other"]) (sc := (defScope s_law)) (own := [("name", 12)]) (by decide +kernel)) (id_seq (ed_var 10)) (bgd_name 12 nd) (btds_nil) (fun _ _ _ _ _ => ed_tup (ad_cons (ed_var 12) (ad_cons (ed_callT om_tuple (by rfl) B.h_tuple (by decide +kernel) (ad_cons (ed_callB (om_sorted rfl) (by rfl) B.h_sorted (by decide +kernel) (ad_cons (LD.ed (ld_lc [("other", 17)] rfl nd (blkOk_by (N := ["script", "box", "turn", "blocks", "met", "above", "nearest", "label", "rows", "due", "names", "table", "name", "called", "code", "k", "far", "other"]) (sc := (relS _ (defScope s_law))) (own := [("other", 17)]) (by decide +kernel)) (id_seq (ed_var 10)) (bgd_name 17 nd) (btds_one (fun _ _ _ _ _ => td_cmp (om_in hu) (ed_var 12) (ed_ix hu (ed_var 11) (ed_var 17) (fun _ _ => rfl)) (by rfl))) (fun _ _ _ _ _ => ed_var 17))) (ad_nil))) (ad_nil))) (ad_nil))))))) (sds_cons (sd_if (td_not (td_tru (ed_call (d__law_same.mono (by decide)) hr (by rfl) (ad_cons (ed_items rfl (ed_callP (d_callers.mono (by decide)) hr (by rfl) (ad_cons (ed_var 14) (ad_nil))) (by rfl) B.h_list (by decide +kernel)) (ad_cons (ed_var 9) (ad_nil)))))) (sds_one (sd_ret (ed_bl))) (sds_nil)) (sds_cons (sd_for PassesOwn.never rfl (id_range1 (by rfl) B.h_range (ad_cons (ed_callB om_len (by rfl) B.h_len (by decide +kernel) (ad_cons (ed_var 10) (ad_nil))) (ad_nil))) (gd_name nd (i := 15)) (sds_one (sd_if (WD.td (wd_or (td_not (td_tru (ed_call (d__law_same.mono (by decide)) hr (by rfl) (ad_cons (ed_callP (d_calls_of.mono (by decide)) hr (by rfl) (ad_cons (ed_ix hu (ed_var 8) (ed_var 15) (fun _ _ => rfl)) (ad_nil))) (ad_cons (ed_callT om_tuple (by rfl) B.h_tuple (by decide +kernel) (ad_cons (ed_ix hu (ed_var 11) (ed_ix hu (ed_var 10) (ed_var 15) (fun _ _ => rfl)) (fun _ _ => rfl)) (ad_nil))) (ad_nil)))))) (wd_or1 (td_not (td_tru (ed_call (d__law_same.mono (by decide)) hr (by rfl) (ad_cons (ed_callP (d_calls_far.mono (by decide)) hr (by rfl) (ad_cons (ed_var 14) (ad_cons (ed_ix hu (ed_var 10) (ed_var 15) (fun _ _ => rfl)) (ad_nil)))) (ad_cons (ed_call (d__law_far.mono (by decide)) hr (by rfl) (ad_cons (ed_var 11) (ad_cons (ed_ix hu (ed_var 10) (ed_var 15) (fun _ _ => rfl)) (ad_nil)))) (ad_nil))))))))) (sds_one (sd_ret (ed_bl))) (sds_nil)))) (sds_one (sd_ret (ed_bl)))))))))))
theorem all_mk {l : PySem.W.OpenLaw} {w : World} {K : PySem.W.Frag} {h : Heap} {mg : Str → Option Value} {fa f1 f2 f3 f4 f5 f6 f7 f8 f9 f10 f11 f12 f13 f14 f15 f16 f17 f18 f19 f20 f21 f22 f23 : Addr} (X : K.In h) (G : h.Ns mainGlobals mg) (hfa : mg "law" = some (.ref fa))
    {od1 an1 od2 an2 od3 an3 od4 an4 od5 an5 od6 an6 od7 an7 od8 an8 od9 an9 od10 an10 od11 an11 od12 an12 od13 an13 od14 an14 od15 an15 od16 an16 od17 an17 od18 an18 od19 an19 od20 an20 od21 an21 od22 an22 od23 an23 : Option Addr} {sl1 sl2 sl3 sl4 sl5 sl6 sl7 sl8 sl9 sl10 sl11 sl12 sl13 sl14 sl15 sl16 sl17 sl18 sl19 sl20 sl21 sl22 sl23 : Array (Option Value)} {oc1 kV1 dc1 pm1 cd1 ct1 oc2 kV2 dc2 pm2 cd2 ct2 oc3 kV3 dc3 pm3 cd3 ct3 oc4 kV4 dc4 pm4 cd4 ct4 oc5 kV5 dc5 pm5 cd5 ct5 oc6 kV6 dc6 pm6 cd6 ct6 oc7 kV7 dc7 pm7 cd7 ct7 oc8 kV8 dc8 pm8 cd8 ct8 oc9 kV9 dc9 pm9 cd9 ct9 oc10 kV10 dc10 pm10 cd10 ct10 oc11 kV11 dc11 pm11 cd11 ct11 oc12 kV12 dc12 pm12 cd12 ct12 oc13 kV13 dc13 pm13 cd13 ct13 oc14 kV14 dc14 pm14 cd14 ct14 oc15 kV15 dc15 pm15 cd15 ct15 oc16 kV16 dc16 pm16 cd16 ct16 oc17 kV17 dc17 pm17 cd17 ct17 oc18 kV18 dc18 pm18 cd18 ct18 oc19 kV19 dc19 pm19 cd19 ct19 oc20 kV20 dc20 pm20 cd20 ct20 oc21 kV21 dc21 pm21 cd21 ct21 oc22 kV22 dc22 pm22 cd22 ct22 oc23 kV23 dc23 pm23 cd23 ct23 : Value}
    (a1 : PySem.W.nsIn K mainGlobals "_law_cell" = some (some (.ref f1))) (l1 : K.lookup f1 = some ⟨oc1, od1, .func (PySem.W.fnOf "_law_cell" "_law_cell" (defArgs s__law_cell) (defBody s__law_cell) (defScope s__law_cell) .none kV1 dc1 pm1 an1 cd1 ct1), sl1⟩) (c1 : PySem.W.codeIn K cd1 "_law_cell" = true) (k1 : PySem.W.keepIn K (.ref f1) = true)
    (a2 : PySem.W.nsIn K mainGlobals "_law_digits" = some (some (.ref f2))) (l2 : K.lookup f2 = some ⟨oc2, od2, .func (PySem.W.fnOf "_law_digits" "_law_digits" (defArgs s__law_digits) (defBody s__law_digits) (defScope s__law_digits) .none kV2 dc2 pm2 an2 cd2 ct2), sl2⟩) (c2 : PySem.W.codeIn K cd2 "_law_digits" = true) (k2 : PySem.W.keepIn K (.ref f2) = true)
    (a3 : PySem.W.nsIn K mainGlobals "_law_draw" = some (some (.ref f3))) (l3 : K.lookup f3 = some ⟨oc3, od3, .func (PySem.W.fnOf "_law_draw" "_law_draw" (defArgs s__law_draw) (defBody s__law_draw) (defScope s__law_draw) .none kV3 dc3 pm3 an3 cd3 ct3), sl3⟩) (c3 : PySem.W.codeIn K cd3 "_law_draw" = true) (k3 : PySem.W.keepIn K (.ref f3) = true)
    (a4 : PySem.W.nsIn K mainGlobals "_law_blocks" = some (some (.ref f4))) (l4 : K.lookup f4 = some ⟨oc4, od4, .func (PySem.W.fnOf "_law_blocks" "_law_blocks" (defArgs s__law_blocks) (defBody s__law_blocks) (defScope s__law_blocks) .none kV4 dc4 pm4 an4 cd4 ct4), sl4⟩) (c4 : PySem.W.codeIn K cd4 "_law_blocks" = true) (k4 : PySem.W.keepIn K (.ref f4) = true)
    (a5 : PySem.W.nsIn K mainGlobals "_law_ways" = some (some (.ref f5))) (l5 : K.lookup f5 = some ⟨oc5, od5, .func (PySem.W.fnOf "_law_ways" "_law_ways" (defArgs s__law_ways) (defBody s__law_ways) (defScope s__law_ways) .none kV5 dc5 pm5 an5 cd5 ct5), sl5⟩) (c5 : PySem.W.codeIn K cd5 "_law_ways" = true) (k5 : PySem.W.keepIn K (.ref f5) = true)
    (a6 : PySem.W.nsIn K mainGlobals "_law_met" = some (some (.ref f6))) (l6 : K.lookup f6 = some ⟨oc6, od6, .func (PySem.W.fnOf "_law_met" "_law_met" (defArgs s__law_met) (defBody s__law_met) (defScope s__law_met) .none kV6 dc6 pm6 an6 cd6 ct6), sl6⟩) (c6 : PySem.W.codeIn K cd6 "_law_met" = true) (k6 : PySem.W.keepIn K (.ref f6) = true)
    (a7 : PySem.W.nsIn K mainGlobals "_law_same" = some (some (.ref f7))) (l7 : K.lookup f7 = some ⟨oc7, od7, .func (PySem.W.fnOf "_law_same" "_law_same" (defArgs s__law_same) (defBody s__law_same) (defScope s__law_same) .none kV7 dc7 pm7 an7 cd7 ct7), sl7⟩) (c7 : PySem.W.codeIn K cd7 "_law_same" = true) (k7 : PySem.W.keepIn K (.ref f7) = true)
    (a8 : PySem.W.nsIn K mainGlobals "ways_of" = some (some (.ref f8))) (l8 : K.lookup f8 = some ⟨oc8, od8, .func (PySem.W.fnOf "ways_of" "ways_of" (defArgs s_ways_of) (defBody s_ways_of) (defScope s_ways_of) .none kV8 dc8 pm8 an8 cd8 ct8), sl8⟩) (c8 : PySem.W.codeIn K cd8 "ways_of" = true) (k8 : PySem.W.keepIn K (.ref f8) = true)
    (a9 : PySem.W.nsIn K mainGlobals "reach" = some (some (.ref f9))) (l9 : K.lookup f9 = some ⟨oc9, od9, .func (PySem.W.fnOf "reach" "reach" (defArgs s_reach) (defBody s_reach) (defScope s_reach) .none kV9 dc9 pm9 an9 cd9 ct9), sl9⟩) (c9 : PySem.W.codeIn K cd9 "reach" = true) (k9 : PySem.W.keepIn K (.ref f9) = true)
    (a10 : PySem.W.nsIn K mainGlobals "arrows" = some (some (.ref f10))) (l10 : K.lookup f10 = some ⟨oc10, od10, .func (PySem.W.fnOf "arrows" "arrows" (defArgs s_arrows) (defBody s_arrows) (defScope s_arrows) .none kV10 dc10 pm10 an10 cd10 ct10), sl10⟩) (c10 : PySem.W.codeIn K cd10 "arrows" = true) (k10 : PySem.W.keepIn K (.ref f10) = true)
    (a11 : PySem.W.nsIn K mainGlobals "met_without" = some (some (.ref f11))) (l11 : K.lookup f11 = some ⟨oc11, od11, .func (PySem.W.fnOf "met_without" "met_without" (defArgs s_met_without) (defBody s_met_without) (defScope s_met_without) .none kV11 dc11 pm11 an11 cd11 ct11), sl11⟩) (c11 : PySem.W.codeIn K cd11 "met_without" = true) (k11 : PySem.W.keepIn K (.ref f11) = true)
    (a12 : PySem.W.nsIn K mainGlobals "over" = some (some (.ref f12))) (l12 : K.lookup f12 = some ⟨oc12, od12, .func (PySem.W.fnOf "over" "over" (defArgs s_over) (defBody s_over) (defScope s_over) .none kV12 dc12 pm12 an12 cd12 ct12), sl12⟩) (c12 : PySem.W.codeIn K cd12 "over" = true) (k12 : PySem.W.keepIn K (.ref f12) = true)
    (a13 : PySem.W.nsIn K mainGlobals "within" = some (some (.ref f13))) (l13 : K.lookup f13 = some ⟨oc13, od13, .func (PySem.W.fnOf "within" "within" (defArgs s_within) (defBody s_within) (defScope s_within) .none kV13 dc13 pm13 an13 cd13 ct13), sl13⟩) (c13 : PySem.W.codeIn K cd13 "within" = true) (k13 : PySem.W.keepIn K (.ref f13) = true)
    (a14 : PySem.W.nsIn K mainGlobals "loops" = some (some (.ref f14))) (l14 : K.lookup f14 = some ⟨oc14, od14, .func (PySem.W.fnOf "loops" "loops" (defArgs s_loops) (defBody s_loops) (defScope s_loops) .none kV14 dc14 pm14 an14 cd14 ct14), sl14⟩) (c14 : PySem.W.codeIn K cd14 "loops" = true) (k14 : PySem.W.keepIn K (.ref f14) = true)
    (a15 : PySem.W.nsIn K mainGlobals "_law_loops" = some (some (.ref f15))) (l15 : K.lookup f15 = some ⟨oc15, od15, .func (PySem.W.fnOf "_law_loops" "_law_loops" (defArgs s__law_loops) (defBody s__law_loops) (defScope s__law_loops) .none kV15 dc15 pm15 an15 cd15 ct15), sl15⟩) (c15 : PySem.W.codeIn K cd15 "_law_loops" = true) (k15 : PySem.W.keepIn K (.ref f15) = true)
    (a16 : PySem.W.nsIn K mainGlobals "dominators" = some (some (.ref f16))) (l16 : K.lookup f16 = some ⟨oc16, od16, .func (PySem.W.fnOf "dominators" "dominators" (defArgs s_dominators) (defBody s_dominators) (defScope s_dominators) .none kV16 dc16 pm16 an16 cd16 ct16), sl16⟩) (c16 : PySem.W.codeIn K cd16 "dominators" = true) (k16 : PySem.W.keepIn K (.ref f16) = true)
    (a17 : PySem.W.nsIn K mainGlobals "_law_pick" = some (some (.ref f17))) (l17 : K.lookup f17 = some ⟨oc17, od17, .func (PySem.W.fnOf "_law_pick" "_law_pick" (defArgs s__law_pick) (defBody s__law_pick) (defScope s__law_pick) .none kV17 dc17 pm17 an17 cd17 ct17), sl17⟩) (c17 : PySem.W.codeIn K cd17 "_law_pick" = true) (k17 : PySem.W.keepIn K (.ref f17) = true)
    (a18 : PySem.W.nsIn K mainGlobals "calls_of" = some (some (.ref f18))) (l18 : K.lookup f18 = some ⟨oc18, od18, .func (PySem.W.fnOf "calls_of" "calls_of" (defArgs s_calls_of) (defBody s_calls_of) (defScope s_calls_of) .none kV18 dc18 pm18 an18 cd18 ct18), sl18⟩) (c18 : PySem.W.codeIn K cd18 "calls_of" = true) (k18 : PySem.W.keepIn K (.ref f18) = true)
    (a19 : PySem.W.nsIn K mainGlobals "callers" = some (some (.ref f19))) (l19 : K.lookup f19 = some ⟨oc19, od19, .func (PySem.W.fnOf "callers" "callers" (defArgs s_callers) (defBody s_callers) (defScope s_callers) .none kV19 dc19 pm19 an19 cd19 ct19), sl19⟩) (c19 : PySem.W.codeIn K cd19 "callers" = true) (k19 : PySem.W.keepIn K (.ref f19) = true)
    (a20 : PySem.W.nsIn K mainGlobals "function_named" = some (some (.ref f20))) (l20 : K.lookup f20 = some ⟨oc20, od20, .func (PySem.W.fnOf "function_named" "function_named" (defArgs s_function_named) (defBody s_function_named) (defScope s_function_named) .none kV20 dc20 pm20 an20 cd20 ct20), sl20⟩) (c20 : PySem.W.codeIn K cd20 "function_named" = true) (k20 : PySem.W.keepIn K (.ref f20) = true)
    (a21 : PySem.W.nsIn K mainGlobals "calls_far" = some (some (.ref f21))) (l21 : K.lookup f21 = some ⟨oc21, od21, .func (PySem.W.fnOf "calls_far" "calls_far" (defArgs s_calls_far) (defBody s_calls_far) (defScope s_calls_far) .none kV21 dc21 pm21 an21 cd21 ct21), sl21⟩) (c21 : PySem.W.codeIn K cd21 "calls_far" = true) (k21 : PySem.W.keepIn K (.ref f21) = true)
    (a22 : PySem.W.nsIn K mainGlobals "_law_far" = some (some (.ref f22))) (l22 : K.lookup f22 = some ⟨oc22, od22, .func (PySem.W.fnOf "_law_far" "_law_far" (defArgs s__law_far) (defBody s__law_far) (defScope s__law_far) .none kV22 dc22 pm22 an22 cd22 ct22), sl22⟩) (c22 : PySem.W.codeIn K cd22 "_law_far" = true) (k22 : PySem.W.keepIn K (.ref f22) = true)
    (a23 : PySem.W.nsIn K mainGlobals "law" = some (some (.ref f23))) (l23 : K.lookup f23 = some ⟨oc23, od23, .func (PySem.W.fnOf "law" "law" (defArgs s_law) (defBody s_law) (defScope s_law) .none kV23 dc23 pm23 an23 cd23 ct23), sl23⟩) (c23 : PySem.W.codeIn K cd23 "law" = true) (k23 : PySem.W.keepIn K (.ref f23) = true)
    (z1 : PySem.W.nsIn K mainGlobals "bool" = some none) (z2 : PySem.W.nsIn K mainGlobals "int" = some none) (z3 : PySem.W.nsIn K mainGlobals "isinstance" = some none) (z4 : PySem.W.nsIn K mainGlobals "len" = some none) (z5 : PySem.W.nsIn K mainGlobals "list" = some none) (z6 : PySem.W.nsIn K mainGlobals "range" = some none) (z7 : PySem.W.nsIn K mainGlobals "repr" = some none) (z8 : PySem.W.nsIn K mainGlobals "set" = some none) (z9 : PySem.W.nsIn K mainGlobals "sorted" = some none) (z10 : PySem.W.nsIn K mainGlobals "str" = some none) (z11 : PySem.W.nsIn K mainGlobals "tuple" = some none) :
    ∃ fd : FuncData, (∀ (s : Shared) (v : Value), BindsTo s fd ⟨[v], []⟩ [("script", v)]) ∧ ∀ base : Heap, K.In base → base.Ns mainGlobals mg → FnOk l.prog w K mg base CX0 9 fa fd ["script"] (spEnd K) := by
  have e := hfa.symm.trans (PySem.W.mg_of X G a23)
  cases e
  have B : Bn mg := ⟨PySem.W.mg_none_of X G z1, PySem.W.mg_none_of X G z2, PySem.W.mg_none_of X G z3, PySem.W.mg_none_of X G z4, PySem.W.mg_none_of X G z5, PySem.W.mg_none_of X G z6, PySem.W.mg_none_of X G z7, PySem.W.mg_none_of X G z8, PySem.W.mg_none_of X G z9, PySem.W.mg_none_of X G z10, PySem.W.mg_none_of X G z11⟩
  have F1 := fun_mk (st := s__law_cell) l1 c1 k1
  have T1 : Told K mg "_law_cell" s__law_cell ["script", "k"] := ⟨f1, _, F1, PySem.W.mg_of X G a1, F1.binds (ps := ["script", "k"]) fun _ _ _ _ _ _ us hl => match us, hl with | [_, _], _ => rfl⟩
  have F2 := fun_mk (st := s__law_digits) l2 c2 k2
  have T2 : Told K mg "_law_digits" s__law_digits ["script", "first", "last"] := ⟨f2, _, F2, PySem.W.mg_of X G a2, F2.binds (ps := ["script", "first", "last"]) fun _ _ _ _ _ _ us hl => match us, hl with | [_, _, _], _ => rfl⟩
  have F3 := fun_mk (st := s__law_draw) l3 c3 k3
  have T3 : Told K mg "_law_draw" s__law_draw ["box", "many"] := ⟨f3, _, F3, PySem.W.mg_of X G a3, F3.binds (ps := ["box", "many"]) fun _ _ _ _ _ _ us hl => match us, hl with | [_, _], _ => rfl⟩
  have F4 := fun_mk (st := s__law_blocks) l4 c4 k4
  have T4 : Told K mg "_law_blocks" s__law_blocks ["box"] := ⟨f4, _, F4, PySem.W.mg_of X G a4, F4.binds (ps := ["box"]) fun _ _ _ _ _ _ us hl => match us, hl with | [_], _ => rfl⟩
  have F5 := fun_mk (st := s__law_ways) l5 c5 k5
  have T5 : Told K mg "_law_ways" s__law_ways ["block"] := ⟨f5, _, F5, PySem.W.mg_of X G a5, F5.binds (ps := ["block"]) fun _ _ _ _ _ _ us hl => match us, hl with | [_], _ => rfl⟩
  have F6 := fun_mk (st := s__law_met) l6 c6 k6
  have T6 : Told K mg "_law_met" s__law_met ["blocks", "gone"] := ⟨f6, _, F6, PySem.W.mg_of X G a6, F6.binds (ps := ["blocks", "gone"]) fun _ _ _ _ _ _ us hl => match us, hl with | [_, _], _ => rfl⟩
  have F7 := fun_mk (st := s__law_same) l7 c7 k7
  have T7 : Told K mg "_law_same" s__law_same ["told", "due"] := ⟨f7, _, F7, PySem.W.mg_of X G a7, F7.binds (ps := ["told", "due"]) fun _ _ _ _ _ _ us hl => match us, hl with | [_, _], _ => rfl⟩
  have F8 := fun_mk (st := s_ways_of) l8 c8 k8
  have T8 : Told K mg "ways_of" s_ways_of ["block"] := ⟨f8, _, F8, PySem.W.mg_of X G a8, F8.binds (ps := ["block"]) fun _ _ _ _ _ _ us hl => match us, hl with | [_], _ => rfl⟩
  have F9 := fun_mk (st := s_reach) l9 c9 k9
  have T9 : Told K mg "reach" s_reach ["blocks"] := ⟨f9, _, F9, PySem.W.mg_of X G a9, F9.binds (ps := ["blocks"]) fun _ _ _ _ _ _ us hl => match us, hl with | [_], _ => rfl⟩
  have F10 := fun_mk (st := s_arrows) l10 c10 k10
  have T10 : Told K mg "arrows" s_arrows ["blocks"] := ⟨f10, _, F10, PySem.W.mg_of X G a10, F10.binds (ps := ["blocks"]) fun _ _ _ _ _ _ us hl => match us, hl with | [_], _ => rfl⟩
  have F11 := fun_mk (st := s_met_without) l11 c11 k11
  have T11 : Told K mg "met_without" s_met_without ["blocks", "gone"] := ⟨f11, _, F11, PySem.W.mg_of X G a11, F11.binds (ps := ["blocks", "gone"]) fun _ _ _ _ _ _ us hl => match us, hl with | [_, _], _ => rfl⟩
  have F12 := fun_mk (st := s_over) l12 c12 k12
  have T12 : Told K mg "over" s_over ["blocks"] := ⟨f12, _, F12, PySem.W.mg_of X G a12, F12.binds (ps := ["blocks"]) fun _ _ _ _ _ _ us hl => match us, hl with | [_], _ => rfl⟩
  have F13 := fun_mk (st := s_within) l13 c13 k13
  have T13 : Told K mg "within" s_within ["blocks", "head", "ends"] := ⟨f13, _, F13, PySem.W.mg_of X G a13, F13.binds (ps := ["blocks", "head", "ends"]) fun _ _ _ _ _ _ us hl => match us, hl with | [_, _, _], _ => rfl⟩
  have F14 := fun_mk (st := s_loops) l14 c14 k14
  have T14 : Told K mg "loops" s_loops ["blocks"] := ⟨f14, _, F14, PySem.W.mg_of X G a14, F14.binds (ps := ["blocks"]) fun _ _ _ _ _ _ us hl => match us, hl with | [_], _ => rfl⟩
  have F15 := fun_mk (st := s__law_loops) l15 c15 k15
  have T15 : Told K mg "_law_loops" s__law_loops ["blocks", "above"] := ⟨f15, _, F15, PySem.W.mg_of X G a15, F15.binds (ps := ["blocks", "above"]) fun _ _ _ _ _ _ us hl => match us, hl with | [_, _], _ => rfl⟩
  have F16 := fun_mk (st := s_dominators) l16 c16 k16
  have T16 : Told K mg "dominators" s_dominators ["blocks"] := ⟨f16, _, F16, PySem.W.mg_of X G a16, F16.binds (ps := ["blocks"]) fun _ _ _ _ _ _ us hl => match us, hl with | [_], _ => rfl⟩
  have F17 := fun_mk (st := s__law_pick) l17 c17 k17
  have T17 : Told K mg "_law_pick" s__law_pick ["box", "row"] := ⟨f17, _, F17, PySem.W.mg_of X G a17, F17.binds (ps := ["box", "row"]) fun _ _ _ _ _ _ us hl => match us, hl with | [_, _], _ => rfl⟩
  have F18 := fun_mk (st := s_calls_of) l18 c18 k18
  have T18 : Told K mg "calls_of" s_calls_of ["function"] := ⟨f18, _, F18, PySem.W.mg_of X G a18, F18.binds (ps := ["function"]) fun _ _ _ _ _ _ us hl => match us, hl with | [_], _ => rfl⟩
  have F19 := fun_mk (st := s_callers) l19 c19 k19
  have T19 : Told K mg "callers" s_callers ["code"] := ⟨f19, _, F19, PySem.W.mg_of X G a19, F19.binds (ps := ["code"]) fun _ _ _ _ _ _ us hl => match us, hl with | [_], _ => rfl⟩
  have F20 := fun_mk (st := s_function_named) l20 c20 k20
  have T20 : Told K mg "function_named" s_function_named ["code", "name"] := ⟨f20, _, F20, PySem.W.mg_of X G a20, F20.binds (ps := ["code", "name"]) fun _ _ _ _ _ _ us hl => match us, hl with | [_, _], _ => rfl⟩
  have F21 := fun_mk (st := s_calls_far) l21 c21 k21
  have T21 : Told K mg "calls_far" s_calls_far ["code", "name"] := ⟨f21, _, F21, PySem.W.mg_of X G a21, F21.binds (ps := ["code", "name"]) fun _ _ _ _ _ _ us hl => match us, hl with | [_, _], _ => rfl⟩
  have F22 := fun_mk (st := s__law_far) l22 c22 k22
  have T22 : Told K mg "_law_far" s__law_far ["table", "name"] := ⟨f22, _, F22, PySem.W.mg_of X G a22, F22.binds (ps := ["table", "name"]) fun _ _ _ _ _ _ us hl => match us, hl with | [_, _], _ => rfl⟩
  have F23 := fun_mk (st := s_law) l23 c23 k23
  refine ⟨PySem.W.fnOf "law" "law" (defArgs s_law) (defBody s_law) (defScope s_law) .none kV23 dc23 pm23 an23 cd23 ct23, fun s v => .of_eq rfl, fun base _ _ => ?_⟩
  have d__law_cell := ok__law_cell (P := l.prog) (w := w) (base := base) B T1 
  have d__law_digits := ok__law_digits (P := l.prog) (w := w) (base := base) B T2 d__law_cell
  have d__law_draw := ok__law_draw (P := l.prog) (w := w) (base := base) B T3 
  have d__law_blocks := ok__law_blocks (P := l.prog) (w := w) (base := base) B T4 d__law_draw
  have d__law_ways := ok__law_ways (P := l.prog) (w := w) (base := base) B T5 
  have d__law_met := ok__law_met (P := l.prog) (w := w) (base := base) B T6 d__law_ways
  have d__law_same := ok__law_same (P := l.prog) (w := w) (base := base) B T7  8
  have d_ways_of := ok_ways_of (P := l.prog) (w := w) (base := base) B T8 
  have d_reach := ok_reach (P := l.prog) (w := w) (base := base) B T9 d_ways_of
  have d_arrows := ok_arrows (P := l.prog) (w := w) (base := base) B T10 d_reach d_ways_of
  have d_met_without := ok_met_without (P := l.prog) (w := w) (base := base) B T11 d_ways_of
  have d_over := ok_over (P := l.prog) (w := w) (base := base) B T12 d_reach d_met_without
  have d_within := ok_within (P := l.prog) (w := w) (base := base) B T13 d_arrows
  have d_loops := ok_loops (P := l.prog) (w := w) (base := base) B T14 d_over d_arrows d_within
  have d__law_loops := ok__law_loops (P := l.prog) (w := w) (base := base) B T15 d__law_met d__law_ways
  have d_dominators := ok_dominators (P := l.prog) (w := w) (base := base) B T16 d_over
  have d__law_pick := ok__law_pick (P := l.prog) (w := w) (base := base) B T17 d__law_draw
  have d_calls_of := ok_calls_of (P := l.prog) (w := w) (base := base) B T18 
  have d_callers := ok_callers (P := l.prog) (w := w) (base := base) B T19 d_calls_of
  have d_function_named := ok_function_named (P := l.prog) (w := w) (base := base) B T20 
  have d_calls_far := ok_calls_far (P := l.prog) (w := w) (base := base) B T21 d_calls_of d_function_named
  have d__law_far := ok__law_far (P := l.prog) (w := w) (base := base) B T22 
  exact (law_fn B F23 d__law_digits d__law_blocks d__law_met d__law_same d_reach d_arrows d_loops d__law_loops d__law_ways d_over d_dominators d__law_draw d__law_pick d_callers d_calls_of d_calls_far d__law_far).imp (end_of law_run)
end K04
open PySem PySem.W PyProof.Rows
set_option maxHeartbeats 0 in
theorem PySem.Challenge.cw_stairwright_k04_whole_ways_between_block_holds : PySem.Challenge.rw_stairwright_k04_whole_ways_between_block.Holds := by
  w_on; o_law; k_head; (case hw => w_witness2)
  k_fill
  refine L2.walk_of (l := PySem.Challenge.rw_stairwright_k04_whole_ways_between_block) (n := 63) (k := 9) (x := "script") (CX := fun _ => L2.CX0) (sp := fun w => K04.spEnd _) rfl (by decide) rfl ⟨rfl, by decide, by decide⟩ (fun w h Y => PySem.W.kIn_of Y) ?F (fun _ _ a ns hl hO hS => ⟨a, ns, rfl, K04.only_stb hO hS, fun _ => rfl⟩) (fun _ _ _ _ _ h => h)
  case F =>
    intro w mg fa h KX G hmg
    refine' K04.all_mk KX G hmg ?a1 ?l1 ?c1 ?k1 ?a2 ?l2 ?c2 ?k2 ?a3 ?l3 ?c3 ?k3 ?a4 ?l4 ?c4 ?k4 ?a5 ?l5 ?c5 ?k5 ?a6 ?l6 ?c6 ?k6 ?a7 ?l7 ?c7 ?k7 ?a8 ?l8 ?c8 ?k8 ?a9 ?l9 ?c9 ?k9 ?a10 ?l10 ?c10 ?k10 ?a11 ?l11 ?c11 ?k11 ?a12 ?l12 ?c12 ?k12 ?a13 ?l13 ?c13 ?k13 ?a14 ?l14 ?c14 ?k14 ?a15 ?l15 ?c15 ?k15 ?a16 ?l16 ?c16 ?k16 ?a17 ?l17 ?c17 ?k17 ?a18 ?l18 ?c18 ?k18 ?a19 ?l19 ?c19 ?k19 ?a20 ?l20 ?c20 ?k20 ?a21 ?l21 ?c21 ?k21 ?a22 ?l22 ?c22 ?k22 ?a23 ?l23 ?c23 ?k23 ?z1 ?z2 ?z3 ?z4 ?z5 ?z6 ?z7 ?z8 ?z9 ?z10 ?z11
    (case a1 => k_is); (case l1 => k_is); (case c1 => k_is); (case k1 => k_is); (case a2 => k_is); (case l2 => k_is); (case c2 => k_is); (case k2 => k_is); (case a3 => k_is); (case l3 => k_is); (case c3 => k_is); (case k3 => k_is); (case a4 => k_is); (case l4 => k_is); (case c4 => k_is); (case k4 => k_is); (case a5 => k_is); (case l5 => k_is); (case c5 => k_is); (case k5 => k_is); (case a6 => k_is); (case l6 => k_is); (case c6 => k_is); (case k6 => k_is); (case a7 => k_is); (case l7 => k_is); (case c7 => k_is); (case k7 => k_is); (case a8 => k_is); (case l8 => k_is); (case c8 => k_is); (case k8 => k_is); (case a9 => k_is); (case l9 => k_is); (case c9 => k_is); (case k9 => k_is); (case a10 => k_is); (case l10 => k_is); (case c10 => k_is); (case k10 => k_is); (case a11 => k_is); (case l11 => k_is); (case c11 => k_is); (case k11 => k_is); (case a12 => k_is); (case l12 => k_is); (case c12 => k_is); (case k12 => k_is); (case a13 => k_is); (case l13 => k_is); (case c13 => k_is); (case k13 => k_is); (case a14 => k_is); (case l14 => k_is); (case c14 => k_is); (case k14 => k_is); (case a15 => k_is); (case l15 => k_is); (case c15 => k_is); (case k15 => k_is); (case a16 => k_is); (case l16 => k_is); (case c16 => k_is); (case k16 => k_is); (case a17 => k_is); (case l17 => k_is); (case c17 => k_is); (case k17 => k_is); (case a18 => k_is); (case l18 => k_is); (case c18 => k_is); (case k18 => k_is); (case a19 => k_is); (case l19 => k_is); (case c19 => k_is); (case k19 => k_is); (case a20 => k_is); (case l20 => k_is); (case c20 => k_is); (case k20 => k_is); (case a21 => k_is); (case l21 => k_is); (case c21 => k_is); (case k21 => k_is); (case a22 => k_is); (case l22 => k_is); (case c22 => k_is); (case k22 => k_is); (case a23 => k_is); (case l23 => k_is); (case c23 => k_is); (case k23 => k_is); (case z1 => k_is); (case z2 => k_is); (case z3 => k_is); (case z4 => k_is); (case z5 => k_is); (case z6 => k_is); (case z7 => k_is); (case z8 => k_is); (case z9 => k_is); (case z10 => k_is); (case z11 => k_is)

