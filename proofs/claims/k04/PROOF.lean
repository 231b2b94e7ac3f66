import PyProof.Rows.All
import Wide.All
import OpenK.AllK
import Wide.FinOn
import HandS.ForMost
import HandS.ForExc
import HandS.IsInst
import HandS.Style
import HandS.TupAny
import HandS.TupMul
import HandS.TupLe
import HandS.Wide
import HandS.Conv
import HandS.Flow
import HandS.RaiseMore
import HandS.Defaults
import HandS.Ends
import KE.KUnpackStar
import HandS.Head0
import HandS.Head1
import HandS.Head2
import HandS.HeadEnd
import HandS.HeadHook1
import HandS.HeadHook2
import HandS.Text
import HandS.Replace
import HandS.MakeKwOnly
import PyProof.Rows.NestShow
import KE.IntTextLaws
import PyProof.ReprLen
import PySem.Challenge.RW_rulesplay_k04_places_near_one_another
import KE.KStateDown
set_option Elab.async false
set_option linter.all false
set_option maxRecDepth 100000
set_option maxHeartbeats 1000000
namespace U
open PySem L2
/-! ### data, the store of what may change, answers -/
inductive D where
  | non | bl (b : Bool) | int (i : Int) | str (s : Str)
  | tup (xs : List D) | lst (xs : List D) | kls (xs : List D) | dic (kvs : List (Key × D))
  | ptr (n : Nat) | cst (v : V)
inductive MO where
  | lst (xs : List D) | dic (kvs : List (Key × D)) | dead
abbrev ST := List MO
inductive Rs (α : Type) where
  | ok (a : α) | ex (c : Str) (fs : List (Str × D))
abbrev Fr := PySem.W.Frag

/-- a list that is never written again -/
def FzL (K : Fr) (H : Hp) (a : Addr) (xs : List V) : Prop :=
  (∃ o, H a = some (.frz o (.lst xs))) ∨
    ∃ (o : Obj) (its : Array Value) (n : Nat), K.lookup a = some o ∧ o.cls = .type "list" ∧ o.dict = none ∧ o.data = .seq its n ∧ its.size ≤ sizeLine ∧ Vals xs its.toList
theorem FzL.sq {K : Fr} {H : Hp} {a : Addr} {xs : List V} (h : FzL K H a xs) : SqL K H a xs := by
  rcases h with ⟨o, h⟩ | h
  · exact .inl (.inr ⟨o, h⟩)
  · exact .inr h

mutual
inductive Dt (K : Fr) (q : Nat → Addr) (n : Nat) (H : Hp) : V → D → Prop
  | non : Dt K q n H .non .non
  | bl (b : Bool) : Dt K q n H (.bl b) (.bl b)
  | int (i : Int) : Dt K q n H (.int i) (.int i)
  | str (x : Str) : Dt K q n H (.str x) (.str x)
  | tup {a : Addr} {vs : List V} {ds : List D} : SqT K H a vs → Dts K q n H vs ds → Dt K q n H (.ref a) (.tup ds)
  | lst {a : Addr} {o : Obj} {vs : List V} {ds : List D} : H a = some (.frz o (.lst vs)) → Dts K q n H vs ds → Dt K q n H (.ref a) (.lst ds)
  | kls {a : Addr} {vs : List V} {ds : List D} : FzL K H a vs → Dts K q n H vs ds → Dt K q n H (.ref a) (.kls ds)
  | dic {a : Addr} {o : Obj} {kv : List (Key × V)} {kvs : List (Key × D)} : H a = some (.frz o (.dK kv)) → Dkv K q n H kv kvs → Dt K q n H (.ref a) (.dic kvs)
  | ptr {m : Nat} : m < n → Dt K q n H (.ref (q m)) (.ptr m)
  | cst {v : V} : Dt K q n H v (.cst v)
inductive Dts (K : Fr) (q : Nat → Addr) (n : Nat) (H : Hp) : List V → List D → Prop
  | nil : Dts K q n H [] []
  | cons {v : V} {d : D} {vs : List V} {ds : List D} : Dt K q n H v d → Dts K q n H vs ds → Dts K q n H (v :: vs) (d :: ds)
inductive Dkv (K : Fr) (q : Nat → Addr) (n : Nat) (H : Hp) : List (Key × V) → List (Key × D) → Prop
  | nil : Dkv K q n H [] []
  | cons {k : Key} {v : V} {d : D} {vs : List (Key × V)} {ds : List (Key × D)} : Dt K q n H v d → Dkv K q n H vs ds → Dkv K q n H ((k, v) :: vs) ((k, d) :: ds)
end

/-- the heap goes on: what is never written stays, the store grows -/
structure Ge (q : Nat → Addr) (n : Nat) (H : Hp) (q' : Nat → Addr) (n' : Nat) (H' : Hp) : Prop where
  ag : ∀ m, m < n → q' m = q m
  le : n ≤ n'
  tp : ∀ a xs, H a = some (.tup xs) → H' a = some (.tup xs)
  fz : ∀ a o u, H a = some (.frz o u) → H' a = some (.frz o u)
/-- .. and what stands beside the store stays as it is, what comes into the store is new -/
structure Gr (q : Nat → Addr) (n : Nat) (H : Hp) (q' : Nat → Addr) (n' : Nat) (H' : Hp) : Prop where
  ge : Ge q n H q' n' H'
  fr : ∀ a u, H a = some u → (∀ m, m < n → q m ≠ a) → H' a = some u
  nw : ∀ m, n ≤ m → m < n' → H (q' m) = none
  tk : ∀ a u, H a = some u → ∃ u', H' a = some u'
section
variable {K : Fr} {q q1 q2 : Nat → Addr} {n n1 n2 : Nat} {H H1 H2 : Hp}
theorem Ge.refl : Ge q n H q n H := ⟨fun _ _ => rfl, Nat.le_refl _, fun _ _ h => h, fun _ _ _ h => h⟩
theorem Ge.trans (a : Ge q n H q1 n1 H1) (b : Ge q1 n1 H1 q2 n2 H2) : Ge q n H q2 n2 H2 :=
  ⟨fun m h => (b.ag m (Nat.lt_of_lt_of_le h a.le)).trans (a.ag m h), Nat.le_trans a.le b.le, fun x y h => b.tp x y (a.tp x y h), fun x y z h => b.fz x y z (a.fz x y z h)⟩
theorem Gr.refl : Gr q n H q n H := ⟨.refl, fun _ _ h _ => h, fun m h h' => absurd h (Nat.not_le_of_lt h'), fun _ u h => ⟨u, h⟩⟩
theorem Gr.out (a : Gr q n H q1 n1 H1) {p : Addr} {u : HO} (h : H p = some u) (ho : ∀ m, m < n → q m ≠ p) : ∀ m, m < n1 → q1 m ≠ p := fun m hm e => by
  by_cases hn : m < n
  · exact ho m hn ((a.ge.ag m hn).symm.trans e)
  · have := a.nw m (by omega) hm
    rw [e, h] at this
    cases this
theorem Gr.free (a : Gr q n H q1 n1 H1) {p : Addr} (h : H1 p = none) : H p = none := by
  cases e : H p with
  | none => rfl
  | some u =>
    obtain ⟨u', e'⟩ := a.tk p u e
    rw [h] at e'
    cases e'
theorem Gr.trans (a : Gr q n H q1 n1 H1) (b : Gr q1 n1 H1 q2 n2 H2) : Gr q n H q2 n2 H2 := by
  refine ⟨a.ge.trans b.ge, fun p u h ho => b.fr p u (a.fr p u h ho) (a.out h ho), fun m h h' => ?_, fun p u h => ?_⟩
  · by_cases hn : m < n1
    · rw [b.ge.ag m hn]; exact a.nw m h hn
    · exact a.free (b.nw m (by omega) h')
  · obtain ⟨u', h1⟩ := a.tk p u h
    exact b.tk p u' h1
theorem Ge.sqT (g : Ge q n H q1 n1 H1) {a : Addr} {xs : List V} (h : SqT K H a xs) : SqT K H1 a xs := by
  rcases h with (h | ⟨o, h⟩) | h
  · exact .inl (.inl (g.tp _ _ h))
  · exact .inl (.inr ⟨o, g.fz _ _ _ h⟩)
  · exact .inr h
theorem Ge.fzl (g : Ge q n H q1 n1 H1) {a : Addr} {xs : List V} (h : FzL K H a xs) : FzL K H1 a xs := by
  rcases h with ⟨o, h⟩ | h
  · exact .inl ⟨o, g.fz _ _ _ h⟩
  · exact .inr h
mutual
theorem Dt.mono (g : Ge q n H q1 n1 H1) : ∀ {v : V} {d : D}, Dt K q n H v d → Dt K q1 n1 H1 v d
  | _, _, .non => .non
  | _, _, .bl b => .bl b
  | _, _, .int b => .int b
  | _, _, .str b => .str b
  | _, _, .tup h hs => .tup (g.sqT h) (Dts.mono g hs)
  | _, _, .lst h hs => .lst (g.fz _ _ _ h) (Dts.mono g hs)
  | _, _, .kls h hs => .kls (g.fzl h) (Dts.mono g hs)
  | _, _, .dic h hs => .dic (g.fz _ _ _ h) (Dkv.mono g hs)
  | _, _, .ptr (m := m) h => by
    rw [← g.ag m h]
    exact .ptr (Nat.lt_of_lt_of_le h g.le)
  | _, _, .cst => .cst
theorem Dts.mono (g : Ge q n H q1 n1 H1) : ∀ {v : List V} {d : List D}, Dts K q n H v d → Dts K q1 n1 H1 v d
  | _, _, .nil => .nil
  | _, _, .cons h hs => .cons (Dt.mono g h) (Dts.mono g hs)
theorem Dkv.mono (g : Ge q n H q1 n1 H1) : ∀ {v : List (Key × V)} {d : List (Key × D)}, Dkv K q n H v d → Dkv K q1 n1 H1 v d
  | _, _, .nil => .nil
  | _, _, .cons h hs => .cons (Dt.mono g h) (Dkv.mono g hs)
end
theorem Dts.length : ∀ {vs : List V} {ds : List D}, Dts K q n H vs ds → vs.length = ds.length
  | _, _, .nil => rfl
  | _, _, .cons _ t => by
    have := Dts.length t
    simp [this]
theorem Dts.get : ∀ {vs : List V} {ds : List D} {i : Nat} {d : D}, Dts K q n H vs ds → ds[i]? = some d → ∃ v, vs[i]? = some v ∧ Dt K q n H v d
  | _, _, _, _, .nil, e => by simp at e
  | _, _, 0, _, .cons r _, e => by simp at e; subst e; exact ⟨_, rfl, r⟩
  | _, _, i + 1, d, .cons _ t, e => by
    obtain ⟨v, h1, h2⟩ := Dts.get (i := i) (d := d) t (by simpa using e)
    exact ⟨v, by simpa using h1, h2⟩
theorem Dts.getV : ∀ {vs : List V} {ds : List D} {i : Nat} {v : V}, Dts K q n H vs ds → vs[i]? = some v → ∃ d, ds[i]? = some d ∧ Dt K q n H v d
  | _, _, _, _, .nil, e => by simp at e
  | _, _, 0, _, .cons r _, e => by simp at e; subst e; exact ⟨_, rfl, r⟩
  | _, _, i + 1, v, .cons _ t, e => by
    obtain ⟨d, h1, h2⟩ := Dts.getV (i := i) (v := v) t (by simpa using e)
    exact ⟨d, by simpa using h1, h2⟩
theorem Dts.append : ∀ {vs ws : List V} {ds es : List D}, Dts K q n H vs ds → Dts K q n H ws es → Dts K q n H (vs ++ ws) (ds ++ es)
  | _, _, _, _, .nil, s => s
  | _, _, _, _, .cons r t, s => .cons r (Dts.append t s)
theorem Dts.take : ∀ {vs : List V} {ds : List D} (k : Nat), Dts K q n H vs ds → Dts K q n H (vs.take k) (ds.take k)
  | _, _, 0, _ => by simpa using Dts.nil
  | _, _, _ + 1, .nil => .nil
  | _, _, k + 1, .cons r t => .cons r (Dts.take k t)
theorem Dts.drop : ∀ {vs : List V} {ds : List D} (k : Nat), Dts K q n H vs ds → Dts K q n H (vs.drop k) (ds.drop k)
  | _, _, 0, r => by simpa using r
  | _, _, _ + 1, .nil => .nil
  | _, _, k + 1, .cons _ t => Dts.drop k t
theorem Dts.set : ∀ {vs : List V} {ds : List D} (i : Nat) {v : V} {d : D}, Dts K q n H vs ds → Dt K q n H v d → Dts K q n H (vs.set i v) (ds.set i d)
  | _, _, _, _, _, .nil, _ => .nil
  | _, _, 0, _, _, .cons _ t, r => .cons r t
  | _, _, i + 1, _, _, .cons q t, r => .cons q (Dts.set i t r)
theorem Dts.rep {vs : List V} {ds : List D} (h : Dts K q n H vs ds) : ∀ k : Nat, Dts K q n H (List.replicate k vs).flatten (List.replicate k ds).flatten
  | 0 => .nil
  | k + 1 => by
    rw [List.replicate_succ, List.replicate_succ, List.flatten_cons, List.flatten_cons]
    exact h.append (Dts.rep h k)
end

/-- what stands at a place of the store -/
def MOk (K : Fr) (q : Nat → Addr) (n : Nat) (H : Hp) (a : Addr) : MO → Prop
  | .lst ds => ∃ vs, H a = some (.lst vs) ∧ Dts K q n H vs ds
  | .dic kvs => ∃ kv, H a = some (.dK kv) ∧ Dkv K q n H kv kvs
  | .dead => ∃ o u, H a = some (.frz o u)
structure Wd (K : Fr) (q : Nat → Addr) (S : ST) (H : Hp) : Prop where
  inj : ∀ m m', m < S.length → m' < S.length → q m = q m' → m = m'
  ob : ∀ m o, S[m]? = some o → MOk K q S.length H (q m) o
section
variable {K : Fr} {q q1 q2 : Nat → Addr} {n n1 n2 : Nat} {H H1 H2 : Hp} {S : ST}
theorem MOk.some {a : Addr} {o : MO} (h : MOk K q n H a o) : ∃ u, H a = some u := by
  cases o with
  | lst ds => obtain ⟨vs, e, _⟩ := h; exact ⟨_, e⟩
  | dic ds => obtain ⟨vs, e, _⟩ := h; exact ⟨_, e⟩
  | dead => obtain ⟨o, u, e⟩ := h; exact ⟨_, e⟩
theorem Wd.ne (w : Wd K q S H) {p : Addr} (hp : H p = none) {m : Nat} (hm : m < S.length) : q m ≠ p := by
  obtain ⟨u, e⟩ := (w.ob m _ (List.getElem?_eq_getElem hm)).some
  intro z
  rw [z, hp] at e
  cases e
theorem MOk.mono {a : Addr} {o : MO} (g : Ge q n H q1 n1 H1) (e : H1 a = H a) (h : MOk K q n H a o) : MOk K q1 n1 H1 a o := by
  cases o with
  | lst ds => obtain ⟨vs, e1, h1⟩ := h; exact ⟨vs, e.trans e1, h1.mono g⟩
  | dic ds => obtain ⟨vs, e1, h1⟩ := h; exact ⟨vs, e.trans e1, h1.mono g⟩
  | dead => obtain ⟨o, u, e1⟩ := h; exact ⟨o, u, e.trans e1⟩
/-- a new thing that is never written -/
theorem Gr.new {p : Addr} {o : HO} (hp : H p = none) : Gr q n H q n (upd H p o) :=
  ⟨⟨fun _ _ => rfl, Nat.le_refl _, fun a xs h => by rw [upd_ne (ne_of_none h hp)]; exact h, fun a o u h => by rw [upd_ne (ne_of_none h hp)]; exact h⟩,
    fun a u h _ => by rw [upd_ne (ne_of_none h hp)]; exact h, fun m h h' => absurd h (Nat.not_le_of_lt h'), fun a u h => ⟨u, by rw [upd_ne (ne_of_none h hp)]; exact h⟩⟩
theorem Wd.new {p : Addr} {o : HO} (w : Wd K q S H) (hp : H p = none) : Wd K q S (upd H p o) :=
  ⟨w.inj, fun m u h => (w.ob m u h).mono (Gr.new hp).ge (upd_ne (w.ne hp (List.getElem?_eq_some_iff.mp h).1))⟩
/-- the store's map with one place more -/
def put (q : Nat → Addr) (n : Nat) (p : Addr) : Nat → Addr := fun m => if m = n then p else q m
theorem put_lt {p : Addr} {m : Nat} (h : m < n) : put q n p m = q m := if_neg (Nat.ne_of_lt h)
theorem put_eq {p : Addr} : put q n p n = p := if_pos rfl
/-- what was just made comes into the store -/
theorem Gr.adopt {p : Addr} (g : Gr q n H q1 n1 H1) (hp : H p = none) : Gr q n H (U.put q1 n1 p) (n1 + 1) H1 :=
  ⟨⟨fun m h => (put_lt (Nat.lt_of_lt_of_le h g.ge.le)).trans (g.ge.ag m h), Nat.le_succ_of_le g.ge.le, g.ge.tp, g.ge.fz⟩, g.fr, fun m h h' => by
    by_cases e : m = n1
    · rw [e, put_eq]; exact hp
    · rw [put_lt (by omega)]; exact g.nw m h (by omega), g.tk⟩
theorem Ge.adopt {p : Addr} : Ge q n H (U.put q n p) (n + 1) H := ⟨fun _ h => put_lt h, Nat.le_succ _, fun _ _ h => h, fun _ _ _ h => h⟩
/-- what was just made is written, or shut -/
theorem Gr.over {p : Addr} {o : HO} (g : Gr q n H q1 n1 H1) (hp : H p = none) : Gr q n H q1 n1 (upd H1 p o) :=
  ⟨⟨g.ge.ag, g.ge.le, fun a xs h => by rw [upd_ne (ne_of_none h hp)]; exact g.ge.tp a xs h, fun a x u h => by rw [upd_ne (ne_of_none h hp)]; exact g.ge.fz a x u h⟩,
    fun a u h ho => by rw [upd_ne (ne_of_none h hp)]; exact g.fr a u h ho, g.nw, fun a u h => by
      obtain ⟨u', e⟩ := g.tk a u h
      exact ⟨u', by rw [upd_ne (ne_of_none h hp)]; exact e⟩⟩
theorem Wd.adopt {a : Addr} {u : MO} (w : Wd K q S H) (hn : ∀ m, m < S.length → q m ≠ a) (hu : MOk K (put q S.length a) (S.length + 1) H a u) :
    Wd K (put q S.length a) (S ++ [u]) H := by
  refine ⟨fun m m' h h' e => ?_, fun m x h => ?_⟩
  · simp only [List.length_append, List.length_singleton] at h h'
    by_cases h1 : m = S.length <;> by_cases h2 : m' = S.length
    · rw [h1, h2]
    · subst h1
      rw [put_eq, put_lt (by omega)] at e
      exact absurd e.symm (hn m' (by omega))
    · subst h2
      rw [put_eq, put_lt (by omega)] at e
      exact absurd e (hn m (by omega))
    · rw [put_lt (by omega), put_lt (by omega)] at e
      exact w.inj m m' (by omega) (by omega) e
  · by_cases h1 : m = S.length
    · subst h1
      rw [List.getElem?_append_right (Nat.le_refl _), Nat.sub_self] at h
      cases h
      rw [put_eq, List.length_append, List.length_singleton]
      exact hu
    · have hlt : m < S.length := by
        have := (List.getElem?_eq_some_iff.mp h).1
        simp only [List.length_append, List.length_singleton] at this
        omega
      rw [List.getElem?_append_left hlt] at h
      rw [put_lt hlt, List.length_append, List.length_singleton]
      exact (w.ob m x h).mono .adopt rfl
/-- one place of the store is written -/
theorem Ge.wr {a : Addr} {o u : HO} (ha : H a = some u) (hm : Mut (some u)) : Ge q n H q n (upd H a o) :=
  ⟨fun _ _ => rfl, Nat.le_refl _, fun b xs h => by
    rw [upd_ne]
    · exact h
    · rintro rfl
      rw [ha] at h; cases h; exact hm, fun b x y h => by
    rw [upd_ne]
    · exact h
    · rintro rfl
      rw [ha] at h; cases h; exact hm⟩
theorem Gr.wr {m : Nat} {o u : HO} (hn : m < n) (ha : H (q m) = some u) (hm : Mut (some u)) : Gr q n H q n (upd H (q m) o) :=
  ⟨.wr ha hm, fun a u h ho => by rw [upd_ne (Ne.symm (ho m hn))]; exact h, fun m h h' => absurd h (Nat.not_le_of_lt h'), fun a w h => by
    by_cases e : a = q m
    · exact ⟨o, by rw [e, upd_same]⟩
    · exact ⟨w, by rw [upd_ne e]; exact h⟩⟩
theorem Wd.wr {m : Nat} {o u : HO} {x : MO} (w : Wd K q S H) (hm : m < S.length) (ha : H (q m) = some u) (hu : Mut (some u)) (hx : MOk K q S.length (upd H (q m) o) (q m) x) :
    Wd K q (S.set m x) (upd H (q m) o) := by
  refine ⟨fun i j h h' e => w.inj i j (by simpa using h) (by simpa using h') e, fun i y h => ?_⟩
  rw [List.length_set]
  by_cases hi : i = m
  · subst hi
    rw [List.getElem?_set_self hm] at h
    cases h
    exact hx
  · rw [List.getElem?_set_ne (Ne.symm hi)] at h
    have hlt := (List.getElem?_eq_some_iff.mp h).1
    exact (w.ob i y h).mono (Ge.wr ha hu) (upd_ne fun e => hi (w.inj _ _ hlt hm e))
/-- something beside the store is written -/
theorem Wd.off {a : Addr} {o u : HO} (w : Wd K q S H) (ha : H a = some u) (hu : Mut (some u)) (hn : ∀ m, m < S.length → q m ≠ a) : Wd K q S (upd H a o) :=
  ⟨w.inj, fun m x h => (w.ob m x h).mono (Ge.wr ha hu) (upd_ne (hn m (List.getElem?_eq_some_iff.mp h).1))⟩
end

/-! ### slots, what follows -/
abbrev EV := List (Option D)
def Sl (K : Fr) (q : Nat → Addr) (n : Nat) (H : Hp) (s : L2.St) (g : EV) : Prop :=
  s.length = g.length ∧ ∀ (i : Nat) (d : D), g[i]? = some (some d) → ∃ v, s[i]? = some (some v) ∧ Dt K q n H v d
theorem Sl.mono {K : Fr} {q q1 : Nat → Addr} {n n1 : Nat} {H H1 : Hp} {s : L2.St} {g : EV} (r : Gr q n H q1 n1 H1) (h : Sl K q n H s g) : Sl K q1 n1 H1 s g :=
  ⟨h.1, fun i d e => let ⟨v, h1, h2⟩ := h.2 i d e; ⟨v, h1, h2.mono r.ge⟩⟩
theorem Sl.set {K : Fr} {q : Nat → Addr} {n : Nat} {H : Hp} {s : L2.St} {g : EV} {v : V} {d : D} (i : Nat) (h : Sl K q n H s g) (hd : Dt K q n H v d) : Sl K q n H (s.set i (some v)) (g.set i (some d)) := by
  refine ⟨by simp [h.1], fun j e hj => ?_⟩
  by_cases hi : i = j
  · subst hi
    by_cases hl : i < g.length
    · rw [List.getElem?_set_self hl] at hj
      cases hj
      exact ⟨v, List.getElem?_set_self (by rw [h.1]; exact hl), hd⟩
    · rw [List.getElem?_eq_none (by simpa using hl)] at hj
      cases hj
  · rw [List.getElem?_set_ne hi] at hj ⊢
    exact h.2 j e hj
abbrev Cl := Str → Addr
/-- what the answer of a mirror promises of the machine -/
def Post (K : Fr) (cl : Cl) (q : Nat → Addr) (n : Nat) (H : Hp) (E : XK) (Q : VK) (r : Rs D) (S' : ST) : Prop :=
  match r with
  | .ok d => ∀ q' H' v, Gr q n H q' S'.length H' → Wd K q' S' H' → Dt K q' S'.length H' v d → Q v H'
  | .ex c fs => ∀ q' H' dx fv, Gr q n H q' S'.length H' → Wd K q' S' H' → H' dx = some (.xd fv) → fv.map (·.1) = fs.map (·.1) → Dts K q' S'.length H' (fv.map (·.2)) (fs.map (·.2)) → E (.ref (cl c)) (some dx) H'
def PostA (K : Fr) (cl : Cl) (q : Nat → Addr) (n : Nat) (H : Hp) (E : XK) (Q : List V → Hp → Prop) (r : Rs (List D)) (S' : ST) : Prop :=
  match r with
  | .ok d => ∀ q' H' v, Gr q n H q' S'.length H' → Wd K q' S' H' → Dts K q' S'.length H' v d → Q v H'
  | .ex c fs => Post K cl q n H E (fun _ _ => False) (.ex c fs) S'
def PostB (K : Fr) (cl : Cl) (q : Nat → Addr) (n : Nat) (H : Hp) (E : XK) (Q : Bool → Hp → Prop) (r : Rs Bool) (S' : ST) : Prop :=
  match r with
  | .ok b => ∀ q' H', Gr q n H q' S'.length H' → Wd K q' S' H' → Q b H'
  | .ex c fs => Post K cl q n H E (fun _ _ => False) (.ex c fs) S'
section
variable {K : Fr} {cl : Cl} {q q1 : Nat → Addr} {n n1 : Nat} {H H1 : Hp} {E : XK} {S' : ST}
theorem Post.ex {Q Q' : VK} {c : Str} {fs : List (Str × D)} (h : Post K cl q n H E Q (.ex c fs) S') : Post K cl q n H E Q' (.ex c fs) S' := h
theorem Post.to {Q : VK} {r : Rs D} (g : Gr q n H q1 n1 H1) (h : Post K cl q n H E Q r S') : Post K cl q1 n1 H1 E Q r S' := by
  cases r with
  | ok d => exact fun q' H' v g' w hd => h q' H' v (g.trans g') w hd
  | ex c fs => exact fun q' H' dx fv g' w hd he hv => h q' H' dx fv (g.trans g') w hd he hv
theorem PostA.to {Q : List V → Hp → Prop} {r : Rs (List D)} (g : Gr q n H q1 n1 H1) (h : PostA K cl q n H E Q r S') : PostA K cl q1 n1 H1 E Q r S' := by
  cases r with
  | ok d => exact fun q' H' v g' w hd => h q' H' v (g.trans g') w hd
  | ex c fs => exact Post.to (Q := fun _ _ => False) (r := .ex c fs) g h
theorem PostB.to {Q : Bool → Hp → Prop} {r : Rs Bool} (g : Gr q n H q1 n1 H1) (h : PostB K cl q n H E Q r S') : PostB K cl q1 n1 H1 E Q r S' := by
  cases r with
  | ok d => exact fun q' H' g' w => h q' H' (g.trans g') w
  | ex c fs => exact Post.to (Q := fun _ _ => False) (r := .ex c fs) g h
end
end U

set_option Elab.async false
set_option linter.all false
set_option maxRecDepth 100000
set_option maxHeartbeats 1000000
namespace U
open PySem L2
/-! ### one answer behind another -/
def bd {α β : Type} (x : Option (Rs α × ST)) (f : α → ST → Option (Rs β × ST)) : Option (Rs β × ST) :=
  match x with
  | some (.ok a, S) => f a S
  | some (.ex c fs, S) => some (.ex c fs, S)
  | none => none
@[simp] theorem bd_ok {α β : Type} {a : α} {S : ST} {f : α → ST → Option (Rs β × ST)} : bd (some (.ok a, S)) f = f a S := rfl
@[simp] theorem bd_ex {α β : Type} {c : Str} {fs : List (Str × D)} {S : ST} {f : α → ST → Option (Rs β × ST)} : bd (some (.ex c fs, S)) f = some (.ex c fs, S) := rfl
@[simp] theorem bd_none {α β : Type} {f : α → ST → Option (Rs β × ST)} : bd none f = none := rfl
theorem bd_inv {α β : Type} {x : Option (Rs α × ST)} {f : α → ST → Option (Rs β × ST)} {r : Rs β} {S' : ST} (h : bd x f = some (r, S')) :
    (∃ a S1, x = some (.ok a, S1) ∧ f a S1 = some (r, S')) ∨ ∃ c fs, x = some (.ex c fs, S') ∧ r = .ex c fs := by
  cases x with
  | none => cases h
  | some p =>
    obtain ⟨z, S1⟩ := p
    cases z with
    | ok a => exact .inl ⟨a, S1, rfl, h⟩
    | ex c fs => cases h; exact .inr ⟨c, fs, rfl, rfl⟩
abbrev EM := EV → ST → Option (Rs D × ST)
abbrev AM := EV → ST → Option (Rs (List D) × ST)
abbrev BM := EV → ST → Option (Rs Bool × ST)
/-! ### judgements -/
structure EE (X : Cx) (cl : Cl) (E : XK) (e : Expr) (m : EM) : Prop where
  ex : ∃ te, PE X e te ∧ ∀ g S r S', m g S = some (r, S') → ∀ q s H Q, Wd X.K q S H → Sl X.K q S.length H s g → Post X.K cl q S.length H E Q r S' → te s H Q
structure EA (X : Cx) (cl : Cl) (E : XK) (es : List Expr) (m : AM) : Prop where
  ex : ∃ ta, PA X es ta ∧ ∀ g S r S', m g S = some (r, S') → ∀ q s H Q, Wd X.K q S H → Sl X.K q S.length H s g → PostA X.K cl q S.length H E Q r S' → ta s H Q
structure ET (X : Cx) (cl : Cl) (E : XK) (e : Expr) (m : BM) : Prop where
  ex : ∃ tt, PT X e tt ∧ ∀ g S r S', m g S = some (r, S') → ∀ q s H Q, Wd X.K q S H → Sl X.K q S.length H s g → PostB X.K cl q S.length H E Q r S' → tt s H Q
structure EW (X : Cx) (cl : Cl) (E : XK) (e : Expr) (m : BM) : Prop where
  ex : ∃ tt, PW X e tt ∧ ∀ g S r S', m g S = some (r, S') → ∀ q s H Q, Wd X.K q S H → Sl X.K q S.length H s g → PostB X.K cl q S.length H E Q r S' → tt s H Q
/-- what was just made may be shut: it is never written again -/
def Shut (u : HO) : Prop := (∃ vs, u = .lst vs) ∨ ∃ kv, u = .dK kv
def Fz (Q : VK) : VK := fun v H => Q v H ∨ ∃ a u, v = .ref a ∧ H a = some u ∧ Shut u ∧ ∀ o, Q v (upd H a (.frz o u))
section
variable {X : Cx} {pins : List (Addr × Obj)} {σ : L2.St} {H : Hp} {s : Shared}
theorem inv_shut {a : Addr} {u : HO} (I : Inv X pins σ H s) (e : H a = some u) (hu : Shut u) : ∃ o, Inv X pins σ (upd H a (.frz o u)) s := by
  have k : ∃ o, s.heap.get? a = some o := by
    have x := I.hok a u e
    rcases hu with ⟨vs, rfl⟩ | ⟨kv, rfl⟩
    · obtain ⟨_, its, n, _, z⟩ := x; exact ⟨_, z⟩
    · obtain ⟨_, _, _, _, o, _, _, z, _⟩ := x; exact ⟨o, z⟩
  obtain ⟨o, ho⟩ := k
  have nn : ∀ b, H b = none → b ≠ a := fun b z w => by rw [w, e] at z; cases z
  have nt : ∀ b xs, H b = some (.tup xs) → b ≠ a := fun b xs z w => by
    rw [w, e] at z; cases z
    rcases hu with ⟨_, q⟩ | ⟨_, q⟩ <;> cases q
  have nf : ∀ b x y, H b = some (.frz x y) → b ≠ a := fun b xs y z w => by
    rw [w, e] at z; cases z
    rcases hu with ⟨_, q⟩ | ⟨_, q⟩ <;> cases q
  have nb : ∀ b xs, H b = some (.tbl xs) → b ≠ a := fun b xs z w => by
    rw [w, e] at z; cases z
    rcases hu with ⟨_, q⟩ | ⟨_, q⟩ <;> cases q
  have no : ∀ b xs, H b = some (.own xs) → b ≠ a := fun b xs z w => by
    rw [w, e] at z; cases z
    rcases hu with ⟨_, q⟩ | ⟨_, q⟩ <;> cases q
  refine ⟨o, I.ok, I.os, I.bare, ⟨I.base.keep, I.base.slot, fun b ob h1 h2 h3 => ?_, I.base.there, fun b xs h => ?_, fun b x y h => ?_, fun b ps h => ?_⟩, I.loc, I.cell, ?_, fun x c h => ?_, fun p hp => ?_, fun b w h => ?_, I.len⟩
  · have z := I.base.free b ob h1 h2 h3
    rw [upd_ne (nn b z)]; exact z
  · have z := I.base.tups b xs h
    rw [upd_ne (nt b xs z)]; exact z
  · have z := I.base.frzs b x y h
    rw [upd_ne (nf b x y z)]; exact z
  · obtain ⟨m, z⟩ := I.base.tbls b ps h
    exact ⟨m, by rw [upd_ne (nb b _ z)]; exact z⟩
  · rw [upd_ne (nn _ I.free)]; exact I.free
  · rw [upd_ne (nn _ (I.freeC x c h))]; exact I.freeC x c h
  · obtain ⟨h1, h2, h3⟩ := I.pin p hp
    exact ⟨h1, by rw [upd_ne (nn _ h2)]; exact h2, h3⟩
  · by_cases hb : b = a
    · subst hb
      rw [upd_same] at h
      cases h
      refine ⟨ho, ?_⟩
      exact (I.hok b u e).stay (fun _ _ _ z => z) (fun c z => by rw [upd_ne (no c _ z)]; exact z) fun c xs z => by rw [upd_ne (nt c xs z)]; exact z
    · rw [upd_ne hb] at h
      exact (I.hok b w h).stay (fun _ _ _ z => z) (fun c z => by rw [upd_ne (no c _ z)]; exact z) fun c xs z => by rw [upd_ne (nt c xs z)]; exact z
theorem ep_fz {Q : VK} {u : Value} (h : EP X pins σ (Fz Q) u s) : EP X pins σ Q u s := by
  obtain ⟨v, H', I, r, q⟩ := h
  rcases q with q | ⟨a, w, rfl, e, hu, q⟩
  · exact ⟨v, H', I, r, q⟩
  · obtain ⟨o, I'⟩ := inv_shut I e hu
    exact ⟨_, _, I', r, q o⟩
theorem pe_fz {e : Expr} {te : TE} (h : PE X e te) : PE X e (fun s H Q => te s H (Fz Q)) := ⟨fun pins s σ H Q I w => thn (h.run pins s σ H (Fz Q) I w) fun u s1 z => ep_fz z⟩
end
/-- an operation on values, a call on values -/
def OpE (K : Fr) (cl : Cl) (E : XK) (r : R2) (f : D → D → ST → Option (Rs D × ST)) : Prop :=
  ∀ x y S z S', f x y S = some (z, S') → ∀ q H vx vy Q, Wd K q S H → Dt K q S.length H vx x → Dt K q S.length H vy y → Post K cl q S.length H E Q z S' → r vx vy H (Fz Q)
def CpE (K : Fr) (cl : Cl) (E : XK) (r : R2) (f : D → D → ST → Option (Rs D × ST)) : Prop :=
  ∀ x y S z S', f x y S = some (z, S') → ∀ q H vx vy Q, Wd K q S H → Dt K q S.length H vx x → Dt K q S.length H vy y → Post K cl q S.length H E Q z S' → r vx vy H Q
def UnE (K : Fr) (cl : Cl) (E : XK) (r : V → Hp → VK → Prop) (f : D → ST → Option (Rs D × ST)) : Prop :=
  ∀ x S z S', f x S = some (z, S') → ∀ q H vx Q, Wd K q S H → Dt K q S.length H vx x → Post K cl q S.length H E Q z S' → r vx H (Fz Q)
def CaE (K : Fr) (cl : Cl) (E : XK) (r : List V → Hp → VK → Prop) (f : List D → ST → Option (Rs D × ST)) : Prop :=
  ∀ xs S z S', f xs S = some (z, S') → ∀ q H vs Q, Wd K q S H → Dts K q S.length H vs xs → Post K cl q S.length H E Q z S' → r vs H (Fz Q)
/-! ### the forms of mirrors -/
def eVar (i : Nat) : EM := fun g S => match g[i]? with
  | some (some d) => some (.ok d, S)
  | _ => none
def eC (d : D) : EM := fun _ S => some (.ok d, S)
def eOp (f : D → D → ST → Option (Rs D × ST)) (a b : EM) : EM := fun g S => bd (a g S) fun x S1 => bd (b g S1) fun y S2 => f x y S2
def eUn (f : D → ST → Option (Rs D × ST)) (a : EM) : EM := fun g S => bd (a g S) fun x S1 => f x S1
def aNil : AM := fun _ S => some (.ok [], S)
def aCons (a : EM) (r : AM) : AM := fun g S => bd (a g S) fun x S1 => bd (r g S1) fun xs S2 => some (.ok (x :: xs), S2)
def eCall (f : List D → ST → Option (Rs D × ST)) (a : AM) : EM := fun g S => bd (a g S) f
def toB (x : D) (S : ST) : Option (Rs Bool × ST) := match x with
  | .bl b => some (.ok b, S)
  | _ => none
def bVal (a : EM) : BM := fun g S => bd (a g S) toB
def bAnd (a b : BM) : BM := fun g S => bd (a g S) fun c S1 => if c = true then b g S1 else some (.ok false, S1)
def bOr (a b : BM) : BM := fun g S => bd (a g S) fun c S1 => if c = true then some (.ok true, S1) else b g S1
def bNot (a : BM) : BM := fun g S => bd (a g S) fun c S1 => some (.ok (!c), S1)
def eAnd (a b : EM) : EM := fun g S => bd (a g S) fun x S1 => bd (toB x S1) fun c S2 => if c = true then b g S2 else some (.ok (.bl false), S2)
def eOr (a b : EM) : EM := fun g S => bd (a g S) fun x S1 => bd (toB x S1) fun c S2 => if c = true then some (.ok (.bl true), S2) else b g S2
def eNot (a : EM) : EM := fun g S => bd (a g S) fun x S1 => bd (toB x S1) fun c S2 => some (.ok (.bl (!c)), S2)
def eIf (t : BM) (a b : EM) : EM := fun g S => bd (t g S) fun c S1 => if c = true then a g S1 else b g S1
def eChain (f f' : D → D → ST → Option (Rs D × ST)) (a b c : EM) : EM := fun g S => bd (a g S) fun x S1 => bd (b g S1) fun y S2 => bd (f x y S2) fun z S3 => bd (toB z S3) fun k S4 =>
  if k = true then bd (c g S4) fun w S5 => f' y w S5 else some (.ok (.bl false), S4)

section
variable {X : Cx} {cl : Cl} {E : XK} {e a b c : Expr} {es : List Expr} {pos : Pos} {m ma mb mc : EM} {mr : AM} {t u : BM}
theorem toB_inv {x : D} {S S' : ST} {r : Rs Bool} (h : toB x S = some (r, S')) : ∃ b, x = .bl b ∧ r = .ok b ∧ S = S' := by
  cases x <;> cases h
  exact ⟨_, rfl, rfl, rfl⟩
theorem Dt.bl_inv {K : Fr} {q : Nat → Addr} {n : Nat} {H : Hp} {v : V} {b : Bool} (h : Dt K q n H v (.bl b)) : v = .bl b := by cases h; rfl
theorem Dt.int_inv {K : Fr} {q : Nat → Addr} {n : Nat} {H : Hp} {v : V} {b : Int} (h : Dt K q n H v (.int b)) : v = .int b := by cases h; rfl
theorem Dt.str_inv {K : Fr} {q : Nat → Addr} {n : Nat} {H : Hp} {v : V} {b : Str} (h : Dt K q n H v (.str b)) : v = .str b := by cases h; rfl
theorem Dt.non_inv {K : Fr} {q : Nat → Addr} {n : Nat} {H : Hp} {v : V} (h : Dt K q n H v .non) : v = .non := by cases h; rfl

theorem ee_var (i : Nat) {x : Str} (hN : X.N[i]? = some x := by rfl) (hv : Vis X.env.scope x := by first | exact Or.inl rfl | exact Or.inr (Or.inl rfl) | exact Or.inr (Or.inr rfl)) (hd : (x == ("__debug__" : Str)) = false := by decide)
    (hcd : (x == ("__classdict__" : Str)) = false := by decide) : EE X cl E (.Name x pos) (eVar i) := by
  refine ⟨tVar i, pv i hN hv hd hcd, fun g S r S' h q s H Q w sl po => ?_⟩
  unfold eVar at h
  split at h
  · rename_i d hd
    cases h
    obtain ⟨v, e1, e2⟩ := sl.2 i d hd
    exact ⟨v, e1, po q H v Gr.refl w e2⟩
  · cases h
theorem ee_of {te : TE} {d : D} {v : V} (h : PE X e (tC v)) (hd : ∀ q n H, Dt X.K q n H v d) : EE X cl E e (eC d) := by
  refine ⟨_, h, fun g S r S' h q s H Q w sl po => ?_⟩
  cases h
  exact po q H v Gr.refl w (hd _ _ _)
theorem ee_int {i : Int} {j} : EE X cl E (.Constant (.int i) j pos) (eC (.int i)) := ee_of (te := tC .non) pe_int fun _ _ _ => .int i
theorem ee_bl {i : Bool} {j} : EE X cl E (.Constant (.bool i) j pos) (eC (.bl i)) := ee_of (te := tC .non) pe_bl fun _ _ _ => .bl i
theorem ee_str {i : Str} {j} : EE X cl E (.Constant (.str i) j pos) (eC (.str i)) := ee_of (te := tC .non) pe_str fun _ _ _ => .str i
theorem ee_non {j} : EE X cl E (.Constant .none j pos) (eC .non) := ee_of (te := tC .non) pe_non fun _ _ _ => .non
theorem ee_glob {x : Str} {u : Value} {v : V} {d : D} (hg : Gl X x) (hm : X.mg x = some u) (r : RelV v u) (hd : ∀ q n H, Dt X.K q n H v d) (hdb : (x == ("__debug__" : Str)) = false := by decide) : EE X cl E (.Name x pos) (eC d) := ee_of (te := tC .non) (pe_glob hg hm r hdb) hd

theorem ee_op {op : Operator} {r : R2} {f : D → D → ST → Option (Rs D × ST)} (ho : OpR X (binaryOp op) r) (hf : OpE X.K cl E r f) (ha : EE X cl E a ma) (hb : EE X cl E b mb) : EE X cl E (.BinOp a op b pos) (eOp f ma mb) := by
  obtain ⟨ta, pa, ea⟩ := ha
  obtain ⟨tb, pb, eb⟩ := hb
  refine ⟨_, pe_fz (pe_op ho pa pb), fun g S z S' h q s H Q w sl po => ?_⟩
  rcases bd_inv h with ⟨x, S1, h1, h⟩ | ⟨c, fs, h1, rfl⟩
  · refine ea g S _ S1 h1 q s H _ w sl fun q1 H1 vx g1 w1 d1 => ?_
    rcases bd_inv h with ⟨y, S2, h2, h⟩ | ⟨c, fs, h2, rfl⟩
    · refine eb g S1 _ S2 h2 q1 s H1 _ w1 (sl.mono g1) fun q2 H2 vy g2 w2 d2 => ?_
      exact hf x y S2 z S' h q2 H2 vx vy Q w2 (d1.mono g2.ge) d2 (po.to (g1.trans g2))
    · exact eb g S1 _ S' h2 q1 s H1 _ w1 (sl.mono g1) (Post.ex (Q := Q) (po.to g1))
  · exact ea g S _ S' h1 q s H _ w sl (Post.ex (Q := Q) po)
theorem ee_un {op : UnaryOp} {r : V → Hp → VK → Prop} {f : D → ST → Option (Rs D × ST)} (ho : UnR X (unaryOp op) r) (hf : UnE X.K cl E r f) (ha : EE X cl E a ma) : EE X cl E (.UnaryOp op a pos) (eUn f ma) := by
  obtain ⟨ta, pa, ea⟩ := ha
  refine ⟨_, pe_fz (pe_un ho pa), fun g S z S' h q s H Q w sl po => ?_⟩
  rcases bd_inv h with ⟨x, S1, h1, h⟩ | ⟨c, fs, h1, rfl⟩
  · exact ea g S _ S1 h1 q s H _ w sl fun q1 H1 vx g1 w1 d1 => hf x S1 z S' h q1 H1 vx Q w1 d1 (po.to g1)
  · exact ea g S _ S' h1 q s H _ w sl (Post.ex (Q := Q) po)
theorem ee_cmp {op : CmpOp} {r : R2} {f : D → D → ST → Option (Rs D × ST)} (ho : OpR X (compareOp op) r) (hm : behindInMarks op b = false) (hf : CpE X.K cl E r f) (ha : EE X cl E a ma) (hb : EE X cl E b mb) : EE X cl E (.Compare a [op] [b] pos) (eOp f ma mb) := by
  obtain ⟨ta, pa, ea⟩ := ha
  obtain ⟨tb, pb, eb⟩ := hb
  refine ⟨_, pe_cmpR ho pa pb hm, fun g S z S' h q s H Q w sl po => ?_⟩
  rcases bd_inv h with ⟨x, S1, h1, h⟩ | ⟨c, fs, h1, rfl⟩
  · refine ea g S _ S1 h1 q s H _ w sl fun q1 H1 vx g1 w1 d1 => ?_
    rcases bd_inv h with ⟨y, S2, h2, h⟩ | ⟨c, fs, h2, rfl⟩
    · refine eb g S1 _ S2 h2 q1 s H1 _ w1 (sl.mono g1) fun q2 H2 vy g2 w2 d2 => ?_
      exact hf x y S2 z S' h q2 H2 vx vy Q w2 (d1.mono g2.ge) d2 (po.to (g1.trans g2))
    · exact eb g S1 _ S' h2 q1 s H1 _ w1 (sl.mono g1) (Post.ex (Q := Q) (po.to g1))
  · exact ea g S _ S' h1 q s H _ w sl (Post.ex (Q := Q) po)
theorem ee_chain {op op' : CmpOp} {r r' : R2} {f f' : D → D → ST → Option (Rs D × ST)} (ho : OpR X (compareOp op) r) (ho' : OpR X (compareOp op') r') (hf : CpE X.K cl E r f) (hf' : CpE X.K cl E r' f')
    (ha : EE X cl E a ma) (hb : EE X cl E b mb) (hc : EE X cl E c mc) (hm : lastMarks [op, op'] [b, c] = false := by rfl) : EE X cl E (.Compare a [op, op'] [b, c] pos) (eChain f f' ma mb mc) := by
  obtain ⟨ta, pa, ea⟩ := ha
  obtain ⟨tb, pb, eb⟩ := hb
  obtain ⟨tc, pc, ec⟩ := hc
  refine ⟨_, pe_chain ho ho' pa pb pc hm, fun g S z S' h q s H Q w sl po => ?_⟩
  rcases bd_inv h with ⟨x, S1, h1, h⟩ | ⟨c, fs, h1, rfl⟩
  · refine ea g S _ S1 h1 q s H _ w sl fun q1 H1 vx g1 w1 d1 => ?_
    rcases bd_inv h with ⟨y, S2, h2, h⟩ | ⟨c, fs, h2, rfl⟩
    · refine eb g S1 _ S2 h2 q1 s H1 _ w1 (sl.mono g1) fun q2 H2 vy g2 w2 d2 => ?_
      rcases bd_inv h with ⟨k, S3, h3, h⟩ | ⟨c, fs, h3, rfl⟩
      · refine hf x y S2 _ S3 h3 q2 H2 vx vy _ w2 (d1.mono g2.ge) d2 fun q3 H3 vz g3 w3 d3 => ?_
        rcases bd_inv h with ⟨k', S4, h4, h⟩ | ⟨c, fs, h4, rfl⟩
        · obtain ⟨kb, rfl, e4, rfl⟩ := toB_inv h4
          cases e4
          obtain rfl := d3.bl_inv
          refine ⟨k', rfl, ?_⟩
          cases k' with
          | true =>
            show tc s H3 fun w' H4 => r' vy w' H4 Q
            rcases bd_inv (x := mc g S3) h with ⟨v, S5, h5, h⟩ | ⟨c, fs, h5, rfl⟩
            · refine ec g S3 _ S5 h5 q3 s H3 _ w3 (sl.mono ((g1.trans g2).trans g3)) fun q4 H4 vw g4 w4 d4 => ?_
              exact hf' y v S5 z S' h q4 H4 vy vw Q w4 (d2.mono (g3.trans g4).ge) d4 (po.to (((g1.trans g2).trans g3).trans g4))
            · exact ec g S3 _ S' h5 q3 s H3 _ w3 (sl.mono ((g1.trans g2).trans g3)) (Post.ex (Q := Q) (po.to ((g1.trans g2).trans g3)))
          | false =>
            cases h
            exact po q3 H3 (.bl false) ((g1.trans g2).trans g3) w3 (.bl false)
        · obtain ⟨_, _, e4, _⟩ := toB_inv h4
          cases e4
      · exact hf x y S2 _ S' h3 q2 H2 vx vy _ w2 (d1.mono g2.ge) d2 (Post.ex (Q := Q) (po.to (g1.trans g2)))
    · exact eb g S1 _ S' h2 q1 s H1 _ w1 (sl.mono g1) (Post.ex (Q := Q) (po.to g1))
  · exact ea g S _ S' h1 q s H _ w sl (Post.ex (Q := Q) po)
/-! arguments -/
theorem ea_nil : EA X cl E [] aNil := by
  refine ⟨tNil, pa_nil, fun g S z S' h q s H Q w sl po => ?_⟩
  cases h
  exact po q H [] Gr.refl w .nil
theorem ea_cons (ha : EE X cl E e ma) (hr : EA X cl E es mr) (hs : starEach (e :: es) X.env = (false, eval e X.env) :: starEach es X.env := by rfl) : EA X cl E (e :: es) (aCons ma mr) := by
  obtain ⟨ta, pa, ea⟩ := ha
  obtain ⟨tr, pr, er⟩ := hr
  refine ⟨tCons ta tr, pa_cons pa pr hs, fun g S z S' h q s H Q w sl po => ?_⟩
  rcases bd_inv h with ⟨x, S1, h1, h⟩ | ⟨c, fs, h1, rfl⟩
  · refine ea g S _ S1 h1 q s H _ w sl fun q1 H1 vx g1 w1 d1 => ?_
    rcases bd_inv h with ⟨y, S2, h2, h⟩ | ⟨c, fs, h2, rfl⟩
    · cases h
      refine er g S1 _ _ h2 q1 s H1 _ w1 (sl.mono g1) fun q2 H2 vy g2 w2 d2 => ?_
      exact po q2 H2 (vx :: vy) (g1.trans g2) w2 (.cons (d1.mono g2.ge) d2)
    · exact er g S1 _ S' h2 q1 s H1 _ w1 (sl.mono g1) (Post.to (Q := fun _ _ => False) (r := .ex c fs) g1 po)
  · exact ea g S _ S' h1 q s H _ w sl (Post.ex (Q := fun _ _ => False) po)
/-! truths as values -/
theorem ee_one {op} (h : EE X cl E a ma) : EE X cl E (.BoolOp op [a] pos) ma := by
  obtain ⟨ta, pa, ea⟩ := h
  exact ⟨ta, pe_one pa, ea⟩
theorem ee_and {rest : List Expr} (ha : EE X cl E a ma) (hb : EE X cl E (.BoolOp .And (b :: rest) pos) mb) : EE X cl E (.BoolOp .And (a :: b :: rest) pos) (eAnd ma mb) := by
  obtain ⟨ta, pa, ea⟩ := ha
  obtain ⟨tb, pb, eb⟩ := hb
  refine ⟨_, pe_and pa pb, fun g S z S' h q s H Q w sl po => ?_⟩
  rcases bd_inv h with ⟨x, S1, h1, h⟩ | ⟨c, fs, h1, rfl⟩
  · refine ea g S _ S1 h1 q s H _ w sl fun q1 H1 vx g1 w1 d1 => ?_
    rcases bd_inv h with ⟨k, S2, h2, h⟩ | ⟨c, fs, h2, rfl⟩
    · obtain ⟨kb, rfl, e4, rfl⟩ := toB_inv h2
      cases e4
      obtain rfl := d1.bl_inv
      refine ⟨k, rfl, ?_⟩
      cases k with
      | true => exact eb g S1 z S' h q1 s H1 Q w1 (sl.mono g1) (po.to g1)
      | false =>
        cases h
        exact po q1 H1 (.bl false) g1 w1 (.bl false)
    · obtain ⟨_, _, e4, _⟩ := toB_inv h2
      cases e4
  · exact ea g S _ S' h1 q s H _ w sl (Post.ex (Q := Q) po)
theorem ee_or {rest : List Expr} (ha : EE X cl E a ma) (hb : EE X cl E (.BoolOp .Or (b :: rest) pos) mb) : EE X cl E (.BoolOp .Or (a :: b :: rest) pos) (eOr ma mb) := by
  obtain ⟨ta, pa, ea⟩ := ha
  obtain ⟨tb, pb, eb⟩ := hb
  refine ⟨_, pe_or pa pb, fun g S z S' h q s H Q w sl po => ?_⟩
  rcases bd_inv h with ⟨x, S1, h1, h⟩ | ⟨c, fs, h1, rfl⟩
  · refine ea g S _ S1 h1 q s H _ w sl fun q1 H1 vx g1 w1 d1 => ?_
    rcases bd_inv h with ⟨k, S2, h2, h⟩ | ⟨c, fs, h2, rfl⟩
    · obtain ⟨kb, rfl, e4, rfl⟩ := toB_inv h2
      cases e4
      obtain rfl := d1.bl_inv
      refine ⟨k, rfl, ?_⟩
      cases k with
      | false => exact eb g S1 z S' h q1 s H1 Q w1 (sl.mono g1) (po.to g1)
      | true =>
        cases h
        exact po q1 H1 (.bl true) g1 w1 (.bl true)
    · obtain ⟨_, _, e4, _⟩ := toB_inv h2
      cases e4
  · exact ea g S _ S' h1 q s H _ w sl (Post.ex (Q := Q) po)
theorem ee_not (ha : EE X cl E a ma) : EE X cl E (.UnaryOp .Not a pos) (eNot ma) := by
  obtain ⟨ta, pa, ea⟩ := ha
  refine ⟨_, pe_not pa, fun g S z S' h q s H Q w sl po => ?_⟩
  rcases bd_inv h with ⟨x, S1, h1, h⟩ | ⟨c, fs, h1, rfl⟩
  · refine ea g S _ S1 h1 q s H _ w sl fun q1 H1 vx g1 w1 d1 => ?_
    rcases bd_inv h with ⟨k, S2, h2, h⟩ | ⟨c, fs, h2, rfl⟩
    · obtain ⟨kb, rfl, e4, rfl⟩ := toB_inv h2
      cases e4
      cases h
      obtain rfl := d1.bl_inv
      exact ⟨k, rfl, po q1 H1 _ g1 w1 (.bl _)⟩
    · obtain ⟨_, _, e4, _⟩ := toB_inv h2
      cases e4
  · exact ea g S _ S' h1 q s H _ w sl (Post.ex (Q := Q) po)
/-! tests -/
theorem et_of {te : TT} (h : EE X cl E e m) (hp : ∀ te, PE X e te → PT X e (tB te)) : ET X cl E e (bVal m) := by
  obtain ⟨ta, pa, ea⟩ := h
  refine ⟨_, hp ta pa, fun g S z S' h q s H Q w sl po => ?_⟩
  rcases bd_inv h with ⟨x, S1, h1, h⟩ | ⟨c, fs, h1, rfl⟩
  · refine ea g S _ S1 h1 q s H _ w sl fun q1 H1 vx g1 w1 d1 => ?_
    obtain ⟨kb, rfl, e4, rfl⟩ := toB_inv h
    subst e4
    obtain rfl := d1.bl_inv
    exact ⟨kb, rfl, po q1 H1 g1 w1⟩
  · exact ea g S _ S' h1 q s H _ w sl (Post.ex (Q := fun _ _ => False) po)
theorem et_val (h : EE X cl E e m) (he : ∀ whole, isTrue e X.env whole = (do let v ← whole; standAt e.pos; holding [v] (truthy v)) := by intro _; rfl) : ET X cl E e (bVal m) := et_of (te := tYes) h fun te p => pt_val p he
theorem et_w (h : EW X cl E e t) : ET X cl E e t := by
  obtain ⟨ta, pa, ea⟩ := h
  exact ⟨ta, pa.pt, ea⟩
theorem ew_and1 (h : ET X cl E a t) : EW X cl E (.BoolOp .And [a] pos) t := by
  obtain ⟨ta, pa, ea⟩ := h
  exact ⟨ta, pw_and1 pa, ea⟩
theorem ew_or1 (h : ET X cl E a t) : EW X cl E (.BoolOp .Or [a] pos) t := by
  obtain ⟨ta, pa, ea⟩ := h
  exact ⟨ta, pw_or1 pa, ea⟩
theorem ew_and {rest : List Expr} (ha : ET X cl E a t) (hb : EW X cl E (.BoolOp .And (b :: rest) pos) u) : EW X cl E (.BoolOp .And (a :: b :: rest) pos) (bAnd t u) := by
  obtain ⟨ta, pa, ea⟩ := ha
  obtain ⟨tb, pb, eb⟩ := hb
  refine ⟨_, pw_and pa pb, fun g S z S' h q s H Q w sl po => ?_⟩
  rcases bd_inv h with ⟨k, S1, h1, h⟩ | ⟨c, fs, h1, rfl⟩
  · refine ea g S _ S1 h1 q s H _ w sl fun q1 H1 g1 w1 => ?_
    cases k with
    | true => exact eb g S1 z S' h q1 s H1 Q w1 (sl.mono g1) (po.to g1)
    | false => cases h; exact po q1 H1 g1 w1
  · exact ea g S _ S' h1 q s H _ w sl po
theorem ew_or {rest : List Expr} (ha : ET X cl E a t) (hb : EW X cl E (.BoolOp .Or (b :: rest) pos) u) : EW X cl E (.BoolOp .Or (a :: b :: rest) pos) (bOr t u) := by
  obtain ⟨ta, pa, ea⟩ := ha
  obtain ⟨tb, pb, eb⟩ := hb
  refine ⟨_, pw_or pa pb, fun g S z S' h q s H Q w sl po => ?_⟩
  rcases bd_inv h with ⟨k, S1, h1, h⟩ | ⟨c, fs, h1, rfl⟩
  · refine ea g S _ S1 h1 q s H _ w sl fun q1 H1 g1 w1 => ?_
    cases k with
    | false => exact eb g S1 z S' h q1 s H1 Q w1 (sl.mono g1) (po.to g1)
    | true => cases h; exact po q1 H1 g1 w1
  · exact ea g S _ S' h1 q s H _ w sl po
theorem et_not (ha : ET X cl E a t) : ET X cl E (.UnaryOp .Not a pos) (bNot t) := by
  obtain ⟨ta, pa, ea⟩ := ha
  refine ⟨_, pt_not pa, fun g S z S' h q s H Q w sl po => ?_⟩
  rcases bd_inv h with ⟨k, S1, h1, h⟩ | ⟨c, fs, h1, rfl⟩
  · cases h
    exact ea g S _ _ h1 q s H _ w sl fun q1 H1 g1 w1 => po q1 H1 g1 w1
  · exact ea g S _ S' h1 q s H _ w sl po
theorem et_cmp {op : CmpOp} {r : R2} {f : D → D → ST → Option (Rs D × ST)} (ho : OpR X (compareOp op) r) (hm : behindInMarks op b = false) (hf : CpE X.K cl E r f) (ha : EE X cl E a ma) (hb : EE X cl E b mb) : ET X cl E (.Compare a [op] [b] pos) (bVal (eOp f ma mb)) := by
  obtain ⟨ta, pa, ea⟩ := ha
  obtain ⟨tb, pb, eb⟩ := hb
  refine ⟨_, pt_cmpR ho pa pb hm, fun g S z S' h q s H Q w sl po => ?_⟩
  rcases bd_inv h with ⟨x, S1, h1, h⟩ | ⟨c, fs, h1, rfl⟩
  · obtain ⟨kb, rfl, e4, rfl⟩ := toB_inv h
    subst e4
    rcases bd_inv h1 with ⟨x, S1, h1, h⟩ | ⟨c, fs, h1, e⟩
    · refine ea g S _ S1 h1 q s H _ w sl fun q1 H1 vx g1 w1 d1 => ?_
      rcases bd_inv h with ⟨y, S2, h2, h⟩ | ⟨c, fs, h2, e⟩
      · refine eb g S1 _ S2 h2 q1 s H1 _ w1 (sl.mono g1) fun q2 H2 vy g2 w2 d2 => ?_
        refine hf x y S2 _ _ h q2 H2 vx vy _ w2 (d1.mono g2.ge) d2 fun q3 H3 v g3 w3 d3 => ?_
        obtain rfl := d3.bl_inv
        exact ⟨kb, rfl, po q3 H3 ((g1.trans g2).trans g3) w3⟩
      · cases e
    · cases e
  · rcases bd_inv h1 with ⟨x, S1, h1, h⟩ | ⟨c, fs, h1, e⟩
    · refine ea g S _ S1 h1 q s H _ w sl fun q1 H1 vx g1 w1 d1 => ?_
      rcases bd_inv h with ⟨y, S2, h2, h⟩ | ⟨c, fs, h2, e⟩
      · refine eb g S1 _ S2 h2 q1 s H1 _ w1 (sl.mono g1) fun q2 H2 vy g2 w2 d2 => ?_
        exact hf x y S2 _ _ h q2 H2 vx vy _ w2 (d1.mono g2.ge) d2 (Post.to (Q := fun _ _ => False) (r := .ex _ _) (g1.trans g2) po)
      · cases e
        exact eb g S1 _ _ h2 q1 s H1 _ w1 (sl.mono g1) (Post.to (Q := fun _ _ => False) (r := .ex _ _) g1 po)
    · cases e
      exact ea g S _ _ h1 q s H _ w sl po
theorem ee_if (ht : ET X cl E c t) (ha : EE X cl E a ma) (hb : EE X cl E b mb) : EE X cl E (.IfExp c a b pos) (eIf t ma mb) := by
  obtain ⟨tt, pt, et⟩ := ht
  obtain ⟨ta, pa, ea⟩ := ha
  obtain ⟨tb, pb, eb⟩ := hb
  refine ⟨_, pe_ifExp pt pa pb, fun g S z S' h q s H Q w sl po => ?_⟩
  rcases bd_inv h with ⟨k, S1, h1, h⟩ | ⟨c, fs, h1, rfl⟩
  · refine et g S _ S1 h1 q s H _ w sl fun q1 H1 g1 w1 => ?_
    cases k with
    | true => exact ea g S1 z S' h q1 s H1 Q w1 (sl.mono g1) (po.to g1)
    | false => exact eb g S1 z S' h q1 s H1 Q w1 (sl.mono g1) (po.to g1)
  · exact et g S _ S' h1 q s H _ w sl (Post.ex (Q' := fun _ _ => False) po)
/-! calls -/
theorem ee_callB {id : String} {x : Str} {p : Pos} {v : Value} {r : List V → Hp → VK → Prop} {f : List D → ST → Option (Rs D × ST)} (hc : CallR X (.builtin id) r) (hf : CaE X.K cl E r f) (hg : Gl X x) (hm : X.mg x = none) (hv : bootBuiltins x = some (.builtin id))
    (ha : EA X cl E (e :: es) mr) (hp : ∀ ta, PA X (e :: es) ta → PE X (.Call (.Name x p) (e :: es) [] pos) (tCB r ta)) : EE X cl E (.Call (.Name x p) (e :: es) [] pos) (eCall f mr) := by
  obtain ⟨ta, pa, ea⟩ := ha
  refine ⟨_, pe_fz (hp ta pa), fun g S z S' h q s H Q w sl po => ?_⟩
  rcases bd_inv h with ⟨xs, S1, h1, h⟩ | ⟨c, fs, h1, rfl⟩
  · exact ea g S _ S1 h1 q s H _ w sl fun q1 H1 vs g1 w1 d1 => hf xs S1 z S' h q1 H1 vs Q w1 d1 (po.to g1)
  · exact ea g S _ S' h1 q s H _ w sl (Post.ex (Q' := fun _ _ => False) po)
theorem ee_callP {x : Str} {p : Pos} {r : List V → Hp → VK → Prop} {f : List D → ST → Option (Rs D × ST)} (hf : CaE X.K cl E r f)
    (ha : EA X cl E es mr) (hp : ∀ ta, PA X es ta → PE X (.Call (.Name x p) es [] pos) (tCB r ta)) : EE X cl E (.Call (.Name x p) es [] pos) (eCall f mr) := by
  obtain ⟨ta, pa, ea⟩ := ha
  refine ⟨_, pe_fz (hp ta pa), fun g S z S' h q s H Q w sl po => ?_⟩
  rcases bd_inv h with ⟨xs, S1, h1, h⟩ | ⟨c, fs, h1, rfl⟩
  · exact ea g S _ S1 h1 q s H _ w sl fun q1 H1 vs g1 w1 d1 => hf xs S1 z S' h q1 H1 vs Q w1 d1 (po.to g1)
  · exact ea g S _ S' h1 q s H _ w sl (Post.ex (Q' := fun _ _ => False) po)
end
end U

set_option Elab.async false
set_option linter.all false
set_option maxRecDepth 100000
set_option maxHeartbeats 1000000
namespace U
open PySem L2
/-! ### reading sequences -/
def stL (S : ST) (n : Nat) : Option (List D) := match S[n]? with
  | some (.lst ds) => some ds
  | _ => none
theorem stL_some {S : ST} {n : Nat} {ds : List D} (h : stL S n = some ds) : S[n]? = some (.lst ds) := by
  unfold stL at h
  split at h
  · rename_i e; cases h; exact e
  · cases h
theorem stL_of {S : ST} {n : Nat} {ds : List D} (h : S[n]? = some (.lst ds)) : stL S n = some ds := by
  unfold stL
  rw [h]
def lsS (S : ST) : D → Option (List D)
  | .lst ds => some ds
  | .kls ds => some ds
  | .ptr n => stL S n
  | _ => none
/-- a tracked list -/
def lsT (S : ST) : D → Option (List D)
  | .lst ds => some ds
  | .ptr n => stL S n
  | _ => none
def sqS (S : ST) : D → Option (List D)
  | .tup ds => some ds
  | d => lsS S d
section
variable {K : Fr} {q : Nat → Addr} {n : Nat} {H : Hp} {S : ST} {v : V} {d : D} {ds : List D}
theorem lsT_inv (h : lsT S d = some ds) (w : Wd K q S H) (hd : Dt K q S.length H v d) : ∃ a vs, v = .ref a ∧ Rd H a (.lst vs) ∧ Dts K q S.length H vs ds := by
  cases hd with
  | lst h1 h2 => cases h; exact ⟨_, _, rfl, .inr ⟨_, h1⟩, h2⟩
  | @ptr m hm =>
    obtain ⟨vs, e1, e2⟩ := w.ob m _ (stL_some h)
    exact ⟨_, vs, rfl, .inl e1, e2⟩
  | _ => cases h
theorem lsS_inv (h : lsS S d = some ds) (w : Wd K q S H) (hd : Dt K q S.length H v d) : ∃ a vs, v = .ref a ∧ SqL K H a vs ∧ Dts K q S.length H vs ds := by
  cases hd with
  | lst h1 h2 => cases h; exact ⟨_, _, rfl, .inl (.inr ⟨_, h1⟩), h2⟩
  | kls h1 h2 => cases h; exact ⟨_, _, rfl, h1.sq, h2⟩
  | @ptr m hm =>
    obtain ⟨vs, e1, e2⟩ := w.ob m _ (stL_some h)
    exact ⟨_, vs, rfl, .inl (.inl e1), e2⟩
  | _ => cases h
theorem sqS_inv (h : sqS S d = some ds) (w : Wd K q S H) (hd : Dt K q S.length H v d) : ∃ a vs, v = .ref a ∧ (SqL K H a vs ∨ SqT K H a vs) ∧ Dts K q S.length H vs ds := by
  cases hd with
  | tup h1 h2 => cases h; exact ⟨_, _, rfl, .inr h1, h2⟩
  | lst h1 h2 =>
    obtain ⟨a, vs, e, s, r⟩ := lsS_inv (d := .lst _) h w (.lst h1 h2)
    exact ⟨a, vs, e, .inl s, r⟩
  | kls h1 h2 =>
    obtain ⟨a, vs, e, s, r⟩ := lsS_inv (d := .kls _) h w (.kls h1 h2)
    exact ⟨a, vs, e, .inl s, r⟩
  | @ptr m hm =>
    obtain ⟨a, vs, e, s, r⟩ := lsS_inv (d := .ptr m) h w (.ptr hm)
    exact ⟨a, vs, e, .inl s, r⟩
  | _ => cases h
theorem Dt.tup_inv (h : Dt K q n H v (.tup ds)) : ∃ a vs, v = .ref a ∧ SqT K H a vs ∧ Dts K q n H vs ds := by
  cases h with
  | tup h1 h2 => exact ⟨_, _, rfl, h1, h2⟩
theorem dts_at {vs : List V} {i : Int} (h : Dts K q n H vs ds) (e : atI ds i = some d) : ∃ v, atI vs i = some v ∧ Dt K q n H v d := by
  unfold atI at e ⊢
  rw [h.length]
  cases hj : ixN ds.length i with
  | none => rw [hj] at e; cases e
  | some j =>
    rw [hj] at e
    exact h.get (i := j) e
def cutD (xs : List D) (lo hi : Option Int) : List D := (xs.drop (HT.sIx xs.length 0 lo)).take (HT.sIx xs.length xs.length hi - HT.sIx xs.length 0 lo)
theorem dts_cut {vs : List V} {lo hi : Option Int} (h : Dts K q n H vs ds) : Dts K q n H (cutV vs lo hi) (cutD ds lo hi) := by
  unfold cutV cutD
  rw [h.length]
  exact (h.drop _).take _
end
/-- sizes that all rules take -/
def few (n : Nat) : Bool := decide (n ≤ 100000)
theorem few_le {n : Nat} (h : few n = true) : n ≤ sizeLine := Nat.le_trans (of_decide_eq_true h) (by decide)
theorem few_lt {n : Nat} (h : few n = true) : n < sizeLine := Nat.lt_of_le_of_lt (of_decide_eq_true h) (by decide)
/-! ### closing words: a value that is there; a new tuple; a new list, shut -/
section
variable {K : Fr} {cl : Cl} {q : Nat → Addr} {S : ST} {H : Hp} {E : XK} {Q : VK} {d : D} {v : V} {ds : List D} {vs : List V}
theorem fz_val (w : Wd K q S H) (po : Post K cl q S.length H E Q (.ok d) S) (hd : Dt K q S.length H v d) : Fz Q v H := .inl (po q H v Gr.refl w hd)
theorem cp_val (w : Wd K q S H) (po : Post K cl q S.length H E Q (.ok d) S) (hd : Dt K q S.length H v d) : Q v H := po q H v Gr.refl w hd
theorem fz_tup {p : Addr} (w : Wd K q S H) (po : Post K cl q S.length H E Q (.ok (.tup ds)) S) (hp : H p = none) (hd : Dts K q S.length H vs ds) : Fz Q (.ref p) (upd H p (.tup vs)) :=
  .inl (po q _ _ (Gr.new hp) (w.new hp) (.tup (SqT.of upd_same) (hd.mono (Gr.new hp).ge)))
theorem fz_lst {p : Addr} (w : Wd K q S H) (po : Post K cl q S.length H E Q (.ok (.lst ds)) S) (hp : H p = none) (hd : Dts K q S.length H vs ds) : Fz Q (.ref p) (upd H p (.lst vs)) :=
  .inr ⟨p, _, rfl, upd_same, .inl ⟨vs, rfl⟩, fun o => by
    rw [upd_upd]
    exact po q _ _ (Gr.new hp) (w.new hp) (.lst (o := o) upd_same (hd.mono (Gr.new hp).ge))⟩
end
/-! ### arithmetic -/
def addF (x y : D) (S : ST) : Option (Rs D × ST) := match x, y with
  | .int i, .int j => some (.ok (.int (i + j)), S)
  | .str a, .str b => if few (a.length + b.length) = true then some (.ok (.str (a ++ b)), S) else none
  | .tup a, .tup b => if few (a.length + b.length) = true then some (.ok (.tup (a ++ b)), S) else none
  | x, y => match lsT S x, lsT S y with
    | some a, some b => if few (a.length + b.length) = true then some (.ok (.lst (a ++ b)), S) else none
    | _, _ => none
def rCatF : R2 := fun x y H Q => ∃ l b xs zs, x = .ref l ∧ y = .ref b ∧ Rd H l (.lst xs) ∧ Rd H b (.lst zs) ∧ xs.length + zs.length ≤ sizeLine ∧ ∀ p, H p = none → Q (.ref p) (upd H p (.lst (xs ++ zs)))
def rRepF : R2 := fun x y H Q => ∃ l k xs, x = .ref l ∧ y = .int k ∧ Rd H l (.lst xs) ∧ -(2 ^ 63) ≤ k ∧ k < 2 ^ 63 ∧ xs.length * k.toNat ≤ sizeLine ∧ ∀ p, H p = none → Q (.ref p) (upd H p (.lst (List.replicate k.toNat xs).flatten))
section
variable {X : Cx}
theorem op_catF : OpR X (binaryOp .Add) rCatF := by
  intro pins s σ H x y v u Q I rx ry h
  obtain ⟨l, b, xs, zs, rfl, rfl, hH, hB, hz, q⟩ := h
  cases rx
  cases ry
  obtain ⟨z, its, n, r, e⟩ := hH.ok I.hok
  obtain ⟨z2, its2, n2, r2, e2⟩ := hB.ok I.hok
  have hl := r.length
  have hl2 := r2.length
  refine PySem.P.add_list e e2 ?_ (by rw [List.size_toArray, List.size_toArray]; omega)
  have ea : its.toArray ++ its2.toArray = (its ++ its2).toArray := by simp
  rw [ea]
  exact ⟨.ref _, _, I.lnew (t' := s.toks) (r.append r2) (by rw [List.length_append]; omega), rfl, q _ I.fresh⟩
def rAddU (K : Fr) : R2 := fun x y H Q => rI0 (fun i j => .int (i + j)) x y H Q ∨ ((∃ i j, x = .str i ∧ y = .str j ∧ i.length + j.length ≤ sizeLine ∧ Q (.str (i ++ j)) H) ∨ (rCatA K x y H Q ∨ rCatF x y H Q))
theorem op_addU : OpR X (binaryOp .Add) (rAddU X.K) := OpR.or op_add (OpR.or op_add_str (OpR.or op_catA op_catF))
variable {cl : Cl} {E : XK}
theorem addE {K : Fr} : OpE K cl E (rAddU K) addF := by
  intro x y S z S' h q H vx vy Q w hx hy po
  unfold addF at h
  split at h
  · cases h; obtain rfl := hx.int_inv; obtain rfl := hy.int_inv
    exact .inl ⟨_, _, rfl, rfl, fz_val w po (.int _)⟩
  · split at h
    · rename_i hf
      cases h; obtain rfl := hx.str_inv; obtain rfl := hy.str_inv
      exact .inr (.inl ⟨_, _, rfl, rfl, few_le hf, fz_val w po (.str _)⟩)
    · cases h
  · split at h
    · rename_i hf
      cases h
      obtain ⟨a, vs, rfl, s1, d1⟩ := hx.tup_inv
      obtain ⟨b, ws, rfl, s2, d2⟩ := hy.tup_inv
      have l1 := d1.length
      have l2 := d2.length
      refine .inr (.inr (.inl ⟨a, b, vs, ws, rfl, rfl, s1, s2, by rw [l1, l2]; exact few_le hf, fun e => ?_, fun _ e => ?_, fun _ _ p hp => ?_⟩))
      · subst e
        cases d1
        exact fz_val w po hy
      · subst e
        cases d2
        exact fz_val w po (by rw [List.append_nil]; exact hx)
      · exact fz_tup w po hp (d1.append d2)
    · cases h
  · split at h
    · rename_i a b ha hb
      split at h
      · rename_i hf
        cases h
        obtain ⟨a, vs, rfl, s1, d1⟩ := lsT_inv ha w hx
        obtain ⟨b, ws, rfl, s2, d2⟩ := lsT_inv hb w hy
        exact .inr (.inr (.inr ⟨_, _, _, _, rfl, rfl, s1, s2, by rw [d1.length, d2.length]; exact few_le hf, fun p hp => fz_lst w po hp (d1.append d2)⟩))
      · cases h
    · cases h
/-! int operations under a condition -/
def intF (c : Int → Int → Bool) (f : Int → Int → Int) (x y : D) (S : ST) : Option (Rs D × ST) := match x, y with
  | .int i, .int j => if c i j = true then some (.ok (.int (f i j)), S) else none
  | _, _ => none
theorem intE {K : Fr} {C : Int → Int → Prop} {c : Int → Int → Bool} {f : Int → Int → Int} (hc : ∀ i j, c i j = true → C i j) : OpE K cl E (rI C fun i j => .int (f i j)) (intF c f) := by
  intro x y S z S' h q H vx vy Q w hx hy po
  unfold intF at h
  split at h
  · split at h
    · rename_i hf
      cases h; obtain rfl := hx.int_inv; obtain rfl := hy.int_inv
      exact ⟨_, _, rfl, rfl, hc _ _ hf, fz_val w po (.int _)⟩
    · cases h
  · cases h
def subF := intF (fun _ _ => true) (fun i j => i - j)
def modF := intF (fun _ j => decide (0 < j)) (fun i j => i % j)
def fdvF := intF (fun _ j => decide (0 < j) && decide (j.natAbs.log2 < 9000)) (fun i j => i / j)
def powF := intF (fun i j => decide (0 ≤ j) && decide (j ≤ 1000000) && decide (i.natAbs < 2 ^ 64)) (fun i j => i ^ j.toNat)
theorem op_subC : OpR X (binaryOp .Sub) (rI (fun _ _ => True) fun i j => .int (i - j)) := opI fun _ _ _ _ _ _ _ _ q => PyProof.Rows.sub_int q
theorem subE {K : Fr} : OpE K cl E (rI (fun _ _ => True) fun i j => .int (i - j)) subF := intE fun _ _ _ => trivial
theorem modE {K : Fr} : OpE K cl E (rI (fun _ j => 0 < j) fun i j => .int (i % j)) modF := intE fun _ _ h => of_decide_eq_true h
theorem fdvE {K : Fr} : OpE K cl E (rI CDivW fun i j => .int (i / j)) fdvF := intE fun _ _ h => by
  rw [Bool.and_eq_true] at h
  exact ⟨of_decide_eq_true h.1, of_decide_eq_true h.2⟩
theorem powE {K : Fr} : OpE K cl E (rI CPow fun i j => .int (i ^ j.toNat)) powF := intE fun _ _ h => by
  rw [Bool.and_eq_true, Bool.and_eq_true] at h
  exact ⟨of_decide_eq_true h.1.1, of_decide_eq_true h.1.2, of_decide_eq_true h.2⟩
/-! products: ints, a tuple some times, a list some times -/
def mulF (x y : D) (S : ST) : Option (Rs D × ST) := match x, y with
  | .int i, .int j => if (decide (-(2 ^ 64) < i) && decide (i < 2 ^ 64)) || (decide (-(2 ^ 64) < j) && decide (j < 2 ^ 64)) then some (.ok (.int (i * j)), S) else none
  | .tup a, .int k => if !a.isEmpty && decide (2 ≤ k) && decide (k ≤ 1000) && decide (a.length ≤ 1000) then some (.ok (.tup (List.replicate k.toNat a).flatten), S) else none
  | x, .int k => match lsT S x with
    | some a => if decide (0 ≤ k) && decide (k ≤ 1000) && decide (a.length ≤ 1000) then some (.ok (.lst (List.replicate k.toNat a).flatten), S) else none
    | _ => none
  | _, _ => none
theorem op_repF : OpR X (binaryOp .Mult) rRepF := by
  intro pins s σ H x y v u Q I rx ry h
  obtain ⟨l, k, xs, rfl, rfl, hH, h1, h2, hz, q⟩ := h
  cases rx
  obtain ⟨t, rfl⟩ := ry
  obtain ⟨z, its, n, r, e⟩ := hH.ok I.hok
  have hl := r.length
  have hlen : its.toArray.size * k.toNat ≤ sizeLine := by rw [List.size_toArray, ← hl]; exact hz
  have big : (sizeLine : Nat) ≤ (2 ^ 63 - 1) / 8 := by decide
  have hcap : ¬ its.toArray.size * k.toNat > (2 ^ 63 - 1) / 8 := by omega
  have hfit : ¬ (!Builtin.List.listFitsIndex k) = true := by
    rw [fitsIndex_both h1 h2]
    exact Bool.false_ne_true
  have hlong : ¬ Builtin.List.listTooLong (its.toArray.size * k.toNat) = true := by
    rw [notLongL hlen]
    exact Bool.false_ne_true
  have f0 : ∀ m : Nat, List.foldl (fun x1 x2 => x1 ++ x2) #[] (List.replicate m its.toArray) = (List.replicate m its).flatten.toArray := fun m => by
    have := foldl_rep its m []
    rw [List.nil_append] at this
    exact this
  have hnew : List.foldl (fun x1 x2 => x1 ++ x2) #[] (List.replicate (if its.toArray.isEmpty = true then 0 else k.toNat) its.toArray) = (List.replicate k.toNat its).flatten.toArray := by
    rw [f0]
    cases its with
    | nil => simp
    | cons a r' => rw [if_neg (by simp)]
  refine wpAny_binaryOp_repeat_ref (T := "list") (U := "int") (by decide) ⟨_, e, rfl⟩ (fun s' => typeIs_int s' k t) noFill_list_mul PySem.F.fills_int_mul PySem.F.slot_int_rmul repeat_list PySem.F.slot_int_index.lookup
    (call_meets PySem.F.slot_int_rmul (typeIs_int s k t) PySem.F.entry_int_rmul (PySem.F.args_int_rmul_2 _ _) (int___rmul___int_list k t l its.toArray n)
      ⟨e, rfl, ⟨_, e, rfl⟩, call_meets PySem.F.slot_list_mul ⟨_, e, rfl⟩ PySem.F.entry_list_mul (PySem.F.args_list_mul_2 _ _) (AutoListH.list___mul___list_int_3 l its.toArray n k t hfit hcap hlong) ⟨e, ?_⟩⟩)
  rw [hnew]
  exact ⟨.ref _, _, I.lnew (t' := s.toks) (r.rep k.toNat) (by rw [PyProof.Rows.lm_len_rep_flat, Nat.mul_comm]; exact hz), rfl, q _ I.fresh⟩
def rMulU (K : Fr) : R2 := fun x y H Q => rI CMul (fun i j => .int (i * j)) x y H Q ∨ (rRepT K x y H Q ∨ rRepF x y H Q)
theorem op_mulU : OpR X (binaryOp .Mult) (rMulU X.K) := OpR.or op_mul (OpR.or op_repT op_repF)
theorem mulE {K : Fr} : OpE K cl E (rMulU K) mulF := by
  intro x y S z S' h q H vx vy Q w hx hy po
  unfold mulF at h
  split at h
  · split at h
    · rename_i hf
      cases h; obtain rfl := hx.int_inv; obtain rfl := hy.int_inv
      simp only [Bool.or_eq_true, Bool.and_eq_true, decide_eq_true_eq] at hf
      exact .inl ⟨_, _, rfl, rfl, hf, fz_val w po (.int _)⟩
    · cases h
  · split at h
    · rename_i hf
      cases h
      obtain ⟨a, vs, rfl, s1, d1⟩ := hx.tup_inv
      obtain rfl := hy.int_inv
      simp only [Bool.and_eq_true, decide_eq_true_eq, Bool.not_eq_true'] at hf
      have l1 := d1.length
      refine .inr (.inl ⟨a, _, vs, rfl, rfl, s1, fun e => ?_, hf.1.1.2, hf.1.2, by omega, fun p hp => fz_tup w po hp (d1.rep _)⟩)
      subst e
      cases d1
      have := hf.1.1.1
      simp at this
    · cases h
  · split at h
    · rename_i a ha
      split at h
      · rename_i hf
        cases h
        obtain ⟨a, vs, rfl, s1, d1⟩ := lsT_inv ha w hx
        obtain rfl := hy.int_inv
        simp only [Bool.and_eq_true, decide_eq_true_eq] at hf
        have l1 := d1.length
        exact .inr (.inr ⟨_, _, vs, rfl, rfl, s1, by omega, by omega, (by refine Nat.le_trans (Nat.mul_le_mul (show vs.length ≤ 1000 by omega) (show _ ≤ 1000 from ?_)) (by decide); omega), fun p hp => fz_lst w po hp (d1.rep _)⟩)
      · cases h
    · cases h
  · cases h
/-! unary minus -/
def negF (x : D) (S : ST) : Option (Rs D × ST) := match x with
  | .int i => some (.ok (.int (-i)), S)
  | _ => none
theorem negE {K : Fr} : UnE K cl E (rU fun i => .int (-i)) negF := by
  intro x S z S' h q H vx Q w hx po
  unfold negF at h
  split at h
  · cases h; obtain rfl := hx.int_inv
    exact ⟨_, rfl, fz_val w po (.int _)⟩
  · cases h
/-! ### comparisons -/
def cmpF (f : Int → Int → Bool) (x y : D) (S : ST) : Option (Rs D × ST) := match x, y with
  | .int i, .int j => some (.ok (.bl (f i j)), S)
  | _, _ => none
theorem cmpE {K : Fr} {f : Int → Int → Bool} : CpE K cl E (rI0 fun i j => .bl (f i j)) (cmpF f) := by
  intro x y S z S' h q H vx vy Q w hx hy po
  unfold cmpF at h
  split at h
  · cases h; obtain rfl := hx.int_inv; obtain rfl := hy.int_inv
    exact ⟨_, _, rfl, rfl, cp_val w po (.bl _)⟩
  · cases h
def ltF := cmpF (fun i j => decide (i < j))
def leF := cmpF (fun i j => decide (i ≤ j))
def gtF := cmpF (fun i j => decide (j < i))
def geF := cmpF (fun i j => decide (j ≤ i))
end
/-! == of data -/
mutual
def pyD : D → Option PyData
  | .non => some .none
  | .bl b => some (.bool b)
  | .int i => some (.int i)
  | .str s => some (.str s)
  | .tup ds => (pyDs ds).map .tuple
  | .lst ds => (pyDs ds).map .list
  | .kls ds => (pyDs ds).map .list
  | .dic _ => none
  | .ptr _ => none
  | .cst _ => none
def pyDs : List D → Option (List PyData)
  | [] => some []
  | d :: ds => match pyD d, pyDs ds with
    | some a, some b => some (a :: b)
    | _, _ => none
end
def pyS (S : ST) (d : D) : Option PyData := match d with
  | .ptr n => match stL S n with
    | some ds => (pyDs ds).map .list
    | none => none
  | d => pyD d
section
variable {K : Fr} {q : Nat → Addr} {n : Nat} {H : Hp} {S : ST}
mutual
theorem dt_py : ∀ {v : V} {d : D} {p : PyData}, Dt K q n H v d → pyD d = some p → Dp K H v p
  | _, _, _, .non, h => by simp only [pyD] at h; cases h; exact .non
  | _, _, _, .bl b, h => by simp only [pyD] at h; cases h; exact .bl b
  | _, _, _, .int b, h => by simp only [pyD] at h; cases h; exact .int b
  | _, _, _, .str b, h => by simp only [pyD] at h; cases h; exact .str b
  | _, _, _, .tup (ds := ds) s r, h => by
    simp only [pyD, Option.map_eq_some_iff] at h
    obtain ⟨ps, e, rfl⟩ := h
    exact .tup s (dts_py r e)
  | _, _, _, .lst (ds := ds) s r, h => by
    simp only [pyD, Option.map_eq_some_iff] at h
    obtain ⟨ps, e, rfl⟩ := h
    exact .lst (.inl (.inr ⟨_, s⟩)) (dts_py r e)
  | _, _, _, .kls (ds := ds) s r, h => by
    simp only [pyD, Option.map_eq_some_iff] at h
    obtain ⟨ps, e, rfl⟩ := h
    exact .lst s.sq (dts_py r e)
  | _, _, _, .dic _ _, h => by simp only [pyD] at h; cases h
  | _, _, _, .ptr _, h => by simp only [pyD] at h; cases h
  | _, _, _, .cst, h => by simp only [pyD] at h; cases h
theorem dts_py : ∀ {v : List V} {d : List D} {p : List PyData}, Dts K q n H v d → pyDs d = some p → DpAll K H v p
  | _, _, _, .nil, h => by simp only [pyDs] at h; cases h; exact .nil
  | _, _, _, .cons r rs, h => by
    simp only [pyDs] at h
    split at h
    · rename_i a b e1 e2
      cases h
      exact .cons (dt_py r e1) (dts_py rs e2)
    · cases h
end
theorem pyS_py {v : V} {d : D} {p : PyData} (w : Wd K q S H) (r : Dt K q S.length H v d) (h : pyS S d = some p) : Dp K H v p := by
  cases r with
  | @ptr m hm =>
    simp only [pyS] at h
    split at h
    · rename_i ds e
      simp only [Option.map_eq_some_iff] at h
      obtain ⟨ps, e2, rfl⟩ := h
      obtain ⟨vs, e3, e4⟩ := w.ob m _ (stL_some e)
      exact .lst (.inl (.inl e3)) (dts_py e4 e2)
    · cases h
  | non => exact dt_py (q := q) (n := S.length) (d := .non) .non h
  | bl b => exact dt_py (q := q) (n := S.length) (d := .bl b) (.bl b) h
  | int b => exact dt_py (q := q) (n := S.length) (d := .int b) (.int b) h
  | str b => exact dt_py (q := q) (n := S.length) (d := .str b) (.str b) h
  | tup a b => exact dt_py (q := q) (n := S.length) (d := .tup _) (.tup a b) h
  | lst a b => exact dt_py (q := q) (n := S.length) (d := .lst _) (.lst a b) h
  | kls a b => exact dt_py (q := q) (n := S.length) (d := .kls _) (.kls a b) h
  | dic a b => exact dt_py (q := q) (n := S.length) (d := .dic _) (.dic a b) h
  | cst => exact dt_py (q := q) (n := S.length) (d := .cst _) .cst h
end
def eqG (f : Bool → Bool) (x y : Option PyData) (S : ST) : Option (Rs D × ST) := match x, y with
  | some a, some b => if (SeqAt.shaped a && SeqAt.shaped b) = true then some (.ok (.bl (f (PyData.eqv a b))), S) else none
  | _, _ => none
def strP : D → Option Str
  | .str a => some a
  | _ => none
theorem strP_inv {x : D} {a : Str} (h : strP x = some a) : x = .str a := by
  unfold strP at h
  split at h
  · cases h; rfl
  · cases h
def eqF (f : Bool → Bool) (x y : D) (S : ST) : Option (Rs D × ST) := match strP x, strP y with
  | some a, some b => some (.ok (.bl (f (decide (a = b)))), S)
  | _, _ => eqG f (pyS S x) (pyS S y) S
def rEqU (K : Fr) : R2 := fun x y H Q => rEq x y H Q ∨ rEqD K x y H Q
def rNeU (K : Fr) : R2 := fun x y H Q => rNe x y H Q ∨ rNeD K x y H Q
theorem dec_str {a b : Str} : decide (V.str a = V.str b) = decide (a = b) := by
  rw [decide_eq_decide]
  constructor
  · intro h; cases h; rfl
  · intro h; rw [h]
section
variable {X : Cx} {cl : Cl} {E : XK}
theorem eqE {K : Fr} : CpE K cl E (rEqU K) (eqF id) := by
  intro x y S z S' h q H vx vy Q w hx hy po
  unfold eqF at h
  split at h
  · rename_i e1 e2
    cases h
    obtain rfl := strP_inv e1
    obtain rfl := strP_inv e2
    obtain rfl := hx.str_inv
    obtain rfl := hy.str_inv
    refine .inl ⟨rfl, ?_⟩
    rw [dec_str]
    exact cp_val w po (.bl _)
  · unfold eqG at h
    split at h
    · rename_i a b e1 e2
      split at h
      · rename_i hs
        cases h
        rw [Bool.and_eq_true] at hs
        exact .inr ⟨a, b, pyS_py w hx e1, pyS_py w hy e2, hs.1, hs.2, cp_val w po (.bl _)⟩
      · cases h
    · cases h
theorem neE {K : Fr} : CpE K cl E (rNeU K) (eqF not) := by
  intro x y S z S' h q H vx vy Q w hx hy po
  unfold eqF at h
  split at h
  · rename_i e1 e2
    cases h
    obtain rfl := strP_inv e1
    obtain rfl := strP_inv e2
    obtain rfl := hx.str_inv
    obtain rfl := hy.str_inv
    refine .inl ⟨rfl, ?_⟩
    rw [dec_str]
    exact cp_val w po (.bl _)
  · unfold eqG at h
    split at h
    · rename_i a b e1 e2
      split at h
      · rename_i hs
        cases h
        rw [Bool.and_eq_true] at hs
        exact .inr ⟨a, b, pyS_py w hx e1, pyS_py w hy e2, hs.1, hs.2, cp_val w po (.bl _)⟩
      · cases h
    · cases h
theorem op_eqU {X : Cx} (hu : X.A.units + 64 < cLine) : OpR X (compareOp .Eq) (rEqU X.K) := OpR.or op_eq (op_eqD hu)
theorem op_neU {X : Cx} (hu : X.A.units + 64 < cLine) : OpR X (compareOp .NotEq) (rNeU X.K) := OpR.or op_ne (op_neD hu)
/-! is None, is True -/
def isF (f : Bool → Bool) (x y : D) (S : ST) : Option (Rs D × ST) := match x, y with
  | .bl a, .bl b => some (.ok (.bl (f (decide (a = b)))), S)
  | .non, .non => some (.ok (.bl (f true)), S)
  | .bl _, .non => some (.ok (.bl (f false)), S)
  | .int _, .non => some (.ok (.bl (f false)), S)
  | .str _, .non => some (.ok (.bl (f false)), S)
  | .tup _, .non => some (.ok (.bl (f false)), S)
  | .lst _, .non => some (.ok (.bl (f false)), S)
  | .kls _, .non => some (.ok (.bl (f false)), S)
  | .dic _, .non => some (.ok (.bl (f false)), S)
  | .ptr _, .non => some (.ok (.bl (f false)), S)
  | _, _ => none
def rIsU : R2 := fun x y H Q => (∃ a b : Bool, x = .bl a ∧ y = .bl b ∧ Q (.bl (decide (a = b))) H) ∨ (y = .non ∧ Q (.bl (decide (x = .non))) H)
def rIsntU : R2 := fun x y H Q => (∃ a b : Bool, x = .bl a ∧ y = .bl b ∧ Q (.bl (!decide (a = b))) H) ∨ (y = .non ∧ Q (.bl (!decide (x = .non))) H)
theorem op_isU : OpR X (compareOp .Is) rIsU := OpR.or op_isBl op_isN
theorem op_isntU : OpR X (compareOp .IsNot) rIsntU := OpR.or op_notBl op_notN
theorem isE {K : Fr} : CpE K cl E rIsU (isF id) := by
  intro x y S z S' h q H vx vy Q w hx hy po
  unfold isF at h
  split at h <;> first | (cases h; done) | skip
  · cases h; obtain rfl := hx.bl_inv; obtain rfl := hy.bl_inv
    exact .inl ⟨_, _, rfl, rfl, cp_val w po (.bl _)⟩
  · cases h; obtain rfl := hx.non_inv; obtain rfl := hy.non_inv
    exact .inr ⟨rfl, cp_val w po (.bl _)⟩
  all_goals (cases h; obtain rfl := hy.non_inv; cases hx; exact .inr ⟨rfl, cp_val w po (.bl _)⟩)
theorem isntE {K : Fr} : CpE K cl E rIsntU (isF not) := by
  intro x y S z S' h q H vx vy Q w hx hy po
  unfold isF at h
  split at h <;> first | (cases h; done) | skip
  · cases h; obtain rfl := hx.bl_inv; obtain rfl := hy.bl_inv
    exact .inl ⟨_, _, rfl, rfl, cp_val w po (.bl _)⟩
  · cases h; obtain rfl := hx.non_inv; obtain rfl := hy.non_inv
    exact .inr ⟨rfl, cp_val w po (.bl _)⟩
  all_goals (cases h; obtain rfl := hy.non_inv; cases hx; exact .inr ⟨rfl, cp_val w po (.bl _)⟩)
/-! x in a sequence of flat things, a sign in a text -/
def flD : D → Option V
  | .non => some .non
  | .bl b => some (.bl b)
  | .int i => some (.int i)
  | .str s => some (.str s)
  | _ => none
def flDs : List D → Option (List V)
  | [] => some []
  | d :: ds => match flD d, flDs ds with
    | some a, some b => some (a :: b)
    | _, _ => none
theorem flD_inv {K : Fr} {q : Nat → Addr} {n : Nat} {H : Hp} {v u : V} {d : D} (h : flD d = some u) (r : Dt K q n H v d) : v = u ∧ flatV u = true := by
  cases r <;> (simp only [flD] at h; first | (cases h; exact ⟨rfl, rfl⟩) | cases h)
theorem flDs_inv {K : Fr} {q : Nat → Addr} {n : Nat} {H : Hp} : ∀ {vs us : List V} {ds : List D}, flDs ds = some us → Dts K q n H vs ds → vs = us ∧ us.all flatV = true
  | _, _, _, h, .nil => by simp only [flDs] at h; cases h; exact ⟨rfl, rfl⟩
  | _, _, _, h, .cons r rs => by
    simp only [flDs] at h
    split at h
    · rename_i a b e1 e2
      cases h
      obtain ⟨rfl, f1⟩ := flD_inv e1 r
      obtain ⟨rfl, f2⟩ := flDs_inv e2 rs
      exact ⟨rfl, by rw [List.all_cons, f1, f2]; rfl⟩
    · cases h
def inF (f : Bool → Bool) (x y : D) (S : ST) : Option (Rs D × ST) := match y with
  | .str z => match x with
    | .str c => if c.cps.size = 1 then some (.ok (.bl (f (decide (c.cps.getD 0 0 ∈ z.cps.toList)))), S) else none
    | _ => none
  | y => match sqS S y with
    | some ys => match flD x, flDs ys with
      | some a, some b => some (.ok (.bl (f (inV a b))), S)
      | _, _ => none
    | none => none
def rInU (K : Fr) (neg : Bool) : R2 := fun x y H Q => (∃ (c : Nat) (z : Str), x = .str ⟨#[c]⟩ ∧ y = .str z ∧ Q (.bl (if neg then !decide (c ∈ z.cps.toList) else decide (c ∈ z.cps.toList))) H) ∨ rIn K neg x y H Q
theorem op_inU : OpR X (compareOp .In) (rInU X.K false) := OpR.or op_in_sign op_in_seq
theorem op_notInU : OpR X (compareOp .NotIn) (rInU X.K true) := OpR.or op_notIn_sign op_notIn_seq
theorem one_sign {c : Str} (h : c.cps.size = 1) : c = ⟨#[c.cps.getD 0 0]⟩ := by
  obtain ⟨a⟩ := c
  obtain ⟨l⟩ := a
  match l, h with
  | [x], _ => rfl
theorem inE {K : Fr} {neg : Bool} : CpE K cl E (rInU K neg) (inF (fun b => if neg then !b else b)) := by
  intro x y S z S' h q H vx vy Q w hx hy po
  unfold inF at h
  split at h
  · split at h
    · split at h
      · rename_i hs
        cases h; obtain rfl := hx.str_inv; obtain rfl := hy.str_inv
        exact .inl ⟨_, _, by rw [← one_sign hs], rfl, cp_val w po (.bl _)⟩
      · cases h
    · cases h
  · split at h
    · rename_i ys e
      split at h
      · rename_i a b e1 e2
        cases h
        obtain ⟨p, vs, rfl, s, r⟩ := sqS_inv e w hy
        obtain ⟨rfl, f1⟩ := flD_inv e1 hx
        obtain ⟨rfl, f2⟩ := flDs_inv e2 r
        exact .inr ⟨p, vs, rfl, s, f1, f2, cp_val w po (.bl _)⟩
      · cases h
    · cases h
end
end U

set_option Elab.async false
set_option linter.all false
set_option maxRecDepth 100000
set_option maxHeartbeats 1000000
namespace U
open PySem L2
/-! ### displays; lists that were just made -/
def PostO (K : Fr) (cl : Cl) (q : Nat → Addr) (n : Nat) (H : Hp) (E : XK) (Q : VK) (r : Rs (List D)) (S' : ST) : Prop :=
  match r with
  | .ok ds => ∀ q' H' a vs, Gr q n H q' S'.length H' → Wd K q' S' H' → H a = none → H' a = some (.lst vs) → (∀ m, m < S'.length → q' m ≠ a) → Dts K q' S'.length H' vs ds → Q (.ref a) H'
  | .ex c fs => Post K cl q n H E (fun _ _ => False) (.ex c fs) S'
structure EO (X : Cx) (cl : Cl) (E : XK) (e : Expr) (m : AM) : Prop where
  ex : ∃ te, PE X e te ∧ ∀ g S r S', m g S = some (r, S') → ∀ q s H Q, Wd X.K q S H → Sl X.K q S.length H s g → PostO X.K cl q S.length H E Q r S' → te s H Q
def eTup (a : AM) : EM := fun g S => bd (a g S) fun xs S1 => if few xs.length = true then some (.ok (.tup xs), S1) else none
def oLst (a : AM) : AM := fun g S => bd (a g S) fun xs S1 => if few xs.length = true then some (.ok xs, S1) else none
def eFz (a : AM) : EM := fun g S => bd (a g S) fun xs S1 => some (.ok (.lst xs), S1)
def ePtr (a : AM) : EM := fun g S => bd (a g S) fun xs S1 => some (.ok (.ptr S1.length), S1 ++ [.lst xs])
section
variable {X : Cx} {cl : Cl} {E : XK} {e a b : Expr} {es : List Expr} {pos : Pos} {m ma mb : EM} {mr : AM}
theorem ee_tup {x1} (h : EA X cl E es mr) : EE X cl E (.Tuple es x1 pos) (eTup mr) := by
  obtain ⟨ta, pa, ea⟩ := h
  refine ⟨_, pe_tup pa, fun g S z S' h q s H Q w sl po => ?_⟩
  rcases bd_inv h with ⟨xs, S1, h1, h⟩ | ⟨c, fs, h1, rfl⟩
  · split at h
    · rename_i hf
      cases h
      refine ea g S _ _ h1 q s H _ w sl fun q1 H1 vs g1 w1 d1 => ⟨by rw [d1.length]; exact few_le hf, fun p hp => ?_⟩
      exact po q1 _ _ (g1.trans (Gr.new hp)) (w1.new hp) (.tup (SqT.of upd_same) (d1.mono (Gr.new hp).ge))
    · cases h
  · exact ea g S _ S' h1 q s H _ w sl (Post.ex (Q' := fun _ _ => False) po)
theorem eo_lst (h : EA X cl E es mr) : EO X cl E (.List es pos) (oLst mr) := by
  obtain ⟨ta, pa, ea⟩ := h
  refine ⟨_, pe_lst pa, fun g S z S' h q s H Q w sl po => ?_⟩
  rcases bd_inv h with ⟨xs, S1, h1, h⟩ | ⟨c, fs, h1, rfl⟩
  · split at h
    · rename_i hf
      cases h
      refine ea g S _ _ h1 q s H _ w sl fun q1 H1 vs g1 w1 d1 => ⟨by rw [d1.length]; exact few_le hf, fun p hp => ?_⟩
      exact po q1 _ p vs (g1.trans (Gr.new hp)) (w1.new hp) (g1.free hp) upd_same (fun m hm => w1.ne hp hm) (d1.mono (Gr.new hp).ge)
    · cases h
  · exact ea g S _ S' h1 q s H _ w sl po
theorem ee_fz (h : EO X cl E e mr) : EE X cl E e (eFz mr) := by
  obtain ⟨te, pe, ee⟩ := h
  refine ⟨_, pe_fz pe, fun g S z S' h q s H Q w sl po => ?_⟩
  rcases bd_inv h with ⟨xs, S1, h1, h⟩ | ⟨c, fs, h1, rfl⟩
  · cases h
    refine ee g S _ _ h1 q s H _ w sl fun q1 H1 a vs g1 w1 h0 ha hn d1 => ?_
    have hu : Shut (.lst vs) := .inl ⟨vs, rfl⟩
    refine .inr ⟨a, _, rfl, ha, hu, fun o => ?_⟩
    exact po q1 _ _ (g1.over h0) (w1.off ha trivial hn) (.lst (o := o) upd_same (d1.mono (Ge.wr ha trivial)))
  · exact ee g S _ S' h1 q s H _ w sl (Post.ex (Q' := fun _ _ => False) po)
theorem ee_ptr (h : EO X cl E e mr) : EE X cl E e (ePtr mr) := by
  obtain ⟨te, pe, ee⟩ := h
  refine ⟨_, pe, fun g S z S' h q s H Q w sl po => ?_⟩
  rcases bd_inv h with ⟨xs, S1, h1, h⟩ | ⟨c, fs, h1, rfl⟩
  · cases h
    refine ee g S _ _ h1 q s H _ w sl fun q1 H1 a vs g1 w1 h0 ha hn d1 => ?_
    have e1 : (S1 ++ [MO.lst xs]).length = S1.length + 1 := by rw [List.length_append, List.length_singleton]
    refine po (put q1 S1.length a) H1 (.ref a) ?_ (w1.adopt hn ⟨vs, ha, d1.mono .adopt⟩) ?_
    · rw [e1]; exact g1.adopt h0
    · rw [e1]
      have := Dt.ptr (K := X.K) (q := put q1 S1.length a) (n := S1.length + 1) (H := H1) (m := S1.length) (Nat.lt_succ_self _)
      rw [put_eq] at this
      exact this
  · exact ee g S _ S' h1 q s H _ w sl (Post.ex (Q' := fun _ _ => False) po)
/-! ### subscripts -/
def ixF (x y : D) (S : ST) : Option (Rs D × ST) := match y with
  | .int i => match x with
    | .str z => if few z.length = true then match atI z.cps.toList i with
        | some c => some (.ok (.str ⟨#[c]⟩), S)
        | none => none
      else none
    | x => match sqS S x with
      | some xs => match atI xs i with
        | some d => some (.ok d, S)
        | none => none
      | none => none
  | _ => none
theorem ixE {K : Fr} : OpE K cl E (rIx K) ixF := by
  intro x y S z S' h q H vx vy Q w hx hy po
  unfold ixF at h
  split at h
  · obtain rfl := hy.int_inv
    split at h
    · split at h
      · rename_i hf
        split at h
        · rename_i c e
          cases h; obtain rfl := hx.str_inv
          exact .inr (.inr ⟨_, _, c, rfl, rfl, few_le hf, e, fz_val w po (.str _)⟩)
        · cases h
      · cases h
    · split at h
      · rename_i xs e
        split at h
        · rename_i d e2
          cases h
          obtain ⟨a, vs, rfl, s, r⟩ := sqS_inv e w hx
          obtain ⟨v, e3, r3⟩ := dts_at r e2
          rcases s with s | s
          · exact .inl ⟨a, vs, _, v, rfl, rfl, s, e3, fz_val w po r3⟩
          · exact .inr (.inl ⟨a, vs, _, v, rfl, rfl, s, e3, fz_val w po r3⟩)
        · cases h
      · cases h
  · cases h
theorem ee_ix (ha : EE X cl E a ma) (hb : EE X cl E b mb) (hs : PlainIx b := by exact fun _ _ => rfl) : EE X cl E (.Subscript a b pos) (eOp ixF ma mb) := by
  obtain ⟨ta, pa, ea⟩ := ha
  obtain ⟨tb, pb, eb⟩ := hb
  refine ⟨_, pe_fz (pe_ix ix_seq pa pb hs), fun g S z S' h q s H Q w sl po => ?_⟩
  rcases bd_inv h with ⟨x, S1, h1, h⟩ | ⟨c, fs, h1, rfl⟩
  · refine ea g S _ S1 h1 q s H _ w sl fun q1 H1 vx g1 w1 d1 => ?_
    rcases bd_inv h with ⟨y, S2, h2, h⟩ | ⟨c, fs, h2, rfl⟩
    · refine eb g S1 _ S2 h2 q1 s H1 _ w1 (sl.mono g1) fun q2 H2 vy g2 w2 d2 => ?_
      exact ixE x y S2 z S' h q2 H2 vx vy Q w2 (d1.mono g2.ge) d2 (po.to (g1.trans g2))
    · exact eb g S1 _ S' h2 q1 s H1 _ w1 (sl.mono g1) (Post.ex (Q := Q) (po.to g1))
  · exact ea g S _ S' h1 q s H _ w sl (Post.ex (Q := Q) po)
/-! slices: the bounds are optional -/
abbrev OM := EV → ST → Option (Rs (Option Int) × ST)
structure EQ (X : Cx) (cl : Cl) (E : XK) (e : Option Expr) (m : OM) : Prop where
  ex : ∃ to, PO X e to ∧ ∀ g S r S', m g S = some (r, S') → ∀ q s H Q, Wd X.K q S H → Sl X.K q S.length H s g →
    (match r with
      | .ok o => ∀ q' H', Gr q S.length H q' S'.length H' → Wd X.K q' S' H' → Q o H'
      | .ex c fs => Post X.K cl q S.length H E (fun _ _ => False) (.ex c fs) S') → to s H Q
def qNone : OM := fun _ S => some (.ok none, S)
def toI (x : D) (S : ST) : Option (Rs (Option Int) × ST) := match x with
  | .int i => some (.ok (some i), S)
  | _ => none
def qSome (a : EM) : OM := fun g S => bd (a g S) toI
theorem eq_none : EQ X cl E none qNone := by
  refine ⟨_, po_none, fun g S z S' h q s H Q w sl po => ?_⟩
  cases h
  exact po q H Gr.refl w
theorem eq_some (h : EE X cl E e m) : EQ X cl E (some e) (qSome m) := by
  obtain ⟨ta, pa, ea⟩ := h
  refine ⟨_, po_some pa, fun g S z S' h q s H Q w sl po => ?_⟩
  rcases bd_inv h with ⟨x, S1, h1, h⟩ | ⟨c, fs, h1, rfl⟩
  · refine ea g S _ S1 h1 q s H _ w sl fun q1 H1 vx g1 w1 d1 => ?_
    unfold toI at h
    split at h
    · cases h
      obtain rfl := d1.int_inv
      exact ⟨_, rfl, po q1 H1 g1 w1⟩
    · cases h
  · exact ea g S _ S' h1 q s H _ w sl (Post.ex (Q := fun _ _ => False) po)
def cutF (x : D) (lo hi : Option Int) (S : ST) : Option (Rs D × ST) := match x with
  | .str z => if few z.length = true then some (.ok (.str (cutS z lo hi)), S) else none
  | .tup ds => some (.ok (.tup (cutD ds lo hi)), S)
  | x => match lsS S x with
    | some ds => some (.ok (.lst (cutD ds lo hi)), S)
    | none => none
def rCutU (K : Fr) : V → Option Int → Option Int → Hp → VK → Prop := fun x lo hi H Q => rSlS x lo hi H Q ∨ (rSlA K x lo hi H Q ∨ rSlL K x lo hi H Q)
theorem cut_all {α : Type} {xs : List α} {lo hi : Option Int} (h : HT.sIx xs.length 0 lo = 0 ∧ HT.sIx xs.length xs.length hi = xs.length) : (xs.drop (HT.sIx xs.length 0 lo)).take (HT.sIx xs.length xs.length hi - HT.sIx xs.length 0 lo) = xs := by
  rw [h.1, h.2]
  simp
theorem cutE {K : Fr} {x : D} {lo hi : Option Int} {S S' : ST} {z : Rs D} (h : cutF x lo hi S = some (z, S')) {q : Nat → Addr} {H : Hp} {vx : V} {Q : VK} (w : Wd K q S H) (hx : Dt K q S.length H vx x) (po : Post K cl q S.length H E Q z S') : rCutU K vx lo hi H (Fz Q) := by
  unfold cutF at h
  split at h
  · split at h
    · rename_i hf
      cases h; obtain rfl := hx.str_inv
      exact .inl ⟨_, rfl, few_le hf, fz_val w po (.str _)⟩
    · cases h
  · cases h
    obtain ⟨a, vs, rfl, s1, d1⟩ := hx.tup_inv
    refine .inr (.inl ⟨a, vs, rfl, s1, fun e => ?_, fun _ p hp => fz_tup w po hp (dts_cut d1)⟩)
    have l := d1.length
    rw [l] at e
    unfold cutD at po
    rw [cut_all e] at po
    exact fz_val w po hx
  · split at h
    · rename_i ds e
      cases h
      obtain ⟨a, vs, rfl, s1, d1⟩ := lsS_inv e w hx
      exact .inr (.inr ⟨a, vs, rfl, s1, fun p hp => fz_lst w po hp (dts_cut d1)⟩)
    · cases h
def eCut (a : EM) (l h : OM) : EM := fun g S => bd (a g S) fun x S1 => bd (l g S1) fun lo S2 => bd (h g S2) fun hi S3 => cutF x lo hi S3
theorem ee_cut {lo hi : Option Expr} {ml mh : OM} {p2 : Pos} (ha : EE X cl E a ma) (hl : EQ X cl E lo ml) (hh : EQ X cl E hi mh) : EE X cl E (.Subscript a (.Slice lo hi none p2) pos) (eCut ma ml mh) := by
  obtain ⟨ta, pa, ea⟩ := ha
  obtain ⟨tl, pl, el⟩ := hl
  obtain ⟨th, ph, eh⟩ := hh
  refine ⟨_, pe_fz (pe_slice (SlR.or sl_str (SlR.or sl_tupA sl_list)) pa pl ph), fun g S z S' h q s H Q w sl po => ?_⟩
  rcases bd_inv h with ⟨x, S1, h1, h⟩ | ⟨c, fs, h1, rfl⟩
  · refine ea g S _ S1 h1 q s H _ w sl fun q1 H1 vx g1 w1 d1 => ?_
    rcases bd_inv h with ⟨y, S2, h2, h⟩ | ⟨c, fs, h2, rfl⟩
    · refine el g S1 _ S2 h2 q1 s H1 _ w1 (sl.mono g1) fun q2 H2 g2 w2 => ?_
      rcases bd_inv h with ⟨y2, S3, h3, h⟩ | ⟨c, fs, h3, rfl⟩
      · refine eh g S2 _ S3 h3 q2 s H2 _ w2 (sl.mono (g1.trans g2)) fun q3 H3 g3 w3 => ?_
        exact cutE h w3 (d1.mono (g2.trans g3).ge) (po.to ((g1.trans g2).trans g3))
      · exact eh g S2 _ S' h3 q2 s H2 _ w2 (sl.mono (g1.trans g2)) (Post.ex (Q := Q) (po.to (g1.trans g2)))
    · exact el g S1 _ S' h2 q1 s H1 _ w1 (sl.mono g1) (Post.ex (Q := Q) (po.to g1))
  · exact ea g S _ S' h1 q s H _ w sl (Post.ex (Q := Q) po)
/-! ### built-ins by values -/
def lenF (xs : List D) (S : ST) : Option (Rs D × ST) := match xs with
  | [.str z] => if few z.length = true then some (.ok (.int z.length), S) else none
  | [x] => match sqS S x with
    | some ds => some (.ok (.int ds.length), S)
    | none => none
  | _ => none
def rLenU (K : Fr) : List V → Hp → VK → Prop := fun xs H Q => (∃ z, xs = [.str z] ∧ z.length ≤ sizeLine ∧ Q (.int z.length) H) ∨ (∃ p ys, xs = [.ref p] ∧ (SqL K H p ys ∨ SqT K H p ys) ∧ Q (.int ys.length) H)
theorem call_lenU : CallR X (.builtin "len") (rLenU X.K) := CallR.or call_len_str call_len_seq
theorem dts1 {K : Fr} {q : Nat → Addr} {n : Nat} {H : Hp} {vs : List V} {d : D} (h : Dts K q n H vs [d]) : ∃ v, vs = [v] ∧ Dt K q n H v d := by
  cases h with
  | cons r t => cases t; exact ⟨_, rfl, r⟩
theorem dts2 {K : Fr} {q : Nat → Addr} {n : Nat} {H : Hp} {vs : List V} {d e : D} (h : Dts K q n H vs [d, e]) : ∃ v u, vs = [v, u] ∧ Dt K q n H v d ∧ Dt K q n H u e := by
  cases h with
  | cons r t =>
    obtain ⟨u, rfl, h2⟩ := dts1 t
    exact ⟨_, _, rfl, r, h2⟩
theorem lenE {K : Fr} : CaE K cl E (rLenU K) lenF := by
  intro xs S z S' h q H vs Q w hx po
  unfold lenF at h
  split at h
  · split at h
    · rename_i hf
      cases h
      obtain ⟨v, rfl, r⟩ := dts1 hx
      obtain rfl := r.str_inv
      exact .inl ⟨_, rfl, few_le hf, fz_val w po (.int _)⟩
    · cases h
  · split at h
    · rename_i ds e
      cases h
      obtain ⟨v, rfl, r⟩ := dts1 hx
      obtain ⟨a, vs, rfl, s, d⟩ := sqS_inv e w r
      refine .inr ⟨a, vs, rfl, s, ?_⟩
      rw [d.length]
      exact fz_val w po (.int _)
    · cases h
  · cases h
def absF (xs : List D) (S : ST) : Option (Rs D × ST) := match xs with
  | [.int i] => some (.ok (.int (if i < 0 then -i else i)), S)
  | _ => none
theorem absE {K : Fr} : CaE K cl E (fun xs H Q => ∃ i, xs = [.int i] ∧ Q (.int (if i < 0 then -i else i)) H) absF := by
  intro xs S z S' h q H vs Q w hx po
  unfold absF at h
  split at h
  · cases h
    obtain ⟨v, rfl, r⟩ := dts1 hx
    obtain rfl := r.int_inv
    exact ⟨_, rfl, fz_val w po (.int _)⟩
  · cases h
def max2F (xs : List D) (S : ST) : Option (Rs D × ST) := match xs with
  | [.int i, .int j] => some (.ok (.int (if j > i then j else i)), S)
  | _ => none
def min2F (xs : List D) (S : ST) : Option (Rs D × ST) := match xs with
  | [.int i, .int j] => some (.ok (.int (if j < i then j else i)), S)
  | _ => none
theorem max2E {K : Fr} : CaE K cl E (fun xs H Q => ∃ i j, xs = [.int i, .int j] ∧ Q (.int (if j > i then j else i)) H) max2F := by
  intro xs S z S' h q H vs Q w hx po
  unfold max2F at h
  split at h
  · cases h
    obtain ⟨v, u, rfl, r, r2⟩ := dts2 hx
    obtain rfl := r.int_inv
    obtain rfl := r2.int_inv
    exact ⟨_, _, rfl, fz_val w po (.int _)⟩
  · cases h
theorem min2E {K : Fr} : CaE K cl E (fun xs H Q => ∃ i j, xs = [.int i, .int j] ∧ Q (.int (if j < i then j else i)) H) min2F := by
  intro xs S z S' h q H vs Q w hx po
  unfold min2F at h
  split at h
  · cases h
    obtain ⟨v, u, rfl, r, r2⟩ := dts2 hx
    obtain rfl := r.int_inv
    obtain rfl := r2.int_inv
    exact ⟨_, _, rfl, fz_val w po (.int _)⟩
  · cases h
def intOfF (xs : List D) (S : ST) : Option (Rs D × ST) := match xs with
  | [.int i] => some (.ok (.int i), S)
  | [.bl k] => some (.ok (.int (if k then 1 else 0)), S)
  | _ => none
theorem intOfE {K : Fr} : CaE K cl E (fun xs H Q => (∃ i, xs = [.int i] ∧ Q (.int i) H) ∨ ∃ k, xs = [.bl k] ∧ Q (.int (if k then 1 else 0)) H) intOfF := by
  intro xs S z S' h q H vs Q w hx po
  unfold intOfF at h
  split at h
  · cases h
    obtain ⟨v, rfl, r⟩ := dts1 hx
    obtain rfl := r.int_inv
    exact .inl ⟨_, rfl, fz_val w po (.int _)⟩
  · cases h
    obtain ⟨v, rfl, r⟩ := dts1 hx
    obtain rfl := r.bl_inv
    exact .inr ⟨_, rfl, fz_val w po (.int _)⟩
  · cases h
/-- all(..), any(..) of a list of truths -/
def blDs : List D → Option (List Bool)
  | [] => some []
  | d :: ds => match d, blDs ds with
    | .bl a, some b => some (a :: b)
    | _, _ => none
theorem blDs_inv {K : Fr} {q : Nat → Addr} {n : Nat} {H : Hp} : ∀ {vs : List V} {ds : List D} {bs : List Bool}, blDs ds = some bs → Dts K q n H vs ds → vs = bs.map V.bl
  | _, _, _, h, .nil => by simp only [blDs] at h; cases h; rfl
  | _, _, _, h, .cons r rs => by
    simp only [blDs] at h
    split at h
    · rename_i a b e2
      cases h
      obtain rfl := r.bl_inv
      rw [blDs_inv e2 rs]
      rfl
    · cases h
def allF (f : List Bool → Bool) (xs : List D) (S : ST) : Option (Rs D × ST) := match xs with
  | [x] => match lsS S x with
    | some ds => match blDs ds with
      | some bs => some (.ok (.bl (f bs)), S)
      | none => none
    | none => none
  | _ => none
theorem allE {K : Fr} : CaE K cl E (rAll K) (allF fun bs => bs.all id) := by
  intro xs S z S' h q H vs Q w hx po
  unfold allF at h
  split at h
  · split at h
    · rename_i ds e
      split at h
      · rename_i bs e2
        cases h
        obtain ⟨v, rfl, r⟩ := dts1 hx
        obtain ⟨a, vs, rfl, s, d⟩ := lsS_inv e w r
        rw [blDs_inv e2 d] at s
        exact ⟨a, bs, rfl, s, fz_val w po (.bl _)⟩
      · cases h
    · cases h
  · cases h
theorem anyE {K : Fr} : CaE K cl E (rAny K) (allF fun bs => bs.any id) := by
  intro xs S z S' h q H vs Q w hx po
  unfold allF at h
  split at h
  · split at h
    · rename_i ds e
      split at h
      · rename_i bs e2
        cases h
        obtain ⟨v, rfl, r⟩ := dts1 hx
        obtain ⟨a, vs, rfl, s, d⟩ := lsS_inv e w r
        rw [blDs_inv e2 d] at s
        exact ⟨a, bs, rfl, s, fz_val w po (.bl _)⟩
      · cases h
    · cases h
  · cases h
/-! tuple(x), list(x) -/
def tupOfF (xs : List D) (S : ST) : Option (Rs D × ST) := match xs with
  | [x] => match sqS S x with
    | some ds => some (.ok (.tup ds), S)
    | none => none
  | _ => none
theorem tupOfE {K : Fr} : CaE K cl E (fun xs H Q => ∃ p ys, xs = [.ref p] ∧ ((SqL K H p ys ∧ ∀ l, H l = none → Q (.ref l) (upd H l (.tup ys))) ∨ (SqT K H p ys ∧ Q (.ref p) H))) tupOfF := by
  intro xs S z S' h q H vs Q w hx po
  unfold tupOfF at h
  split at h
  · split at h
    · rename_i ds e
      cases h
      obtain ⟨v, rfl, r⟩ := dts1 hx
      obtain ⟨a, vs, rfl, s, d⟩ := sqS_inv e w r
      rcases s with s | s
      · exact ⟨a, vs, rfl, .inl ⟨s, fun l hl => fz_tup w po hl d⟩⟩
      · exact ⟨a, vs, rfl, .inr ⟨s, fz_val w po (.tup s d)⟩⟩
    · cases h
  · cases h
end
/-- a call that makes a list, by values: what EO asks -/
def CaO (K : Fr) (cl : Cl) (E : XK) (r : List V → Hp → VK → Prop) (f : List D → ST → Option (Rs (List D) × ST)) : Prop :=
  ∀ xs S z S', f xs S = some (z, S') → ∀ q H vs Q, Wd K q S H → Dts K q S.length H vs xs → PostO K cl q S.length H E Q z S' → r vs H Q
def oCall (f : List D → ST → Option (Rs (List D) × ST)) (a : AM) : AM := fun g S => bd (a g S) f
section
variable {X : Cx} {cl : Cl} {E : XK} {e a b : Expr} {es : List Expr} {pos : Pos} {m ma mb : EM} {mr : AM}
theorem PostO.to {K : Fr} {q q1 : Nat → Addr} {n n1 : Nat} {H H1 : Hp} {Q : VK} {r : Rs (List D)} {S' : ST} (g : Gr q n H q1 n1 H1) (h : PostO K cl q n H E Q r S') : PostO K cl q1 n1 H1 E Q r S' := by
  cases r with
  | ok d => exact fun q' H' a vs g' w h0 ha hn hd => h q' H' a vs (g.trans g') w (g.free h0) ha hn hd
  | ex c fs => exact Post.to (Q := fun _ _ => False) (r := .ex c fs) g h
theorem eo_callP {x : Str} {p : Pos} {r : List V → Hp → VK → Prop} {f : List D → ST → Option (Rs (List D) × ST)} (hf : CaO X.K cl E r f)
    (ha : EA X cl E es mr) (hp : ∀ ta, PA X es ta → PE X (.Call (.Name x p) es [] pos) (tCB r ta)) : EO X cl E (.Call (.Name x p) es [] pos) (oCall f mr) := by
  obtain ⟨ta, pa, ea⟩ := ha
  refine ⟨_, hp ta pa, fun g S z S' h q s H Q w sl po => ?_⟩
  rcases bd_inv h with ⟨xs, S1, h1, h⟩ | ⟨c, fs, h1, rfl⟩
  · exact ea g S _ S1 h1 q s H _ w sl fun q1 H1 vs g1 w1 d1 => hf xs S1 z S' h q1 H1 vs Q w1 d1 (po.to g1)
  · exact ea g S _ S' h1 q s H _ w sl po
def lstOfF (xs : List D) (S : ST) : Option (Rs (List D) × ST) := match xs with
  | [x] => match sqS S x with
    | some ds => some (.ok ds, S)
    | none => none
  | _ => none
theorem lstOfO {K : Fr} : CaO K cl E (fun xs H Q => ∃ p ys, xs = [.ref p] ∧ (SqL K H p ys ∨ SqT K H p ys) ∧ ∀ l, H l = none → Q (.ref l) (upd H l (.lst ys))) lstOfF := by
  intro xs S z S' h q H vs Q w hx po
  unfold lstOfF at h
  split at h
  · split at h
    · rename_i ds e
      cases h
      obtain ⟨v, rfl, r⟩ := dts1 hx
      obtain ⟨a, vs, rfl, s, d⟩ := sqS_inv e w r
      exact ⟨a, vs, rfl, s, fun l hl => po q _ l vs (Gr.new hl) (w.new hl) hl upd_same (fun m hm => w.ne hl hm) (d.mono (Gr.new hl).ge)⟩
    · cases h
  · cases h
/-- a + b, both lists, as a list that was just made -/
def oCat (a b : EM) : AM := fun g S => bd (a g S) fun x S1 => bd (b g S1) fun y S2 => match lsT S2 x, lsT S2 y with
  | some a, some b => if few (a.length + b.length) = true then some (.ok (a ++ b), S2) else none
  | _, _ => none
theorem eo_cat (ha : EE X cl E a ma) (hb : EE X cl E b mb) : EO X cl E (.BinOp a .Add b pos) (oCat ma mb) := by
  obtain ⟨ta, pa, ea⟩ := ha
  obtain ⟨tb, pb, eb⟩ := hb
  refine ⟨_, pe_op op_catF pa pb, fun g S z S' h q s H Q w sl po => ?_⟩
  rcases bd_inv h with ⟨x, S1, h1, h⟩ | ⟨c, fs, h1, rfl⟩
  · refine ea g S _ S1 h1 q s H _ w sl fun q1 H1 vx g1 w1 d1 => ?_
    rcases bd_inv h with ⟨y, S2, h2, h⟩ | ⟨c, fs, h2, rfl⟩
    · refine eb g S1 _ S2 h2 q1 s H1 _ w1 (sl.mono g1) fun q2 H2 vy g2 w2 d2 => ?_
      split at h
      · rename_i a b e1 e2
        split at h
        · rename_i hf
          cases h
          obtain ⟨a, vs, rfl, s1, r1⟩ := lsT_inv e1 w2 (d1.mono g2.ge)
          obtain ⟨b, ws, rfl, s2, r2⟩ := lsT_inv e2 w2 d2
          exact ⟨_, _, _, _, rfl, rfl, s1, s2, by rw [r1.length, r2.length]; exact few_le hf, fun p hp =>
            po q2 _ p _ ((g1.trans g2).trans (Gr.new hp)) (w2.new hp) ((g1.trans g2).free hp) upd_same (fun m hm => w2.ne hp hm) ((r1.append r2).mono (Gr.new hp).ge)⟩
        · cases h
      · cases h
    · exact eb g S1 _ S' h2 q1 s H1 _ w1 (sl.mono g1) (Post.to (Q := fun _ _ => False) (r := .ex c fs) g1 po)
  · exact ea g S _ S' h1 q s H _ w sl (Post.ex (Q := fun _ _ => False) po)
/-! ### isinstance with built-in classes -/
def stT (S : ST) (n : Nat) : Option String := match S[n]? with
  | some (.lst _) => some "list"
  | some (.dic _) => some "dict"
  | _ => none
def tyD (S : ST) : D → Option String
  | .non => some "NoneType"
  | .bl _ => some "bool"
  | .int _ => some "int"
  | .str _ => some "str"
  | .tup _ => some "tuple"
  | .lst _ => some "list"
  | .kls _ => some "list"
  | .dic _ => some "dict"
  | .ptr n => stT S n
  | .cst _ => none
def isaB (t c : String) : Bool := t == c || (t == "bool" && c == "int")
theorem tyD_inv {K : Fr} {q : Nat → Addr} {S : ST} {H : Hp} {v : V} {d : D} {t : String} (h : tyD S d = some t) (w : Wd K q S H) (r : Dt K q S.length H v d) :
    TyX K H v (.type t) ∧ (t = "NoneType" ∨ t = "bool" ∨ t = "int" ∨ t = "str" ∨ t = "tuple" ∨ t = "list" ∨ t = "dict") := by
  cases r with
  | non => cases h; exact ⟨.base .non, by simp⟩
  | bl b => cases h; exact ⟨.base (.bl b), by simp⟩
  | int b => cases h; exact ⟨.base (.int b), by simp⟩
  | str b => cases h; exact ⟨.base (.str b), by simp⟩
  | tup s _ =>
    cases h
    refine ⟨?_, by simp⟩
    rcases s with (s | ⟨o, s⟩) | ⟨o, its, n, e1, e2, _⟩
    · exact .base (.tup s)
    · exact .fTuple s
    · exact .kTuple e1 e2
  | lst s _ => cases h; exact ⟨.base (.frz s), by simp⟩
  | kls s _ =>
    cases h
    refine ⟨?_, by simp⟩
    rcases s with ⟨o, s⟩ | ⟨o, its, n, e1, e2, _⟩
    · exact .base (.frz s)
    · exact .kList e1 e2
  | dic s _ => cases h; exact ⟨.fDict s, by simp⟩
  | @ptr m hm =>
    have h' : stT S m = some t := h
    unfold stT at h'
    split at h'
    · rename_i e
      cases h'
      obtain ⟨vs, e1, _⟩ := w.ob m _ e
      exact ⟨.base (.lst e1), by simp⟩
    · rename_i e
      cases h'
      obtain ⟨vs, e1, _⟩ := w.ob m _ e
      exact ⟨.base (.dK e1), by simp⟩
    · cases h'
  | cst => cases h
/-- the classes that are asked for here -/
def asked (c : String) : Bool := c == "int" || c == "bool" || c == "str" || c == "tuple" || c == "list" || c == "dict"
theorem kit_isa {K : Fr} {t c : String} (ht : t = "NoneType" ∨ t = "bool" ∨ t = "int" ∨ t = "str" ∨ t = "tuple" ∨ t = "list" ∨ t = "dict") (hc : asked c = true) : PySem.W.kitOne K (.type t) (.type c) = some (isaB t c) := by
  simp only [asked, Bool.or_eq_true, beq_iff_eq] at hc
  refine kit_ty ?_
  rcases ht with rfl | rfl | rfl | rfl | rfl | rfl | rfl <;> rcases hc with ((((rfl | rfl) | rfl) | rfl) | rfl) | rfl <;> decide +kernel
def isiF (cs : List String) (x : D) (S : ST) : Option (Rs D × ST) := match tyD S x with
  | some t => some (.ok (.bl (cs.any (isaB t))), S)
  | none => none
theorem kit_any {K : Fr} {t : String} (ht : t = "NoneType" ∨ t = "bool" ∨ t = "int" ∨ t = "str" ∨ t = "tuple" ∨ t = "list" ∨ t = "dict") : ∀ {cs : List String}, cs.all asked = true → PySem.W.kitAny K (.type t) (cs.map Value.type) = some (cs.any (isaB t))
  | [], _ => kitAny_nil
  | c :: cs, h => by
    rw [List.all_cons, Bool.and_eq_true] at h
    refine kitAny_cons (kit_isa ht h.1) (fun e => ?_) fun e => ?_
    · rw [List.any_cons, e, Bool.false_or]; exact kit_any ht h.2
    · rw [List.any_cons, e]; rfl
theorem ee_isi {p p1 : Pos} {c : Str} {cs : String} (ha : EE X cl E a ma) (hg : Gl X "isinstance") (hm : X.mg "isinstance" = none) (hv : bootBuiltins "isinstance" = some (.builtin "isinstance")) (gc : Gl X c) (mc : X.mg c = none) (vc : bootBuiltins c = some (.type cs))
    (hc : asked cs = true) (hn : c ≠ "__name__") (hd : (c == ("__debug__" : Str)) = false)
    (hst : starEach [a, .Name c p1] X.env = (false, eval a X.env) :: starEach [.Name c p1] X.env := by rfl) (hpl : (backTo pos (starEach [.Name c p1] X.env)).any (·.1) = false := by rfl) (hs2 : starEach [.Name c p1] X.env = (false, eval (.Name c p1) X.env) :: starEach [] X.env := by rfl) :
    EE X cl E (.Call (.Name "isinstance" p) [a, .Name c p1] [] pos) (eUn (isiF [cs]) ma) := by
  obtain ⟨ta, pa, ea⟩ := ha
  refine ⟨_, pe_callB call_isi hg hm hv (pa_cons pa (pa_cons (pe_bltn (v := .ty cs) gc mc vc rfl hn hd) pa_nil hs2) hst) (by decide) (by decide) hst hpl, fun g S z S' h q s H Q w sl po => ?_⟩
  rcases bd_inv h with ⟨x, S1, h1, h⟩ | ⟨c, fs, h1, rfl⟩
  · refine ea g S _ S1 h1 q s H _ w sl fun q1 H1 vx g1 w1 d1 => ?_
    unfold isiF at h
    split at h
    · rename_i t e
      cases h
      obtain ⟨ty, ht⟩ := tyD_inv e w1 d1
      refine ⟨vx, .ty cs, .type t, .type cs, _, rfl, .ty cs, ty, kit_isa ht hc, po q1 H1 _ g1 w1 ?_⟩
      rw [List.any_cons, List.any_nil, Bool.or_false]
      exact .bl _
    · cases h
  · exact ea g S _ S' h1 q s H _ w sl (Post.ex (Q := Q) po)
theorem ee_isi2 {p p1 p2 p3 : Pos} {k3} {c d : Str} {cs ds : String} (ha : EE X cl E a ma) (hg : Gl X "isinstance") (hm : X.mg "isinstance" = none) (hv : bootBuiltins "isinstance" = some (.builtin "isinstance"))
    (gc : Gl X c) (mc : X.mg c = none) (vc : bootBuiltins c = some (.type cs)) (hc : asked cs = true) (hn : c ≠ "__name__") (hd : (c == ("__debug__" : Str)) = false)
    (gd : Gl X d) (md : X.mg d = none) (vd : bootBuiltins d = some (.type ds)) (hc2 : asked ds = true) (hn2 : d ≠ "__name__") (hd2 : (d == ("__debug__" : Str)) = false)
    (hst : starEach [a, .Tuple [.Name c p1, .Name d p2] k3 p3] X.env = (false, eval a X.env) :: starEach [.Tuple [.Name c p1, .Name d p2] k3 p3] X.env := by rfl) (hpl : (backTo pos (starEach [.Tuple [.Name c p1, .Name d p2] k3 p3] X.env)).any (·.1) = false := by rfl)
    (hs2 : starEach [.Tuple [.Name c p1, .Name d p2] k3 p3] X.env = (false, eval (.Tuple [.Name c p1, .Name d p2] k3 p3) X.env) :: starEach [] X.env := by rfl)
    (hs3 : starEach [.Name c p1, .Name d p2] X.env = (false, eval (.Name c p1) X.env) :: starEach [.Name d p2] X.env := by rfl) (hs4 : starEach [.Name d p2] X.env = (false, eval (.Name d p2) X.env) :: starEach [] X.env := by rfl) :
    EE X cl E (.Call (.Name "isinstance" p) [a, .Tuple [.Name c p1, .Name d p2] k3 p3] [] pos) (eUn (isiF [cs, ds]) ma) := by
  obtain ⟨ta, pa, ea⟩ := ha
  refine ⟨_, pe_callB call_isiT hg hm hv (pa_cons pa (pa_cons (pe_tup (pa_cons (pe_bltn (v := .ty cs) gc mc vc rfl hn hd) (pa_cons (pe_bltn (v := .ty ds) gd md vd rfl hn2 hd2) pa_nil hs4) hs3)) pa_nil hs2) hst) (by decide) (by decide) hst hpl, fun g S z S' h q s H Q w sl po => ?_⟩
  rcases bd_inv h with ⟨x, S1, h1, h⟩ | ⟨c, fs, h1, rfl⟩
  · refine ea g S _ S1 h1 q s H _ w sl fun q1 H1 vx g1 w1 d1 => ?_
    unfold isiF at h
    split at h
    · rename_i t e
      cases h
      refine ⟨by show 2 ≤ sizeLine; decide, fun p hp => ?_⟩
      obtain ⟨ty, ht⟩ := tyD_inv e (w1.new (o := .tup [.ty cs, .ty ds]) hp) (d1.mono (Gr.new hp).ge)
      refine ⟨vx, p, [.ty cs, .ty ds], .type t, [.type cs, .type ds], _, rfl, upd_same, .cons (.ty cs) (.cons (.ty ds) .nil), ty, kit_any ht (cs := [cs, ds]) (by rw [List.all_cons, List.all_cons, hc, hc2]; rfl), ?_⟩
      exact po q1 _ _ (g1.trans (Gr.new hp)) (w1.new hp) (.bl _)
    · cases h
  · exact ea g S _ S' h1 q s H _ w sl (Post.ex (Q := Q) po)
end
end U

set_option Elab.async false
set_option linter.all false
set_option maxRecDepth 100000
set_option maxHeartbeats 1000000
namespace U
open PySem L2
/-! ### the readings that hang on the mirror alone -/
def rdE (K : Fr) (cl : Cl) (E : XK) (m : EM) : TE := fun s H Q => ∃ g S r S' q, m g S = some (r, S') ∧ Wd K q S H ∧ Sl K q S.length H s g ∧ Post K cl q S.length H E Q r S'
def rdT (K : Fr) (cl : Cl) (E : XK) (m : BM) : TT := fun s H Q => ∃ g S r S' q, m g S = some (r, S') ∧ Wd K q S H ∧ Sl K q S.length H s g ∧ PostB K cl q S.length H E Q r S'
section
variable {X : Cx} {cl : Cl} {E : XK} {e a b : Expr} {es : List Expr} {pos : Pos} {m ma mb : EM} {mr : AM} {t : BM}
theorem EE.pe (h : EE X cl E e m) : PE X e (rdE X.K cl E m) := by
  obtain ⟨te, pe, ee⟩ := h
  exact ⟨fun pins s σ H Q I ⟨g, S, r, S', q, h, w, sl, po⟩ => pe.run pins s σ H Q I (ee g S r S' h q σ H Q w sl po)⟩
theorem ET.pt (h : ET X cl E e t) : PT X e (rdT X.K cl E t) := by
  obtain ⟨te, pe, ee⟩ := h
  exact ⟨fun pins s σ H Q I ⟨g, S, r, S', q, h, w, sl, po⟩ => pe.run pins s σ H Q I (ee g S r S' h q σ H Q w sl po)⟩
/-! ### methods of lists and texts, by values -/
def MtE (K : Fr) (cl : Cl) (E : XK) (r : V → List V → Hp → VK → Prop) (f : D → List D → ST → Option (Rs D × ST)) : Prop :=
  ∀ x xs S z S', f x xs S = some (z, S') → ∀ q H v vs Q, Wd K q S H → Dt K q S.length H v x → Dts K q S.length H vs xs → Post K cl q S.length H E Q z S' → r v vs H (Fz Q)
/-- the receiver's class, as far as methods ask it -/
def rcv (T : String) (S : ST) (d : D) : Bool := match d with
  | .str _ => T == "str"
  | d => T == "list" && (lsS S d).isSome
def eMt (T : String) (f : D → List D → ST → Option (Rs D × ST)) (a : EM) (r : AM) : EM := fun g S => bd (a g S) fun x S1 => if rcv T S1 x = true then bd (r g S1) fun xs S2 => f x xs S2 else none
theorem rcv_ty {K : Fr} {q : Nat → Addr} {S : ST} {H : Hp} {v : V} {d : D} {T : String} (h : rcv T S d = true) (w : Wd K q S H) (r : Dt K q S.length H v d) : tyV K T v H := by
  unfold rcv at h
  split at h
  · obtain rfl := r.str_inv
    exact beq_iff_eq.mp h
  · rw [Bool.and_eq_true] at h
    obtain ⟨h1, h2⟩ := h
    obtain ⟨ds, e⟩ := Option.isSome_iff_exists.mp h2
    obtain ⟨a, vs, rfl, s, _⟩ := lsS_inv e w r
    exact .inl ⟨beq_iff_eq.mp h1, vs, s⟩
theorem ee_mt {T id : String} {name : Str} {r : V → List V → Hp → VK → Prop} {f : D → List D → ST → Option (Rs D × ST)} (hf : MtE X.K cl E r f) (ha : EE X cl E a ma) (hr : EA X cl E es mr)
    {apos : Pos} (hp : ∀ ta tr, PE X a ta → PA X es tr → PE X (.Call (.Attribute a name apos) es [] pos) (tBM X.K T r ta tr)) : EE X cl E (.Call (.Attribute a name apos) es [] pos) (eMt T f ma mr) := by
  obtain ⟨ta, pa, ea⟩ := ha
  obtain ⟨tr, pr, er⟩ := hr
  refine ⟨_, pe_fz (hp ta tr pa pr), fun g S z S' h q s H Q w sl po => ?_⟩
  rcases bd_inv h with ⟨x, S1, h1, h⟩ | ⟨c, fs, h1, rfl⟩
  · refine ea g S _ S1 h1 q s H _ w sl fun q1 H1 vx g1 w1 d1 => ?_
    split at h
    · rename_i hty
      refine ⟨rcv_ty hty w1 d1, ?_⟩
      rcases bd_inv h with ⟨xs, S2, h2, h⟩ | ⟨c, fs, h2, rfl⟩
      · refine er g S1 _ S2 h2 q1 s H1 _ w1 (sl.mono g1) fun q2 H2 vy g2 w2 d2 => ?_
        exact hf x xs S2 z S' h q2 H2 vx vy Q w2 (d1.mono g2.ge) d2 (po.to (g1.trans g2))
      · exact er g S1 _ S' h2 q1 s H1 _ w1 (sl.mono g1) (Post.ex (Q := Q) (Q' := fun _ _ => False) (po.to g1))
    · cases h
  · exact ea g S _ S' h1 q s H _ w sl (Post.ex (Q := Q) po)
def appF (x : D) (xs : List D) (S : ST) : Option (Rs D × ST) := match x, xs with
  | .ptr n, [d] => match stL S n with
    | some ds => if few (ds.length + 1) = true then some (.ok .non, S.set n (.lst (ds ++ [d]))) else none
    | none => none
  | _, _ => none
theorem Dt.ptr_inv {K : Fr} {q : Nat → Addr} {n m : Nat} {H : Hp} {v : V} (h : Dt K q n H v (.ptr m)) : v = .ref (q m) ∧ m < n := by
  cases h with
  | ptr hm => exact ⟨rfl, hm⟩
/-- a place of the store is written, as a Post sees it -/
theorem post_wr {K : Fr} {q : Nat → Addr} {S : ST} {H : Hp} {Q : VK} {m : Nat} {o u : HO} {x : MO} {d : D} {v : V} (w : Wd K q S H) (hm : m < S.length) (ha : H (q m) = some u) (hu : Mut (some u)) (hx : MOk K q S.length (upd H (q m) o) (q m) x)
    (hd : Dt K q S.length (upd H (q m) o) v d) (po : Post K cl q S.length H E Q (.ok d) (S.set m x)) : Q v (upd H (q m) o) := by
  have e : (S.set m x).length = S.length := List.length_set
  refine po q _ v ?_ (w.wr hm ha hu hx) ?_
  · rw [e]; exact Gr.wr hm ha hu
  · rw [e]; exact hd
theorem appE {K : Fr} : MtE K cl E rAppend appF := by
  intro x xs S z S' h q H v vs Q w hx hy po
  unfold appF at h
  split at h
  · split at h
    · rename_i ds e
      split at h
      · rename_i hf
        cases h
        obtain ⟨rfl, hm⟩ := hx.ptr_inv
        obtain ⟨u, rfl, r⟩ := dts1 hy
        obtain ⟨ws, e1, r1⟩ := w.ob _ _ (stL_some e)
        refine ⟨_, ws, u, rfl, rfl, e1, ?_, .inl (post_wr (x := .lst _) w hm e1 trivial ⟨_, upd_same, (r1.append (.cons r .nil)).mono (Ge.wr e1 trivial)⟩ .non po)⟩
        rw [r1.length]
        exact Nat.lt_of_lt_of_le (Nat.lt_succ_self _) (few_le hf)
      · cases h
    · cases h
  · cases h
theorem ee_append {apos : Pos} (ha : EE X cl E a ma) (hr : EA X cl E [e] mr) (hbase : attributeBase a "append" X.env (eval a X.env) = eval a X.env := by rfl)
    (hfew : ((backTo pos (starEach [e] X.env)).all (fun x => !x.1) && (backToKw pos (keywordEach [] X.env)).all (fun x => x.1.isSome) && decide ([e].length + ([] : List Keyword).length + (if ([] : List Keyword).isEmpty then 0 else 1) < 30)) = true := by rfl)
    (hline : (apos.endLine == pos.line) = true := by rfl) (hs : starEach [e] X.env = (false, eval e X.env) :: starEach [] X.env := by rfl) : EE X cl E (.Call (.Attribute a "append" apos) [e] [] pos) (eMt "list" appF ma mr) :=
  ee_mt (T := "list") (id := "list.append") appE ha hr fun ta tr pa pr => pe_bm PySem.F.plainAttrs_list PySem.F.slot_list_append PySem.F.type_list_append mt_append pa pr hbase hfew hline hs
end
/-! ### statements -/
inductive Out where
  | nx (g : EV) | bk (g : EV) | ct (g : EV) | rt (d : D) | ex (c : Str) (fs : List (Str × D))
abbrev SM := EV → ST → Option (Out × ST)
def SPost (K : Fr) (cl : Cl) (q : Nat → Addr) (n : Nat) (H : Hp) (E : XK) (D : Ends) (o : Out) (S' : ST) : Prop :=
  match o with
  | .nx g => ∀ q' H' s', Gr q n H q' S'.length H' → Wd K q' S' H' → Sl K q' S'.length H' s' g → D.nx s' H'
  | .bk g => ∀ q' H' s', Gr q n H q' S'.length H' → Wd K q' S' H' → Sl K q' S'.length H' s' g → D.bk s' H'
  | .ct g => ∀ q' H' s', Gr q n H q' S'.length H' → Wd K q' S' H' → Sl K q' S'.length H' s' g → D.ct s' H'
  | .rt d => ∀ q' H' v, Gr q n H q' S'.length H' → Wd K q' S' H' → Dt K q' S'.length H' v d → D.rt v H'
  | .ex c fs => Post K cl q n H E (fun _ _ => False) (.ex c fs) S'
theorem SPost.to {K : Fr} {cl : Cl} {q q1 : Nat → Addr} {n n1 : Nat} {H H1 : Hp} {E : XK} {D : Ends} {o : Out} {S' : ST} (g : Gr q n H q1 n1 H1) (h : SPost K cl q n H E D o S') : SPost K cl q1 n1 H1 E D o S' := by
  cases o with
  | nx _ => exact fun q' H' s' g' w sl => h q' H' s' (g.trans g') w sl
  | bk _ => exact fun q' H' s' g' w sl => h q' H' s' (g.trans g') w sl
  | ct _ => exact fun q' H' s' g' w sl => h q' H' s' (g.trans g') w sl
  | rt d => exact fun q' H' v g' w hd => h q' H' v (g.trans g') w hd
  | ex c fs => exact Post.to (Q := fun _ _ => False) (r := .ex c fs) g h
structure ES (X : Cx) (cl : Cl) (E : XK) (st : Stmt) (m : SM) : Prop where
  ex : ∃ ts, PS X st ts ∧ ∀ g S o S', m g S = some (o, S') → ∀ q s H D, Wd X.K q S H → Sl X.K q S.length H s g → SPost X.K cl q S.length H E D o S' → ts D s H
structure ESs (X : Cx) (cl : Cl) (E : XK) (st : List Stmt) (m : SM) : Prop where
  ex : ∃ ts, PSs X st ts ∧ ∀ g S o S', m g S = some (o, S') → ∀ q s H D, Wd X.K q S H → Sl X.K q S.length H s g → SPost X.K cl q S.length H E D o S' → ts D s H
/-- an expression's answer, then a statement's -/
def bs {α : Type} (x : Option (Rs α × ST)) (f : α → ST → Option (Out × ST)) : Option (Out × ST) :=
  match x with
  | some (.ok a, S) => f a S
  | some (.ex c fs, S) => some (.ex c fs, S)
  | none => none
@[simp] theorem bs_ok {α : Type} {a : α} {S : ST} {f : α → ST → Option (Out × ST)} : bs (some (.ok a, S)) f = f a S := rfl
@[simp] theorem bs_ex {α : Type} {c : Str} {fs : List (Str × D)} {S : ST} {f : α → ST → Option (Out × ST)} : bs (some (.ex c fs, S)) f = some (.ex c fs, S) := rfl
@[simp] theorem bs_none {α : Type} {f : α → ST → Option (Out × ST)} : bs none f = none := rfl
theorem bs_inv {α : Type} {x : Option (Rs α × ST)} {f : α → ST → Option (Out × ST)} {r : Out} {S' : ST} (h : bs x f = some (r, S')) :
    (∃ a S1, x = some (.ok a, S1) ∧ f a S1 = some (r, S')) ∨ ∃ c fs, x = some (.ex c fs, S') ∧ r = .ex c fs := by
  cases x with
  | none => cases h
  | some p =>
    obtain ⟨z, S1⟩ := p
    cases z with
    | ok a => exact .inl ⟨a, S1, rfl, h⟩
    | ex c fs => cases h; exact .inr ⟨c, fs, rfl, rfl⟩
def sSkip : SM := fun g S => some (.nx g, S)
def sSeq (a b : SM) : SM := fun g S => match a g S with
  | some (.nx g1, S1) => b g1 S1
  | r => r
def sRet (a : EM) : SM := fun g S => bs (a g S) fun d S1 => some (.rt d, S1)
def sRetN : SM := fun _ S => some (.rt .non, S)
def sDrop (a : EM) : SM := fun g S => bs (a g S) fun _ S1 => some (.nx g, S1)
def sIf (t : BM) (a b : SM) : SM := fun g S => bs (t g S) fun c S1 => if c = true then a g S1 else b g S1
def sBrk : SM := fun g S => some (.bk g, S)
def sCnt : SM := fun g S => some (.ct g, S)
def sNo : SM := fun _ _ => none
/-- targets -/
abbrev GM := D → EV → ST → Option (EV × ST)
def sAsg (a : EM) (t : GM) : SM := fun g S => bs (a g S) fun d S1 => match t d g S1 with
  | some (g2, S2) => some (.nx g2, S2)
  | none => none
/-- the slots at ix alone may be others -/
def But (ix : List Nat) (s s' : L2.St) : Prop := s'.length = s.length ∧ ∀ j, j ∉ ix → s'[j]? = s[j]?
structure EG (X : Cx) (tg : Expr) (ix : List Nat) (f : GM) : Prop where
  ex : ∃ tt, PG X tg tt ∧ ∀ d g S g' S', f d g S = some (g', S') → ∀ q s H v Q, Wd X.K q S H → Sl X.K q S.length H s g → Dt X.K q S.length H v d →
    (∀ q' H' s', Gr q S.length H q' S'.length H' → Wd X.K q' S' H' → Sl X.K q' S'.length H' s' g' → But ix s s' → Q s' H') → tt v s H Q
def rdG (K : Fr) (ix : List Nat) (f : GM) : TG := fun v s H Q => ∃ d g S g' S' q, f d g S = some (g', S') ∧ Wd K q S H ∧ Sl K q S.length H s g ∧ Dt K q S.length H v d ∧
  ∀ q' H' s', Gr q S.length H q' S'.length H' → Wd K q' S' H' → Sl K q' S'.length H' s' g' → But ix s s' → Q s' H'
theorem EG.pg {X : Cx} {tg : Expr} {ix : List Nat} {f : GM} (h : EG X tg ix f) : PG X tg (rdG X.K ix f) := by
  obtain ⟨tt, pg, eg⟩ := h
  exact ⟨fun pins s σ H v u Q I r ⟨d, g, S, g', S', q, h, w, sl, hd, k⟩ => pg.run pins s σ H v u Q I r (eg d g S g' S' h q σ H v Q w sl hd k)⟩
def gVar (i : Nat) : GM := fun d g S => some (g.set i (some d), S)
section
variable {X : Cx} {cl : Cl} {E : XK} {e a b c : Expr} {es : List Expr} {pos : Pos} {m ma mb : EM} {mr : AM} {t : BM} {st : Stmt} {sts sts2 : List Stmt} {ms mt : SM}
theorem ss_nil : ESs X cl E [] sSkip := by
  refine ⟨_, pss_nil, fun g S o S' h q s H D w sl po => ?_⟩
  cases h
  exact po q H s Gr.refl w sl
theorem ss_cons (h1 : ES X cl E st ms) (h2 : ESs X cl E sts mt) : ESs X cl E (st :: sts) (sSeq ms mt) := by
  obtain ⟨t1, p1, e1⟩ := h1
  obtain ⟨t2, p2, e2⟩ := h2
  refine ⟨_, pss_cons p1 p2, fun g S o S' h q s H D w sl po => ?_⟩
  unfold sSeq at h
  split at h
  · rename_i g1 S1 h1
    exact e1 g S _ S1 h1 q s H _ w sl fun q1 H1 s1 g1' w1 sl1 => e2 _ S1 o S' h q1 s1 H1 D w1 sl1 (po.to g1')
  · rename_i hn
    refine e1 g S o S' h q s H _ w sl ?_
    cases o with
    | nx g1 => exact absurd h (hn g1 S')
    | bk _ => exact po
    | ct _ => exact po
    | rt _ => exact po
    | ex _ _ => exact po
theorem ss_one (h1 : ES X cl E st ms) : ESs X cl E [st] ms := by
  obtain ⟨t1, p1, e1⟩ := h1
  exact ⟨_, pss_one p1, e1⟩
theorem st_ret (h : EE X cl E e m) : ES X cl E (.Return (some e) pos) (sRet m) := by
  obtain ⟨ta, pa, ea⟩ := h
  refine ⟨_, ps_ret pa, fun g S o S' h q s H D w sl po => ?_⟩
  rcases bs_inv h with ⟨x, S1, h1, h⟩ | ⟨c, fs, h1, rfl⟩
  · cases h
    exact ea g S _ _ h1 q s H _ w sl fun q1 H1 v g1 w1 d1 => po q1 H1 v g1 w1 d1
  · exact ea g S _ S' h1 q s H _ w sl (Post.ex (Q := fun _ _ => False) po)
theorem st_retN : ES X cl E (.Return none pos) sRetN := by
  refine ⟨_, ps_retN, fun g S o S' h q s H D w sl po => ?_⟩
  cases h
  exact po q H .non Gr.refl w .non
theorem st_pass : ES X cl E (.Pass pos) sSkip := by
  refine ⟨_, ps_pass, fun g S o S' h q s H D w sl po => ?_⟩
  cases h
  exact po q H s Gr.refl w sl
theorem st_brk : ES X cl E (.Break pos) sBrk := by
  refine ⟨_, ps_break, fun g S o S' h q s H D w sl po => ?_⟩
  cases h
  exact po q H s Gr.refl w sl
theorem st_cnt : ES X cl E (.Continue pos) sCnt := by
  refine ⟨_, ps_continue, fun g S o S' h q s H D w sl po => ?_⟩
  cases h
  exact po q H s Gr.refl w sl
/-- code that the mirror never comes to -/
theorem st_no : ES X cl E st sNo := ⟨_, ps_never, fun _ _ _ _ h => nomatch h⟩
theorem st_drop (h : EE X cl E e m) (hs : swapsWith e none pos.line X.env = pure false := by rfl) : ES X cl E (.Expr e pos) (sDrop m) := by
  obtain ⟨ta, pa, ea⟩ := h
  refine ⟨_, ps_expr pa hs, fun g S o S' h q s H D w sl po => ?_⟩
  rcases bs_inv h with ⟨x, S1, h1, h⟩ | ⟨c, fs, h1, rfl⟩
  · cases h
    exact ea g S _ _ h1 q s H _ w sl fun q1 H1 v g1 w1 d1 => po q1 H1 s g1 w1 (sl.mono g1)
  · exact ea g S _ S' h1 q s H _ w sl (Post.ex (Q := fun _ _ => False) po)
theorem st_if (ht : ET X cl E c t) (ha : ESs X cl E sts ms) (hb : ESs X cl E sts2 mt) : ES X cl E (.If c sts sts2 pos) (sIf t ms mt) := by
  obtain ⟨tt, pt, et⟩ := ht
  obtain ⟨ta, pa, ea⟩ := ha
  obtain ⟨tb, pb, eb⟩ := hb
  refine ⟨_, ps_if pt pa pb, fun g S o S' h q s H D w sl po => ?_⟩
  rcases bs_inv h with ⟨k, S1, h1, h⟩ | ⟨c, fs, h1, rfl⟩
  · refine et g S _ S1 h1 q s H _ w sl fun q1 H1 g1 w1 => ?_
    cases k with
    | true => exact ea g S1 o S' h q1 s H1 D w1 (sl.mono g1) (po.to g1)
    | false => exact eb g S1 o S' h q1 s H1 D w1 (sl.mono g1) (po.to g1)
  · exact et g S _ S' h1 q s H _ w sl po
/-! names as targets -/
theorem eg_var (i : Nat) {x : Str} (hN : X.N.Nodup) (hi : X.N[i]? = some x := by rfl) (hx : Loc X.env.scope x := by first | exact Or.inl rfl | exact Or.inr rfl) (hf : X.fn x = true ∨ X.env.scope.names.lookup x = some .local := by first | exact .inl rfl | exact .inr rfl) : EG X (.Name x pos) [i] (gVar i) := by
  refine ⟨_, pg_name (i := i) hN hi hx hf, fun d g S g' S' h q s H v Q w sl hd k => ?_⟩
  cases h
  refine k q H _ Gr.refl w (sl.set i hd) ⟨by simp, fun j hj => ?_⟩
  rw [List.getElem?_set_ne (fun e => hj (by simp [e]))]
theorem st_set (i : Nat) {x : Str} {pos' : Pos} (hN : X.N.Nodup) (h : EE X cl E e m) (hi : X.N[i]? = some x := by rfl) (hx : Loc X.env.scope x := by first | exact Or.inl rfl | exact Or.inr rfl) (hs : swapsWith e (some (.Name x pos')) pos.line X.env = pure false := by rfl)
    (hf : X.fn x = true ∨ X.env.scope.names.lookup x = some .local := by first | exact .inl rfl | exact .inr rfl) : ES X cl E (.Assign [.Name x pos'] e pos) (sAsg m (gVar i)) := by
  obtain ⟨ta, pa, ea⟩ := h
  refine ⟨_, ps_set (i := i) hN hi hx pa hs hf, fun g S o S' h q s H D w sl po => ?_⟩
  rcases bs_inv h with ⟨x, S1, h1, h⟩ | ⟨c, fs, h1, rfl⟩
  · cases h
    exact ea g S _ _ h1 q s H _ w sl fun q1 H1 v g1 w1 d1 => po q1 H1 _ g1 w1 ((sl.mono g1).set i d1)
  · exact ea g S _ S' h1 q s H _ w sl (Post.ex (Q := fun _ _ => False) po)
theorem st_asg {tg : Expr} {ix : List Nat} {f : GM} (h : EE X cl E e m) (hg : EG X tg ix f) (hs : swapsWithSole [tg] e pos.line X.env = pure false := by rfl) (hw : swappedStores [tg] e X.env = pure none := by rfl) (h1 : (assignEach [tg] X.env).map (·.2) = [assign tg X.env] := by rfl) :
    ES X cl E (.Assign [tg] e pos) (sAsg m f) := by
  obtain ⟨ta, pa, ea⟩ := h
  obtain ⟨tg', pg, eg⟩ := hg
  refine ⟨_, ps_asg pa pg hs hw h1, fun g S o S' h q s H D w sl po => ?_⟩
  rcases bs_inv h with ⟨x, S1, h1, h⟩ | ⟨c, fs, h1, rfl⟩
  · refine ea g S _ _ h1 q s H _ w sl fun q1 H1 v g1 w1 d1 => ?_
    split at h
    · rename_i g2 S2 h2
      cases h
      exact eg x g S1 g2 _ h2 q1 s H1 v _ w1 (sl.mono g1) d1 fun q2 H2 s2 gr w2 sl2 _ => po q2 H2 s2 (g1.trans gr) w2 sl2
    · cases h
  · exact ea g S _ S' h1 q s H _ w sl (Post.ex (Q := fun _ _ => False) po)
/-- a, b = x, y with plain local names -/
def sPar (i j : Nat) (a b : EM) : SM := fun g S => bs (a g S) fun x S1 => bs (b g S1) fun y S2 => some (.nx ((g.set i (some x)).set j (some y)), S2)
theorem st_par (i j : Nat) {x y : Str} {px py pt pt2 : Pos} {kt k2} (hc : X.calm = true) (hN : X.N.Nodup) (ha : EE X cl E a ma) (hb : EE X cl E b mb) (hij : i ≠ j := by decide) (hi : X.N[i]? = some x := by rfl) (hj : X.N[j]? = some y := by rfl)
    (hx : X.env.scope.names.lookup x = some .local := by rfl) (hy : X.env.scope.names.lookup y = some .local := by rfl)
    (hw : swappedStores [.Tuple [.Name x px, .Name y py] kt pt] (.Tuple [a, b] k2 pt2) X.env = pure (some [x, y]) := by rfl) (hs : swapsWithSole [.Tuple [.Name x px, .Name y py] kt pt] (.Tuple [a, b] k2 pt2) pos.line X.env = pure false := by rfl)
    (hs1 : starEach [a, b] X.env = (false, eval a X.env) :: starEach [b] X.env := by rfl) (hs2 : starEach [b] X.env = (false, eval b X.env) :: starEach [] X.env := by rfl) :
    ES X cl E (.Assign [.Tuple [.Name x px, .Name y py] kt pt] (.Tuple [a, b] k2 pt2) pos) (sPar i j ma mb) := by
  obtain ⟨ta, pa, ea⟩ := ha
  obtain ⟨tb, pb, eb⟩ := hb
  refine ⟨_, ps_par hc hN hi hj hij hx hy (pa_cons pa (pa_cons pb pa_nil hs2) hs1) hw hs, fun g S o S' h q s H D w sl po => ?_⟩
  rcases bs_inv h with ⟨x, S1, h1, h⟩ | ⟨c, fs, h1, rfl⟩
  · refine ea g S _ _ h1 q s H _ w sl fun q1 H1 v g1 w1 d1 => ?_
    rcases bs_inv h with ⟨y, S2, h2, h⟩ | ⟨c, fs, h2, rfl⟩
    · cases h
      refine eb g S1 _ _ h2 q1 s H1 _ w1 (sl.mono g1) fun q2 H2 u g2 w2 d2 => ?_
      exact ⟨v, u, rfl, po q2 H2 _ (g1.trans g2) w2 (((sl.mono (g1.trans g2)).set i (d1.mono g2.ge)).set j d2)⟩
    · exact eb g S1 _ S' h2 q1 s H1 _ w1 (sl.mono g1) (Post.to (Q := fun _ _ => False) (r := .ex c fs) g1 po)
  · exact ea g S _ S' h1 q s H _ w sl (Post.ex (Q := fun _ _ => False) po)
end
end U

set_option Elab.async false
set_option linter.all false
set_option maxRecDepth 100000
set_option maxHeartbeats 1000000
namespace U
open PySem L2
/-! ### what is walked -/
/-- J walks the things ds, whatever goes on -/
def Wk (K : Fr) (q : Nat → Addr) (n : Nat) (H : Hp) (J : It) (ds : List D) : Prop :=
  ∀ q2 n2 H2, Gr q n H q2 n2 H2 → ∀ i, (∀ d, ds[i]? = some d → J.go i H2 ∧ ∀ x H3, J.yld i H2 x H3 → Gr q2 n2 H2 q2 n2 H3 ∧ (∀ S, S.length = n2 → Wd K q2 S H2 → Wd K q2 S H3) ∧ Dt K q2 n2 H3 x d) ∧ (i = ds.length → J.stop i H2)
def PostI (K : Fr) (cl : Cl) (q : Nat → Addr) (n : Nat) (H : Hp) (E : XK) (R : It → Hp → Prop) (r : Rs (List D)) (S' : ST) : Prop :=
  match r with
  | .ok ds => ∀ q' H' J, Gr q n H q' S'.length H' → Wd K q' S' H' → Wk K q' S'.length H' J ds → R J H'
  | .ex c fs => Post K cl q n H E (fun _ _ => False) (.ex c fs) S'
structure EI (X : Cx) (cl : Cl) (E : XK) (tg e : Expr) (m : AM) : Prop where
  ex : ∃ wi, PI X tg e wi ∧ ∀ g S r S', m g S = some (r, S') → ∀ q s H R, Wd X.K q S H → Sl X.K q S.length H s g → PostI X.K cl q S.length H E R r S' → wi s H R
theorem PI.or {X : Cx} {tg e : Expr} {w1 w2 : TI} (h1 : PI X tg e w1) (h2 : PI X tg e w2) : PI X tg e (fun s H R => w1 s H R ∨ w2 s H R) := ⟨fun pins s σ H R I h => by
  rcases h with h | h
  · exact h1.run pins s σ H R I h
  · exact h2.run pins s σ H R I h⟩
theorem PostI.to {K : Fr} {cl : Cl} {q q1 : Nat → Addr} {n n1 : Nat} {H H1 : Hp} {E : XK} {R : It → Hp → Prop} {r : Rs (List D)} {S' : ST} (g : Gr q n H q1 n1 H1) (h : PostI K cl q n H E R r S') : PostI K cl q1 n1 H1 E R r S' := by
  cases r with
  | ok _ => exact fun q' H' J g' w k => h q' H' J (g.trans g') w k
  | ex c fs => exact Post.to (Q := fun _ _ => False) (r := .ex c fs) g h
/-- the signs of a text, each a text -/
def signs (z : Str) : List D := z.cps.toList.map fun c => .str ⟨#[c]⟩
def itF (x : D) (S : ST) : Option (Rs (List D) × ST) := match x with
  | .tup ds => some (.ok ds, S)
  | .lst ds => some (.ok ds, S)
  | .kls ds => some (.ok ds, S)
  | .str z => some (.ok (signs z), S)
  | _ => none
def iVal (a : EM) : AM := fun g S => bd (a g S) itF
theorem wk_list {K : Fr} {q : Nat → Addr} {n : Nat} {H : Hp} {a : Addr} {vs : List V} {ds : List D} (h : FzL K H a vs) (r : Dts K q n H vs ds) : Wk K q n H (Itl K a) ds := by
  intro q2 n2 H2 g i
  have sq := (g.ge.fzl h).sq
  refine ⟨fun d e => ?_, fun e => ⟨vs, sq, by rw [r.length, e]; exact Nat.le_refl _⟩⟩
  obtain ⟨v, e1, r1⟩ := r.get e
  refine ⟨⟨vs, v, sq, e1⟩, fun x H3 y => ?_⟩
  obtain ⟨rfl, y⟩ := y
  have e2 := y vs sq
  rw [e1] at e2
  cases e2
  exact ⟨.refl, fun _ _ w => w, r1.mono g.ge⟩
theorem wk_tup {K : Fr} {q : Nat → Addr} {n : Nat} {H : Hp} {a : Addr} {vs : List V} {ds : List D} (h : SqT K H a vs) (r : Dts K q n H vs ds) : Wk K q n H (Itt K a) ds := by
  intro q2 n2 H2 g i
  have sq := g.ge.sqT h
  refine ⟨fun d e => ?_, fun e => ⟨vs, sq, by rw [r.length, e]; exact Nat.le_refl _⟩⟩
  obtain ⟨v, e1, r1⟩ := r.get e
  refine ⟨⟨vs, v, sq, e1⟩, fun x H3 y => ?_⟩
  obtain ⟨rfl, y⟩ := y
  have e2 := y vs sq
  rw [e1] at e2
  cases e2
  exact ⟨.refl, fun _ _ w => w, r1.mono g.ge⟩
theorem wk_str {K : Fr} {q : Nat → Addr} {n : Nat} {H : Hp} {z : Str} : Wk K q n H (Its z) (signs z) := by
  intro q2 n2 H2 g i
  refine ⟨fun d e => ?_, fun e => ?_⟩
  · simp only [signs, List.getElem?_map, Option.map_eq_some_iff, Array.getElem?_toList] at e
    obtain ⟨c, e1, rfl⟩ := e
    refine ⟨(Array.getElem?_eq_some_iff.mp e1).1, fun x H3 y => ?_⟩
    obtain ⟨rfl, c', e2, rfl⟩ := y
    rw [e1] at e2
    cases e2
    exact ⟨.refl, fun _ _ w => w, .str _⟩
  · show z.cps.size ≤ i
    rw [e]
    simp [signs]
section
variable {X : Cx} {cl : Cl} {E : XK} {e a b c tg : Expr} {es : List Expr} {pos : Pos} {m ma mb mc : EM} {mr : AM} {t : BM}
theorem ei_val (h : EE X cl E e m) : EI X cl E tg e (iVal m) := by
  obtain ⟨ta, pa, ea⟩ := h
  refine ⟨_, PI.or (pi_list pa) (PI.or (pi_tup pa) (pi_str pa)), fun g S z S' h q s H R w sl po => ?_⟩
  rcases bd_inv h with ⟨x, S1, h1, h⟩ | ⟨c, fs, h1, rfl⟩
  · unfold itF at h
    split at h
    · cases h
      refine .inr (.inl (ea g S _ _ h1 q s H _ w sl fun q1 H1 vx g1 w1 d1 => ?_))
      obtain ⟨a, vs, rfl, sq, r⟩ := d1.tup_inv
      exact ⟨a, rfl, ⟨vs, sq⟩, po q1 H1 _ g1 w1 (wk_tup sq r)⟩
    · cases h
      refine .inl (ea g S _ _ h1 q s H _ w sl fun q1 H1 vx g1 w1 d1 => ?_)
      cases d1 with
      | lst sq r => exact ⟨_, rfl, ⟨_, .inl (.inr ⟨_, sq⟩)⟩, po q1 H1 _ g1 w1 (wk_list (.inl ⟨_, sq⟩) r)⟩
    · cases h
      refine .inl (ea g S _ _ h1 q s H _ w sl fun q1 H1 vx g1 w1 d1 => ?_)
      cases d1 with
      | kls sq r => exact ⟨_, rfl, ⟨_, sq.sq⟩, po q1 H1 _ g1 w1 (wk_list sq r)⟩
    · cases h
      refine .inr (.inr (ea g S _ _ h1 q s H _ w sl fun q1 H1 vx g1 w1 d1 => ?_))
      obtain rfl := d1.str_inv
      exact ⟨_, rfl, po q1 H1 _ g1 w1 wk_str⟩
    · cases h
  · exact .inl (ea g S _ S' h1 q s H _ w sl (Post.ex (Q := fun _ _ => False) po))
/-- lo, lo + 1, .. below hi -/
def rngD (lo hi : Int) : List D := (List.range (hi - lo).toNat).map fun (i : Nat) => .int (lo + i)
theorem wk_rng {K : Fr} {q : Nat → Addr} {n : Nat} {H : Hp} {lo hi : Int} : Wk K q n H (Itr lo (hi - lo).toNat) (rngD lo hi) := by
  intro q2 n2 H2 g i
  refine ⟨fun d e => ?_, fun e => ?_⟩
  · simp only [rngD, List.getElem?_map, Option.map_eq_some_iff] at e
    obtain ⟨c, e1, rfl⟩ := e
    obtain ⟨hlt, e2⟩ := List.getElem?_eq_some_iff.mp e1
    rw [List.getElem_range] at e2
    subst e2
    rw [List.length_range] at hlt
    refine ⟨hlt, fun x H3 y => ?_⟩
    obtain ⟨rfl, rfl⟩ := y
    exact ⟨.refl, fun _ _ w => w, .int _⟩
  · show (hi - lo).toNat ≤ i
    rw [e]
    simp [rngD]
def okI (i : Int) : Bool := decide (-(2 ^ 62) ≤ i) && decide (i < 2 ^ 62)
def rng1F (xs : List D) (S : ST) : Option (Rs (List D) × ST) := match xs with
  | [.int j] => if okI j = true then some (.ok (rngD 0 j), S) else none
  | _ => none
def rng2F (xs : List D) (S : ST) : Option (Rs (List D) × ST) := match xs with
  | [.int i, .int j] => if (okI i && okI j) = true then some (.ok (rngD i j), S) else none
  | _ => none
def iCall (f : List D → ST → Option (Rs (List D) × ST)) (a : AM) : AM := fun g S => bd (a g S) f
theorem ei_rng1 {p : Pos} (ha : EA X cl E [a] mr) (hg : Gl X "range") (hm : X.mg "range" = none) (hs : starEach [a] X.env = [(false, eval a X.env)] := by rfl) : EI X cl E tg (.Call (.Name "range" p) [a] [] pos) (iCall rng1F mr) := by
  obtain ⟨ta, pa, ea⟩ := ha
  refine ⟨_, pi_range1 hg hm pa hs, fun g S z S' h q s H R w sl po => ?_⟩
  rcases bd_inv h with ⟨xs, S1, h1, h⟩ | ⟨c, fs, h1, rfl⟩
  · refine ea g S _ S1 h1 q s H _ w sl fun q1 H1 vs g1 w1 d1 => ?_
    unfold rng1F at h
    split at h
    · split at h
      · rename_i j hj
        cases h
        obtain ⟨v, rfl, r⟩ := dts1 d1
        obtain rfl := r.int_inv
        simp only [okI, Bool.and_eq_true, decide_eq_true_eq] at hj
        have wk := wk_rng (K := X.K) (q := q1) (n := S'.length) (H := H1) (lo := 0) (hi := j)
        rw [Int.sub_zero] at wk
        exact ⟨j, rfl, hj.1, hj.2, po q1 H1 _ g1 w1 wk⟩
      · cases h
    · cases h
  · exact ea g S _ S' h1 q s H _ w sl po
theorem ei_rng2 {p : Pos} (ha : EA X cl E [a, b] mr) (hg : Gl X "range") (hm : X.mg "range" = none) (hs : starEach [a, b] X.env = [(false, eval a X.env), (false, eval b X.env)] := by rfl) (hs2 : starEach [b] X.env = [(false, eval b X.env)] := by rfl) :
    EI X cl E tg (.Call (.Name "range" p) [a, b] [] pos) (iCall rng2F mr) := by
  obtain ⟨ta, pa, ea⟩ := ha
  refine ⟨_, pi_range2 hg hm pa hs hs2, fun g S z S' h q s H R w sl po => ?_⟩
  rcases bd_inv h with ⟨xs, S1, h1, h⟩ | ⟨c, fs, h1, rfl⟩
  · refine ea g S _ S1 h1 q s H _ w sl fun q1 H1 vs g1 w1 d1 => ?_
    unfold rng2F at h
    split at h
    · split at h
      · rename_i i j hj
        cases h
        obtain ⟨v, u, rfl, r, r2⟩ := dts2 d1
        obtain rfl := r.int_inv
        obtain rfl := r2.int_inv
        simp only [okI, Bool.and_eq_true, decide_eq_true_eq] at hj
        exact ⟨i, j, rfl, ⟨hj.1.1, hj.1.2, hj.2.1, hj.2.2⟩, po q1 H1 _ g1 w1 wk_rng⟩
      · cases h
    · cases h
  · exact ea g S _ S' h1 q s H _ w sl po
/-! ### for -/
def forD (tg : GM) (body : SM) : List D → EV → ST → Option (Out × ST)
  | [], g, S => some (.nx g, S)
  | d :: ds, g, S => match tg d g S with
    | none => none
    | some (g1, S1) => match body g1 S1 with
      | some (.nx g2, S2) => forD tg body ds g2 S2
      | some (.ct g2, S2) => forD tg body ds g2 S2
      | some (.bk g2, S2) => some (.nx g2, S2)
      | some (.rt x, S2) => some (.rt x, S2)
      | some (.ex c fs, S2) => some (.ex c fs, S2)
      | none => none
def sFor (it : AM) (tg : GM) (body : SM) : SM := fun g S => bs (it g S) fun ds S1 => forD tg body ds g S1
theorem st_for {sts : List Stmt} {ms : SM} {ix : List Nat} {f : GM} (hp : PassesOwn (model X.prog X.w) X.A X.env X.xe) (hc : X.calm = true) (hi : EI X cl E tg e mr) (hg : EG X tg ix f) (hb : ESs X cl E sts ms) (hs : ∀ x, foldedSetIterable e X.env x = pure x := by intro _; rfl) :
    ES X cl E (.For tg e sts [] pos) (sFor mr f ms) := by
  obtain ⟨wi, pi, ei⟩ := hi
  obtain ⟨tt, pg, eg⟩ := hg
  obtain ⟨tb, pb, eb⟩ := hb
  refine ⟨_, ps_for hp hc pi pg pb hs, fun g S o S' h q s H D w sl po => ?_⟩
  rcases bs_inv h with ⟨ds, S1, h1, h⟩ | ⟨c, fs, h1, rfl⟩
  · refine ei g S _ S1 h1 q s H _ w sl fun q1 H1 J g1 w1 wk => ?_
    refine ⟨fun i k s2 H2 => k = ds.length - i ∧ i ≤ ds.length ∧ ∃ q2 S2 gg, Gr q1 S1.length H1 q2 S2.length H2 ∧ Wd X.K q2 S2 H2 ∧ Sl X.K q2 S2.length H2 s2 gg ∧ forD f ms (ds.drop i) gg S2 = some (o, S'),
      ⟨ds.length, by simp, Nat.zero_le _, q1, S1, g, .refl, w1, sl.mono g1, by simpa using h⟩, ?_⟩
    rintro i k s2 H2 ⟨rfl, hi, q2, S2, gg, gr2, w2, sl2, hf⟩
    obtain ⟨wg, ws⟩ := wk q2 S2.length H2 gr2 i
    by_cases hlt : i < ds.length
    · rw [List.drop_eq_getElem_cons hlt] at hf
      obtain ⟨go, yld⟩ := wg ds[i] (List.getElem?_eq_getElem hlt)
      refine .inr ⟨go, fun s3 H3 => ∃ q3 S3 g3, Gr q1 S1.length H1 q3 S3.length H3 ∧ Wd X.K q3 S3 H3 ∧ Sl X.K q3 S3.length H3 s3 g3 ∧ forD f ms (ds.drop (i + 1)) g3 S3 = some (o, S'), fun s3 H3 ⟨q3, S3, g3, z⟩ => ⟨ds.length - (i + 1), by omega, rfl, hlt, q3, S3, g3, z⟩, fun x H3 y => ?_⟩
      obtain ⟨gr3, wd3, d3⟩ := yld x H3 y
      have w3 := wd3 S2 rfl w2
      unfold forD at hf
      split at hf
      · cases hf
      · rename_i gA SA hA
        refine eg ds[i] gg S2 gA SA hA q2 s2 H3 x _ w3 (sl2.mono gr3) d3 fun q4 H4 s4 gr4 w4 sl4 _ => ?_
        have gt := (gr2.trans gr3).trans gr4
        split at hf
        · rename_i gB SB hB
          exact eb gA SA _ SB hB q4 s4 H4 _ w4 sl4 fun q5 H5 s5 gr5 w5 sl5 => ⟨q5, SB, gB, gt.trans gr5, w5, sl5, hf⟩
        · rename_i gB SB hB
          exact eb gA SA _ SB hB q4 s4 H4 _ w4 sl4 fun q5 H5 s5 gr5 w5 sl5 => ⟨q5, SB, gB, gt.trans gr5, w5, sl5, hf⟩
        · rename_i gB SB hB
          cases hf
          exact eb gA SA _ _ hB q4 s4 H4 _ w4 sl4 fun q5 H5 s5 gr5 w5 sl5 => po q5 H5 s5 (g1.trans (gt.trans gr5)) w5 sl5
        · rename_i dB SB hB
          cases hf
          exact eb gA SA _ _ hB q4 s4 H4 _ w4 sl4 fun q5 H5 v5 gr5 w5 d5 => po q5 H5 v5 (g1.trans (gt.trans gr5)) w5 d5
        · rename_i cB fB SB hB
          cases hf
          exact eb gA SA _ _ hB q4 s4 H4 _ w4 sl4 (Post.to (Q := fun _ _ => False) (r := .ex cB fB) (g1.trans gt) po)
        · cases hf
    · have e : i = ds.length := by omega
      subst e
      rw [List.drop_length] at hf
      cases hf
      exact .inl ⟨ws rfl, po q2 H2 s2 (g1.trans gr2) w2 sl2⟩
  · exact ei g S _ S' h1 q s H _ w sl po
/-! ### while, by turns -/
def whD (t : BM) (body : SM) : Nat → EV → ST → Option (Out × ST)
  | 0, _, _ => none
  | n + 1, g, S => bs (t g S) fun c S1 => if c = true then match body g S1 with
      | some (.nx g2, S2) => whD t body n g2 S2
      | some (.ct g2, S2) => whD t body n g2 S2
      | some (.bk g2, S2) => some (.nx g2, S2)
      | some (.rt x, S2) => some (.rt x, S2)
      | some (.ex c fs, S2) => some (.ex c fs, S2)
      | none => none
    else some (.nx g, S1)
def sWhile (n : Nat) (t : BM) (body : SM) : SM := fun g S => whD t body n g S
theorem st_while {sts : List Stmt} {ms : SM} (n : Nat) (hp : PassesOwn (model X.prog X.w) X.A X.env X.xe) (ht : ET X cl E c t) (hb : ESs X cl E sts ms) : ES X cl E (.While c sts [] pos) (sWhile n t ms) := by
  obtain ⟨tt, pt, et⟩ := ht
  obtain ⟨tb, pb, eb⟩ := hb
  refine ⟨_, ps_while hp pt pb, fun g S o S' h q s H D w sl po => ?_⟩
  refine ⟨fun k s2 H2 => ∃ q2 S2 gg, Gr q S.length H q2 S2.length H2 ∧ Wd X.K q2 S2 H2 ∧ Sl X.K q2 S2.length H2 s2 gg ∧ whD t ms k gg S2 = some (o, S'), ⟨n, q, S, g, .refl, w, sl, h⟩, ?_⟩
  rintro k s2 H2 ⟨q2, S2, gg, gr2, w2, sl2, hf⟩
  cases k with
  | zero => cases hf
  | succ k =>
    rcases bs_inv hf with ⟨b, S3, h3, hf⟩ | ⟨c, fs, h3, rfl⟩
    · refine et gg S2 _ S3 h3 q2 s2 H2 _ w2 sl2 fun q3 H3 gr3 w3 => ?_
      have gt := gr2.trans gr3
      cases b with
      | true =>
        refine ⟨fun s5 H5 => ∃ q5 S5 g5, Gr q S.length H q5 S5.length H5 ∧ Wd X.K q5 S5 H5 ∧ Sl X.K q5 S5.length H5 s5 g5 ∧ whD t ms k g5 S5 = some (o, S'), fun s5 H5 ⟨q5, S5, g5, z⟩ => ⟨k, Nat.lt_succ_self _, q5, S5, g5, z⟩, ?_⟩
        rw [if_pos rfl] at hf
        split at hf
        · rename_i gB SB hB
          exact eb gg S3 _ SB hB q3 s2 H3 _ w3 (sl2.mono gr3) fun q5 H5 s5 gr5 w5 sl5 => ⟨q5, SB, gB, gt.trans gr5, w5, sl5, hf⟩
        · rename_i gB SB hB
          exact eb gg S3 _ SB hB q3 s2 H3 _ w3 (sl2.mono gr3) fun q5 H5 s5 gr5 w5 sl5 => ⟨q5, SB, gB, gt.trans gr5, w5, sl5, hf⟩
        · rename_i gB SB hB
          cases hf
          exact eb gg S3 _ _ hB q3 s2 H3 _ w3 (sl2.mono gr3) fun q5 H5 s5 gr5 w5 sl5 => po q5 H5 s5 (gt.trans gr5) w5 sl5
        · rename_i dB SB hB
          cases hf
          exact eb gg S3 _ _ hB q3 s2 H3 _ w3 (sl2.mono gr3) fun q5 H5 v5 gr5 w5 d5 => po q5 H5 v5 (gt.trans gr5) w5 d5
        · rename_i cB fB SB hB
          cases hf
          exact eb gg S3 _ _ hB q3 s2 H3 _ w3 (sl2.mono gr3) (Post.to (Q := fun _ _ => False) (r := .ex cB fB) gt po)
        · cases hf
      | false =>
        rw [if_neg Bool.false_ne_true] at hf
        cases hf
        exact po q3 H3 s2 gt w3 (sl2.mono gr3)
    · exact et gg S2 _ S' h3 q2 s2 H2 _ w2 sl2 (Post.to (Q := fun _ _ => False) (r := .ex c fs) gr2 po)
end
end U

set_option Elab.async false
set_option linter.all false
set_option maxRecDepth 100000
set_option maxHeartbeats 1000000
namespace U
open PySem L2
/-! ### comprehensions -/
def wpD (g : EV) : List Nat → EV
  | [] => g
  | v :: vs => (wpD g vs).set v none
theorem Sl.gone {K : Fr} {q : Nat → Addr} {n : Nat} {H : Hp} {s : L2.St} {g : EV} (i : Nat) (h : Sl K q n H s g) : Sl K q n H (s.set i none) (g.set i none) := by
  refine ⟨by simp [h.1], fun j e hj => ?_⟩
  by_cases hi : i = j
  · subst hi
    by_cases hl : i < g.length
    · rw [List.getElem?_set_self hl] at hj
      cases hj
    · rw [List.getElem?_eq_none (by simpa using hl)] at hj
      cases hj
  · rw [List.getElem?_set_ne hi] at hj ⊢
    exact h.2 j e hj
theorem Sl.wipe {K : Fr} {q : Nat → Addr} {n : Nat} {H : Hp} {s : L2.St} {g : EV} (h : Sl K q n H s g) : ∀ vs : List Nat, Sl K q n H (L2.wipe s vs) (wpD g vs)
  | [] => h
  | v :: vs => (Sl.wipe h vs).gone v
theorem wipe_in {s : L2.St} {i : Nat} : ∀ {vs : List Nat}, i ∈ vs → i < s.length → (L2.wipe s vs)[i]? = some none
  | v :: vs, h, hl => by
    unfold L2.wipe
    by_cases e : v = i
    · subst e
      rw [List.getElem?_set_self (by rw [wipe_length]; exact hl)]
    · rw [List.getElem?_set_ne e]
      exact wipe_in (by simpa [Ne.symm e] using h) hl
theorem wipe_eq {s s' : L2.St} {vs : List Nat} (hl : s'.length = s.length) (h : ∀ j, j ∉ vs → s'[j]? = s[j]?) : L2.wipe s' vs = L2.wipe s vs := by
  apply List.ext_getElem?
  intro i
  by_cases hv : i ∈ vs
  · by_cases hi : i < s.length
    · rw [wipe_in hv hi, wipe_in hv (by omega)]
    · rw [List.getElem?_eq_none (by rw [wipe_length]; omega), List.getElem?_eq_none (by rw [wipe_length]; omega)]
  · rw [wipe_out hv, wipe_out hv]
    exact h i hv
structure ETs (X : Cx) (cl : Cl) (E : XK) (es : List Expr) (m : BM) : Prop where
  ex : ∃ tt, PTs X es tt ∧ ∀ g S r S', m g S = some (r, S') → ∀ q s H Q, Wd X.K q S H → Sl X.K q S.length H s g → PostB X.K cl q S.length H E Q r S' → tt s H Q
theorem ETs.pts {X : Cx} {cl : Cl} {E : XK} {es : List Expr} {t : BM} (h : ETs X cl E es t) : PTs X es (rdT X.K cl E t) := by
  obtain ⟨te, pe, ee⟩ := h
  exact ⟨fun pins s σ H Q I ⟨g, S, r, S', q, h, w, sl, po⟩ => pe.run pins s σ H Q I (ee g S r S' h q σ H Q w sl po)⟩
def bYes : BM := fun _ S => some (.ok true, S)
theorem ets_nil {X : Cx} {cl : Cl} {E : XK} : ETs X cl E [] bYes := by
  refine ⟨_, pts_nil, fun g S r S' h q s H Q w sl po => ?_⟩
  cases h
  exact po q H Gr.refl w
theorem ets_one {X : Cx} {cl : Cl} {E : XK} {c : Expr} {t : BM} (h : ET X cl E c t) : ETs X cl E [c] t := by
  obtain ⟨te, pe, ee⟩ := h
  exact ⟨te, pts_one pe, ee⟩
def cmD (tg : GM) (t : BM) (el : EM) (g : EV) : List D → ST → Option (List D × ST)
  | [], S => some ([], S)
  | d :: ds, S => match tg d g S with
    | none => none
    | some (g1, S1) => match t g1 S1 with
      | some (.ok true, S2) => match el g1 S2 with
        | some (.ok x, S3) => match cmD tg t el g ds S3 with
          | some (xs, S4) => some (x :: xs, S4)
          | none => none
        | _ => none
      | some (.ok false, S2) => cmD tg t el g ds S2
      | _ => none
def oLc (it : AM) (tg : GM) (t : BM) (el : EM) (vs : List Nat) : AM := fun g S => bd (it g S) fun ds S1 => match cmD tg t el (wpD g vs) ds S1 with
  | some (xs, S2) => if few xs.length = true then some (.ok xs, S2) else none
  | none => none
theorem cmD_len {tg : GM} {t : BM} {el : EM} {g : EV} : ∀ {ds : List D} {S S' : ST} {xs : List D}, cmD tg t el g ds S = some (xs, S') → xs.length ≤ ds.length
  | [], _, _, _, h => by cases h; exact Nat.le_refl _
  | d :: ds, S, S', xs, h => by
    unfold cmD at h
    split at h
    · cases h
    · split at h
      · split at h
        · split at h
          · rename_i hh
            cases h
            have := cmD_len hh
            simp; omega
          · cases h
        · cases h
      · have := cmD_len h
        simp; omega
      · cases h
section
variable {X : Cx} {cl : Cl} {E : XK} {e a b c tg iter elt : Expr} {es ifs : List Expr} {pos : Pos} {m : EM} {mr : AM} {t : BM} {f : GM} {ix vs : List Nat}
theorem lc_post {K : Fr} {wi : TI} (hv : ∀ i ∈ ix, i ∈ vs) (hwi : ∀ g S r S', mr g S = some (r, S') → ∀ q s H R, Wd K q S H → Sl K q S.length H s g → PostI K cl q S.length H E R r S' → wi s H R)
    {g : EV} {S S' : ST} {z : Rs (List D)} (h : oLc mr f t m vs g S = some (z, S')) {q : Nat → Addr} {s : L2.St} {H : Hp} {Q : VK} (w : Wd K q S H) (sl : Sl K q S.length H s g) (po : PostO K cl q S.length H E Q z S') :
    tLc wi (rdG K ix f) (rdT K cl E0 t) (rdE K cl E0 m) vs s H Q := by
  rcases bd_inv h with ⟨ds, S1, h1, h⟩ | ⟨c, fs, h1, rfl⟩
  · refine hwi g S _ S1 h1 q s H _ w sl fun q1 H1 J g1 w1 wk L hL => ?_
    split at h
    · rename_i total S2 hc
      split at h
      · rename_i hfew
        cases h
        have hlen : total.length ≤ 100000 := of_decide_eq_true hfew
        refine ⟨fun i k H2 => k = ds.length - i ∧ i ≤ ds.length ∧ ∃ q2 S2 acc accD rest, Gr q1 S1.length H1 q2 S2.length H2 ∧ Wd K q2 S2 H2 ∧ H2 L = some (.lst acc) ∧ (∀ m, m < S2.length → q2 m ≠ L) ∧ Dts K q2 S2.length H2 acc accD ∧ accD ++ rest = total ∧ cmD f t m (wpD g vs) (ds.drop i) S2 = some (rest, S'),
          ⟨ds.length, by simp, Nat.zero_le _, q1, S1, [], [], total, Gr.new hL, w1.new hL, upd_same, fun m hm => w1.ne hL hm, .nil, rfl, by simpa using hc⟩, ?_⟩
        rintro i k H2 ⟨rfl, hi, q2, S2, acc, accD, rest, gr2, w2, hacc, hne, dacc, hr, hf⟩
        obtain ⟨wg, ws⟩ := wk q2 S2.length H2 gr2 i
        by_cases hlt : i < ds.length
        · rw [List.drop_eq_getElem_cons hlt] at hf
          obtain ⟨go, yld⟩ := wg ds[i] (List.getElem?_eq_getElem hlt)
          refine .inr ⟨go, fun H3 => ∃ q3 S3 acc accD rest, Gr q1 S1.length H1 q3 S3.length H3 ∧ Wd K q3 S3 H3 ∧ H3 L = some (.lst acc) ∧ (∀ m, m < S3.length → q3 m ≠ L) ∧ Dts K q3 S3.length H3 acc accD ∧ accD ++ rest = total ∧ cmD f t m (wpD g vs) (ds.drop (i + 1)) S3 = some (rest, S'),
            fun H3 z => ⟨ds.length - (i + 1), by omega, rfl, hlt, z⟩, fun x H3 y => ?_⟩
          obtain ⟨gr3, wd3, d3⟩ := yld x H3 y
          have w3 := wd3 S2 rfl w2
          have gs : Gr q S.length H q2 S2.length H3 := (g1.trans gr2).trans gr3
          have al : acc.length ≤ 100000 := by
            rw [dacc.length]
            have := congrArg List.length hr
            rw [List.length_append] at this
            omega
          unfold cmD at hf
          split at hf
          · cases hf
          · rename_i gA SA hA
            refine ⟨ds[i], wpD g vs, S2, gA, SA, q2, hA, w3, (sl.mono gs).wipe vs, d3, fun q4 H4 s4 gr4 w4 sl4 but4 => ⟨?_, ?_⟩⟩
            · have e1 : L2.wipe s4 vs = L2.wipe (L2.wipe s vs) vs := wipe_eq but4.1 fun j hj => but4.2 j fun z => hj (hv j z)
              rw [e1]
              exact wipe_eq (wipe_length s vs) fun j hj => wipe_out hj
            · split at hf
              · rename_i SB hB
                refine ⟨gA, SA, _, SB, q4, hB, w4, sl4, fun q5 H5 gr5 w5 => ?_⟩
                show rdE K cl E0 m s4 H5 _
                split at hf
                · rename_i y SC hC
                  refine ⟨gA, SB, _, SC, q5, hC, w5, sl4.mono gr5, fun q6 H6 v gr6 w6 d6 => ?_⟩
                  split at hf
                  · rename_i xs SD hD
                    cases hf
                    have gl := ((gr3.trans gr4).trans gr5).trans gr6
                    have hL6 : H6 L = some (.lst acc) := gl.fr L _ hacc hne
                    have ne6 := gl.out hacc hne
                    refine ⟨acc, hL6, Nat.lt_of_le_of_lt al (by decide), q6, SC, acc ++ [v], accD ++ [y], xs, (gr2.trans gl).over hL, w6.off hL6 trivial ne6, upd_same, ne6, ?_, by rw [List.append_assoc]; exact hr, hD⟩
                    exact ((dacc.mono gl.ge).append (.cons d6 .nil)).mono (Ge.wr hL6 trivial)
                  · cases hf
                · cases hf
              · rename_i SB hB
                refine ⟨gA, SA, _, SB, q4, hB, w4, sl4, fun q5 H5 gr5 w5 => ?_⟩
                have gl := (gr3.trans gr4).trans gr5
                exact ⟨q5, SB, acc, accD, rest, gr2.trans gl, w5, gl.fr L _ hacc hne, gl.out hacc hne, dacc.mono gl.ge, hr, hf⟩
              · cases hf
        · have e : i = ds.length := by omega
          subst e
          rw [List.drop_length] at hf
          cases hf
          rw [List.append_nil] at hr
          subst hr
          exact .inl ⟨ws rfl, po q2 H2 L acc (g1.trans gr2) w2 (g1.free hL) hacc hne dacc⟩
      · cases h
    · cases h
  · exact hwi g S _ S' h1 q s H _ w sl po
variable {scope : Scope} {own : List (Str × Nat)}
theorem eo_lc (hv : ∀ i ∈ ix, i ∈ own.map (·.2)) (hc : X.calm = true) (hN : X.N.Nodup) (hi : EI X cl E tg iter mr) (ok : BlkOk X.N X.env.scope scope own)
    (hg : ∀ (s : Shared) (H : Hp) (C : Addr) (cl : List (Str × Addr)) (fp : List Addr), EG (X.blk s H scope (compEnvC scope cl C X.env) fp) tg ix f)
    (ht : ∀ (s : Shared) (H : Hp) (C : Addr) (l : List (Str × Addr)) (fp : List Addr), ETs (X.blk s H scope (compEnvC scope l C X.env) fp) cl E0 ifs t)
    (he : ∀ (s : Shared) (H : Hp) (C : Addr) (l : List (Str × Addr)) (fp : List Addr), EE (X.blk s H scope (compEnvC scope l C X.env) fp) cl E0 elt m) (hs : ∀ x, foldedSetIterable iter X.env x = pure x := by intro _; rfl) :
    EO X cl E (.ListComp elt [⟨tg, iter, ifs, 0⟩] scope pos) (oLc mr f t m (own.map (·.2))) := by
  obtain ⟨wi, pi, ei⟩ := hi
  exact ⟨_, pe_lc (g := rdG X.K ix f) (tt := rdT X.K cl E0 t) (te := rdE X.K cl E0 m) hc hN pi ok (fun s H C l fp => (hg s H C l fp).pg) (fun s H C l fp => (ht s H C l fp).pts) (fun s H C l fp => (he s H C l fp).pe) hs, fun g S r S' h q s H Q w sl po => lc_post hv ei h w sl po⟩
/-- a statement behind which something is shut -/
def FzS (nx : L2.St → Hp → Prop) : L2.St → Hp → Prop := fun s H => nx s H ∨ ∃ a u, H a = some u ∧ Shut u ∧ ∀ o, nx s (upd H a (.frz o u))
theorem ps_fz {st : Stmt} {ts : TS} (h : PS X st ts) : PS X st (fun D s H => ts { D with nx := FzS D.nx } s H) := ⟨fun pins s σ H D I w => thn (h.run pins s σ H { D with nx := FzS D.nx } I w) fun fl s1 z => by
  cases fl with
  | next =>
    obtain ⟨σ', H', I', q⟩ := z
    rcases q with q | ⟨a, u, e, hu, q⟩
    · exact ⟨σ', H', I', q⟩
    · obtain ⟨o, I2⟩ := inv_shut I' e hu
      exact ⟨σ', _, I2, q o⟩
  | brk => exact z
  | cont => exact z
  | ret v => exact z⟩
theorem st_setLc (i : Nat) {y : Str} {py spos : Pos} (hv : ∀ i ∈ ix, i ∈ own.map (·.2)) (hc : X.calm = true) (hN : X.N.Nodup) (hi : EI X cl E tg iter mr) (ok : BlkOk X.N X.env.scope scope own)
    (hg : ∀ (s : Shared) (H : Hp) (C : Addr) (cl : List (Str × Addr)) (fp : List Addr), EG (X.blk s H scope (compEnvC scope cl C X.env) fp) tg ix f)
    (ht : ∀ (s : Shared) (H : Hp) (C : Addr) (l : List (Str × Addr)) (fp : List Addr), ETs (X.blk s H scope (compEnvC scope l C X.env) fp) cl E0 ifs t)
    (he : ∀ (s : Shared) (H : Hp) (C : Addr) (l : List (Str × Addr)) (fp : List Addr), EE (X.blk s H scope (compEnvC scope l C X.env) fp) cl E0 elt m)
    (hsw : swapsWith (.ListComp elt [⟨tg, iter, ifs, 0⟩] scope pos) (some (.Name y py)) spos.line X.env = pure true)
    (hy : X.N[i]? = some y := by rfl) (hyl : X.env.scope.names.lookup y = some .local := by rfl) (hs : ∀ x, foldedSetIterable iter X.env x = pure x := by intro _; rfl) :
    ES X cl E (.Assign [.Name y py] (.ListComp elt [⟨tg, iter, ifs, 0⟩] scope pos) spos) (sAsg (eFz (oLc mr f t m (own.map (·.2)))) (gVar i)) := by
  obtain ⟨wi, pi, ei⟩ := hi
  refine ⟨_, ps_fz (ps_setLc (g := rdG X.K ix f) (tt := rdT X.K cl E0 t) (te := rdE X.K cl E0 m) hc hN hy hyl hsw pi ok (fun s H C l fp => (hg s H C l fp).pg) (fun s H C l fp => (ht s H C l fp).pts) (fun s H C l fp => (he s H C l fp).pe) hs), fun g S o S' h q s H D w sl po => ?_⟩
  rcases bs_inv h with ⟨d, S1, h1, h⟩ | ⟨c, fs, h1, rfl⟩
  · cases h
    rcases bd_inv h1 with ⟨xs, S2, h2, h⟩ | ⟨c, fs, h2, e⟩
    · cases h
      refine lc_post hv ei h2 w sl fun q1 H1 L vs g1 w1 h0 hL hn d1 => ?_
      have hu : Shut (.lst vs) := .inl ⟨vs, rfl⟩
      refine .inr ⟨L, _, hL, hu, fun o => po q1 _ _ (g1.over h0) (w1.off hL trivial hn) ?_⟩
      have sl2 : Sl X.K q1 S'.length (upd H1 L (.frz o (.lst vs))) s g := ⟨sl.1, fun j d e => let ⟨v, x1, x2⟩ := sl.2 j d e; ⟨v, x1, x2.mono (g1.over h0).ge⟩⟩
      exact sl2.set i (.lst (o := o) upd_same (d1.mono (Ge.wr hL trivial)))
    · cases e
  · rcases bd_inv h1 with ⟨xs, S2, h2, h⟩ | ⟨c, fs, h2, e⟩
    · cases h
    · cases e
      exact lc_post hv ei h2 w sl po
theorem st_setLcP (i : Nat) {y : Str} {py spos : Pos} (hv : ∀ i ∈ ix, i ∈ own.map (·.2)) (hc : X.calm = true) (hN : X.N.Nodup) (hi : EI X cl E tg iter mr) (ok : BlkOk X.N X.env.scope scope own)
    (hg : ∀ (s : Shared) (H : Hp) (C : Addr) (cl : List (Str × Addr)) (fp : List Addr), EG (X.blk s H scope (compEnvC scope cl C X.env) fp) tg ix f)
    (ht : ∀ (s : Shared) (H : Hp) (C : Addr) (l : List (Str × Addr)) (fp : List Addr), ETs (X.blk s H scope (compEnvC scope l C X.env) fp) cl E0 ifs t)
    (he : ∀ (s : Shared) (H : Hp) (C : Addr) (l : List (Str × Addr)) (fp : List Addr), EE (X.blk s H scope (compEnvC scope l C X.env) fp) cl E0 elt m)
    (hsw : swapsWith (.ListComp elt [⟨tg, iter, ifs, 0⟩] scope pos) (some (.Name y py)) spos.line X.env = pure true)
    (hy : X.N[i]? = some y := by rfl) (hyl : X.env.scope.names.lookup y = some .local := by rfl) (hs : ∀ x, foldedSetIterable iter X.env x = pure x := by intro _; rfl) :
    ES X cl E (.Assign [.Name y py] (.ListComp elt [⟨tg, iter, ifs, 0⟩] scope pos) spos) (sAsg (ePtr (oLc mr f t m (own.map (·.2)))) (gVar i)) := by
  obtain ⟨wi, pi, ei⟩ := hi
  refine ⟨_, ps_setLc (g := rdG X.K ix f) (tt := rdT X.K cl E0 t) (te := rdE X.K cl E0 m) hc hN hy hyl hsw pi ok (fun s H C l fp => (hg s H C l fp).pg) (fun s H C l fp => (ht s H C l fp).pts) (fun s H C l fp => (he s H C l fp).pe) hs, fun g S o S' h q s H D w sl po => ?_⟩
  rcases bs_inv h with ⟨d, S1, h1, h⟩ | ⟨c, fs, h1, rfl⟩
  · cases h
    rcases bd_inv h1 with ⟨xs, S2, h2, h⟩ | ⟨c, fs, h2, e⟩
    · cases h
      refine lc_post hv ei h2 w sl fun q1 H1 L vs g1 w1 h0 hL hn d1 => ?_
      have e1 : (S2 ++ [MO.lst xs]).length = S2.length + 1 := by rw [List.length_append, List.length_singleton]
      have gr : Gr q S.length H (put q1 S2.length L) (S2 ++ [MO.lst xs]).length H1 := by rw [e1]; exact g1.adopt h0
      refine po (put q1 S2.length L) H1 _ gr (w1.adopt hn ⟨vs, hL, d1.mono .adopt⟩) ((sl.mono gr).set i ?_)
      rw [e1]
      have := Dt.ptr (K := X.K) (q := put q1 S2.length L) (n := S2.length + 1) (H := H1) (m := S2.length) (Nat.lt_succ_self _)
      rw [put_eq] at this
      exact this
    · cases e
  · rcases bd_inv h1 with ⟨xs, S2, h2, h⟩ | ⟨c, fs, h2, e⟩
    · cases h
    · cases e
      exact lc_post hv ei h2 w sl po
end
end U

set_option Elab.async false
set_option linter.all false
set_option maxRecDepth 100000
set_option maxHeartbeats 1000000
namespace U
open PySem L2
/-! ### defs -/
abbrev DM := List D → ST → Option (Rs D × ST)
def spM (K : Fr) (cl : Cl) (n : Nat) (m : DM) : Sp := fun vs H Q E => vs.length = n ∧ ∃ q S ds r S', Wd K q S H ∧ Dts K q S.length H vs ds ∧ m ds S = some (r, S') ∧ Post K cl q S.length H E Q r S'
/-- what a def's body hands back -/
def fin (x : Option (Out × ST)) : Option (Rs D × ST) := match x with
  | some (.rt d, S) => some (.ok d, S)
  | some (.nx _, S) => some (.ok .non, S)
  | some (.ex c fs, S) => some (.ex c fs, S)
  | _ => none
def slots (n : Nat) (ds : List D) : EV := ds.map some ++ List.replicate (n - ds.length) none
def mkD (n : Nat) (body : SM) : DM := fun ds S => fin (body (slots n ds) S)
theorem sl_start {K : Fr} {q : Nat → Addr} {n : Nat} {H : Hp} {N : List Str} {vs : List V} {ds : List D} (r : Dts K q n H vs ds) : Sl K q n H (L2.start N vs) (slots N.length ds) := by
  have hl := r.length
  refine ⟨by simp [L2.start, slots, hl], fun i d e => ?_⟩
  unfold slots at e
  unfold L2.start
  by_cases hi : i < ds.length
  · rw [List.getElem?_append_left (by simpa using hi), List.getElem?_map] at e
    rw [List.getElem?_append_left (by simp [hl, hi]), List.getElem?_map]
    cases e1 : ds[i]? with
    | none => rw [e1] at e; cases e
    | some x =>
      rw [e1] at e
      cases e
      obtain ⟨v, e2, r2⟩ := r.get e1
      exact ⟨v, by rw [e2]; rfl, r2⟩
  · rw [List.getElem?_append_right (by simpa using hi)] at e
    exfalso
    rw [List.getElem?_replicate] at e
    split at e <;> cases e
/-! ### a def whose callers stand in no text-making: room, promise, run -/
structure RoomG (k : Nat) (A : Around) : Prop extends Room k A where
  gd : A.guards = some []
theorem RoomG.mono {j k : Nat} {A : Around} (r : RoomG k A) (h : j ≤ k) : RoomG j A := ⟨Room.mono r.toRoom h, r.gd⟩
theorem RoomG.units {k : Nat} {A : Around} (r : RoomG k A) : A.units + 64 < cLine := r.toRoom.units
theorem RoomG.down {k : Nat} {A : Around} (r : RoomG (k + 1) A) (env : Env) : RoomG k (A.deeper env) := ⟨r.toRoom.deeper env, r.gd⟩
structure FnG (P : Program) (w : World) (K : Fr) (mg : Str → Option Value) (base : Heap) (CX : CXT) (k : Nat) (f : Addr) (fd : FuncData) (ps : List Str) (sp : Sp) : Prop where
  len : ∀ vs H Q E, sp vs H Q E → vs.length = ps.length
  run : ∀ (A : Around) (outer : List Env) (s : Shared) (H : Hp) (args : Args) (us : List Value) (vs : List V) (Q : VK) (E : XK), RoomG k A → Env0 P w K mg base A outer s H → BindsTo s fd args (ps.zip us) → Vals vs us → sp vs H Q E → codeAny (model P w) A (.call (.ref f) args) (CR CX outer P w H s Q E) s
section
open PySem.Spec PyProof.Rows
theorem fng_of {CX : CXT} {P : Program} {w : World} {K : Fr} {mg : Str → Option Value} {base : Heap} {k : Nat} {f : Addr} {name qual : Str} {params : Arguments} {body : List Stmt} {scope : Scope} {dvs : List V} {kws : List (Str × V)} {fd : FuncData} {N ps : List Str} {sp : Sp} (F : FunD K name qual params body scope dvs kws f fd) (S : FnScope N ps scope) (len : ∀ vs H Q E, sp vs H Q E → vs.length = ps.length)
    (hb : ∀ (cdv : Value) (A : Around) (outer : List Env) (s : Shared) (H : Hp) (vs : List V) (Q : VK) (E : XK), RoomG k (A.deeper (envOfC qual scope s.heap.objs.size f cdv)) → sp vs H Q E → ∃ t, PSs (cxOf CX P w K mg base N qual scope f cdv A outer s H E) body t ∧ t { nx := fun _ H' => Q .non H', rt := Q } (start N vs) H) : FnG P w K mg base CX (k + 1) f fd ps sp := by
  obtain ⟨oc, od, dV, kV, doc, pm, an, cdv, ct, osl, rfl, lk, hcd, _, _⟩ := F.ex
  constructor
  · exact len
  · intro A outer s H args us vs Q E hr e0 hbd r hsp
    have hl := len vs H Q E hsp
    have kp : ∀ b o, base.get? b = some o → s.heap.get? b = some o := fun b o e => (e0.bs b o e).1
    have KX := e0.mod.kin.keeps kp
    have hk : ∀ y ∈ ps.zip us, scope.names.lookup y.1 = some .local ∨ (scope.names.lookup y.1 = some .cell ∧ ((cellsFrom (s.heap.objs.size + 1) scope.names []).lookup y.1).isSome = true) := by
      rintro ⟨n, v⟩ hy
      exact (S.par n (List.of_mem_zip hy).1).elim (fun q => .inl q) fun q => .inr ⟨q, PySem.W.cellsFrom_some _ _ _ (.inl q)⟩
    refine codeAny_call_function hr.toRoom.depth (KX _ _ lk) rfl S.co S.gen rfl (PySem.W.codeRec_of KX hcd) (hbd _ _ _ _ (wpAny_newFunctionEnv_cells S.kind hk ?_))
    rintro env rfl s1 x
    refine ⟨(e0.mod.nolimit.keeps kp).keeps x.toInCall.keep, codeAny_func ?_⟩
    obtain ⟨t, ht, hq⟩ := hb cdv A outer s H vs Q E (hr.down _) hsp
    refine wpAny_mono (ht.run [] s1 (start N vs) H _ (inv_start S hr.hd e0 hl r x) hq) (fun fl s' hs => ?_) fun e s' hs => hs
    cases fl with
    | ret u => obtain ⟨v, σ', H', J, rv, q⟩ := hs; exact ⟨v, H', J.os, J.bare, J.base, J.hok, rv, q⟩
    | next => obtain ⟨σ', H', J, q⟩ := hs; exact ⟨.non, H', J.os, J.bare, J.base, J.hok, rfl, q⟩
    | brk => exact hs.elim fun _ ⟨_, _, q⟩ => q.elim
    | cont => exact hs.elim fun _ ⟨_, _, q⟩ => q.elim
section
variable {X : Cx} {CX : CXT} {k : Nat} {f : Addr} {fd : FuncData} {ps : List Str} {sp : Sp} {E : XK} {x : Str} {p pos : Pos} {e : Expr} {es : List Expr} {t : TA}
theorem rung {pins : List (Addr × Obj)} {σ : L2.St} {H : Hp} {s : Shared} {Q : VK} {us : List Value} {vs : List V} {args : Args} (F : FnG X.prog X.w X.K X.mg X.base CX k f fd ps sp) (hr : RoomG k X.A) (hx : Passes CX X E) (I : Inv X pins σ H s) (hb : BindsTo s fd args (ps.zip us)) (r : Vals vs us) (h : sp vs H Q E) :
    wpAny (model X.prog X.w) X.A (call (.ref f) args.pos args.kw) (EP X pins σ Q) X.xe s := by
  refine wpAny_call (codeAny_mono (F.run X.A X.stack s H args us vs Q E hr I.env0 hb r h) ?_)
  rintro (e | fl) s' hq
  · exact hx pins σ H s e s' I hq
  · cases fl with
    | ret u => exact I.after hq
    | next => exact hq.elim
    | brk => exact hq.elim
    | cont => exact hq.elim
theorem peg_call (F : FnG X.prog X.w X.K X.mg X.base CX k f fd ps sp) (hr : RoomG k X.A) (hg : Gl X x) (hm : X.mg x = some (.ref f)) (hk : PySem.W.keepIn X.K (.ref f) = true) (hb : Binds X.K fd ps []) (hx : Passes CX X E) (ha : PA X (e :: es) t) (hdb : (x == ("__debug__" : Str)) = false)
    (he : starEach (e :: es) X.env = (false, eval e X.env) :: starEach es X.env) (hpl : (backTo pos (starEach es X.env)).any (·.1) = false) : PE X (.Call (.Name x p) (e :: es) [] pos) (tCall sp [] E t) := by
  constructor
  intro pins s σ H Q I h
  refine wpAny_Call_Name_kw (ld_glob I hg hm (PySem.W.callWith_K (h₀ := X.base) I.ok.mod.kin hk (thn (ha.run pos pins s σ H _ I h) ?_) he hpl) hdb)
  rintro us s1 ⟨vs, H1, I1, r, q⟩
  rw [List.append_nil] at q
  have b := hb s1 us I1.kIn (by rw [List.append_nil, ← r.length]; exact F.len vs H1 Q E q)
  rw [List.append_nil] at b
  exact ⟨I1.kIn, rung F hr hx I1 b r q⟩
theorem peg_call0 (F : FnG X.prog X.w X.K X.mg X.base CX k f fd ps sp) (hr : RoomG k X.A) (hg : Gl X x) (hm : X.mg x = some (.ref f)) (hk : PySem.W.keepIn X.K (.ref f) = true) (hb : Binds X.K fd ps []) (hx : Passes CX X E) (hdb : (x == ("__debug__" : Str)) = false) : PE X (.Call (.Name x p) [] [] pos) (tCall sp [] E tNil) := by
  constructor
  intro pins s σ H Q I h
  have q : sp [] H Q E := h
  have b := hb s [] I.kIn (by rw [List.append_nil]; exact F.len [] H Q E q)
  rw [List.append_nil] at b
  refine wpAny_Call_Name_kw (ld_glob I hg hm ?_ hdb)
  exact PySem.W.callWith_K0 I.kIn hk (rung F hr hx I b .nil q)
end
end
/-- the def that the name x holds keeps its mirror m, calls j deep -/
def OkA (P : Program) (w : World) (K : Fr) (mg : Str → Option Value) (base : Heap) (cl : Cl) (x : Str) (j : Nat) (ps : List Str) (m : DM) (f : Addr) (fd : FuncData) : Prop :=
  FnG P w K mg base (L2.CX P w) j f fd ps (spM K cl ps.length m) ∧ mg x = some (.ref f) ∧ PySem.W.keepIn K (.ref f) = true ∧ Binds K fd ps []
def Okf (P : Program) (w : World) (K : Fr) (mg : Str → Option Value) (base : Heap) (cl : Cl) (x : Str) (j : Nat) (ps : List Str) (m : DM) : Prop :=
  ∃ f fd, OkA P w K mg base cl x j ps m f fd
section
variable {P : Program} {w : World} {K : Fr} {mg : Str → Option Value} {base : Heap} {cl : Cl}
theorem fn_mk {x qual : Str} {params : Arguments} {body : List Stmt} {scope : Scope} {dvs : List V} {kws : List (Str × V)} {f : Addr} {fd : FuncData} {N ps : List Str} {k : Nat} {mb : SM} (F : FunD K x qual params body scope dvs kws f fd) (S : FnScope N ps scope)
    (hb : ∀ (cdv : Value) (A : Around) (outer : List Env) (s : Shared) (H : Hp) (E : XK), RoomG k (A.deeper (PyProof.Rows.envOfC qual scope s.heap.objs.size f cdv)) → ESs (cxOf (L2.CX P w) P w K mg base N qual scope f cdv A outer s H E) cl E body mb) :
    FnG P w K mg base (L2.CX P w) (k + 1) f fd ps (spM K cl ps.length (mkD N.length mb)) := by
  refine fng_of F S (fun vs H Q E h => h.1) fun cdv A outer s H vs Q E hr h => ?_
  obtain ⟨t, pt, et⟩ := hb cdv A outer s H E hr
  refine ⟨t, pt, ?_⟩
  obtain ⟨hl, q, S, ds, r, S', wd, dd, hm, po⟩ := h
  unfold mkD fin at hm
  split at hm
  · rename_i d S1 hb
    cases hm
    exact et _ S _ _ hb q _ H _ wd (sl_start dd) fun q1 H1 v g1 w1 d1 => po q1 H1 v g1 w1 d1
  · rename_i g S1 hb
    cases hm
    exact et _ S _ _ hb q _ H _ wd (sl_start dd) fun q1 H1 s1 g1 w1 sl1 => po q1 H1 .non g1 w1 .non
  · rename_i c fs S1 hb
    cases hm
    exact et _ S _ _ hb q _ H _ wd (sl_start dd) po
  · cases hm
theorem okf_mk {x qual : Str} {params : Arguments} {body : List Stmt} {scope : Scope} {kws : List (Str × V)} {f : Addr} {fd : FuncData} {N ps : List Str} {k : Nat} {mb : SM} (F : FunD K x qual params body scope [] kws f fd) (hm : mg x = some (.ref f)) (S : FnScope N ps scope)
    (hbn : ∀ (kV doc pm : Value) (an : Option Addr) (cdv ct : Value) (us : List Value), us.length = ps.length → bindArgs (PySem.W.fnOf x qual params body scope .none kV doc pm an cdv ct) ⟨us, []⟩ = pure (ps.zip us))
    (hb : ∀ (cdv : Value) (A : Around) (outer : List Env) (s : Shared) (H : Hp) (E : XK), RoomG k (A.deeper (PyProof.Rows.envOfC qual scope s.heap.objs.size f cdv)) → ESs (cxOf (L2.CX P w) P w K mg base N qual scope f cdv A outer s H E) cl E body mb) :
    OkA P w K mg base cl x (k + 1) ps (mkD N.length mb) f fd := ⟨fn_mk F S hb, hm, F.kp, F.bindsN hbn⟩
theorem OkA.okf {x : Str} {j : Nat} {ps : List Str} {m : DM} {f : Addr} {fd : FuncData} (h : OkA P w K mg base cl x j ps m f fd) : Okf P w K mg base cl x j ps m := ⟨f, fd, h⟩
end
/-! ### calls of them -/
section
variable {X : Cx} {cl : Cl} {E : XK} {e a b c : Expr} {es : List Expr} {pos p : Pos} {m ma mb : EM} {mr mk : AM} {x : Str} {j : Nat} {ps : List Str} {d : DM}
theorem spM_ca {K : Fr} {n : Nat} (hn : ∀ ds S r S', d ds S = some (r, S') → ds.length = n) : CaE K cl E (fun vs H Q => spM K cl n d (vs ++ []) H Q E) d := by
  intro xs S z S' h q H vs Q w hx po
  refine ⟨by rw [List.append_nil, hx.length]; exact hn xs S z S' h, q, S, xs, z, S', w, by rw [List.append_nil]; exact hx, h, ?_⟩
  cases z with
  | ok d => exact fun q' H' v g' w' hd => .inl (po q' H' v g' w' hd)
  | ex c fs => exact po
/-- the mirror asks as many things as there are parameters -/
def Ar (n : Nat) (d : DM) : DM := fun ds S => if ds.length = n then d ds S else none
theorem Ar.len {n : Nat} {ds : List D} {S S' : ST} {r : Rs D} (h : Ar n d ds S = some (r, S')) : ds.length = n := by
  unfold Ar at h
  split at h
  · assumption
  · cases h
theorem Ar.get {n : Nat} {ds : List D} {S S' : ST} {r : Rs D} (h : Ar n d ds S = some (r, S')) : d ds S = some (r, S') := by
  unfold Ar at h
  split at h
  · exact h
  · cases h
theorem ee_call (F : Okf X.prog X.w X.K X.mg X.base cl x j ps d) (hr : RoomG j X.A) (hx : Passes (L2.CX X.prog X.w) X E) (ha : EA X cl E (e :: es) mr) (hg : Gl X x := by rfl) (hdb : (x == ("__debug__" : Str)) = false := by decide)
    (he : starEach (e :: es) X.env = (false, eval e X.env) :: starEach es X.env := by rfl) (hpl : (backTo pos (starEach es X.env)).any (·.1) = false := by rfl) {nn : Nat} (hnn : ps.length = nn := by rfl) : EE X cl E (.Call (.Name x p) (e :: es) [] pos) (eCall (Ar nn d) mr) := by
  subst hnn
  obtain ⟨f, fd, F, hm, hk, hb⟩ := F
  obtain ⟨ta, pa, ea⟩ := ha
  refine ⟨_, peg_call F hr hg hm hk hb hx pa hdb he hpl, fun g S z S' h q s H Q w sl po => ?_⟩
  rcases bd_inv h with ⟨xs, S1, h1, h⟩ | ⟨c, fs, h1, rfl⟩
  · refine ea g S _ S1 h1 q s H _ w sl fun q1 H1 vs g1 w1 d1 => ?_
    exact ⟨by rw [List.append_nil, d1.length]; exact Ar.len h, q1, S1, xs, z, S', w1, by rw [List.append_nil]; exact d1, Ar.get h, po.to g1⟩
  · exact ea g S _ S' h1 q s H _ w sl (Post.ex (Q' := fun _ _ => False) po)
theorem ee_call0 (F : Okf X.prog X.w X.K X.mg X.base cl x j ps d) (hr : RoomG j X.A) (hx : Passes (L2.CX X.prog X.w) X E) (hg : Gl X x := by rfl) (hdb : (x == ("__debug__" : Str)) = false := by decide) {nn : Nat} (hnn : ps.length = nn := by rfl) : EE X cl E (.Call (.Name x p) [] [] pos) (eCall (Ar nn d) aNil) := by
  subst hnn
  obtain ⟨f, fd, F, hm, hk, hb⟩ := F
  refine ⟨_, peg_call0 F hr hg hm hk hb hx hdb, fun g S z S' h q s H Q w sl po => ?_⟩
  have h : Ar ps.length d [] S = some (z, S') := h
  exact ⟨Ar.len h, q, S, [], z, S', w, .nil, Ar.get h, po⟩
/-! the end of a law -/
theorem cx_false {P : Program} {w : World} {l : List Env} {H : Hp} {s : Shared} {u : Value} {s' : Shared} (h : L2.CX P w l H s (fun _ _ _ => False) u s') : False := by
  obtain ⟨_, _, _, _, _, _, _, _, _, _, _, _, z⟩ := h
  exact z
theorem dts_ints {K : Fr} {q : Nat → Addr} {n : Nat} {H : Hp} : ∀ ns : List Int, Dts K q n H (ns.map V.int) (ns.map D.int)
  | [] => .nil
  | i :: ns => .cons (.int i) (dts_ints ns)
theorem fzl_of {K : Fr} {H : Hp} {a : Addr} {xs : List V} (hO : Only H) (h : SqL K H a xs) : FzL K H a xs := by
  rcases h with (h | ⟨o, h⟩) | h
  · rcases hO a with z | ⟨o, ys, z⟩
    · rw [h] at z; cases z
    · rw [h] at z; cases z
  · exact .inl ⟨o, h⟩
  · exact .inr h
/-- from the mirror of the law to its promise -/
theorem law_sp {K : Fr} {cl : Cl} {d : DM} {H : Hp} {a : Addr} {ns : List Int} {S' : ST} (hO : Only H) (h : SqL K H a (ns.map V.int)) (hd : d [.kls (ns.map D.int)] [] = some (.ok (.bl true), S')) :
    spM K cl 1 d [.ref a] H (fun v _ => v = .bl true) fun _ _ _ => False :=
  ⟨rfl, fun _ => 0, [], _, _, S', ⟨fun m _ h => absurd h (Nat.not_lt_zero _), fun m o h => by simp at h⟩, .cons (.kls (fzl_of hO h) (dts_ints ns)) .nil, hd, fun q' H' v g w r => r.bl_inv⟩
end
end U

set_option Elab.async false
set_option linter.all false
set_option maxRecDepth 100000
set_option maxHeartbeats 1000000
namespace U
open PySem L2
/-! ### built-ins by their names -/
section
variable {X : Cx} {cl : Cl} {E : XK} {e a b c : Expr} {es : List Expr} {pos p : Pos} {m ma mb : EM} {mr : AM} {x : Str}
theorem ee_blt {id : String} {r : List V → Hp → VK → Prop} {f : List D → ST → Option (Rs D × ST)} (hc : CallR X (.builtin id) r) (hf : CaE X.K cl E r f) (hm : X.mg x = none) (hv : bootBuiltins x = some (.builtin id)) (ha : EA X cl E (e :: es) mr)
    (hg : Gl X x := by rfl) (hn : x ≠ "__name__" := by decide) (hdb : (x == ("__debug__" : Str)) = false := by decide) (he : starEach (e :: es) X.env = (false, eval e X.env) :: starEach es X.env := by rfl) (hpl : (backTo pos (starEach es X.env)).any (·.1) = false := by rfl) :
    EE X cl E (.Call (.Name x p) (e :: es) [] pos) (eCall f mr) := ee_callP hf ha fun ta pa => pe_callB hc hg hm hv pa hn hdb he hpl
theorem ee_ty {T : String} {r : List V → Hp → VK → Prop} {f : List D → ST → Option (Rs D × ST)} (hc : CallR X (.type T) r) (hf : CaE X.K cl E r f) (hm : X.mg x = none) (hv : bootBuiltins x = some (.type T)) (ha : EA X cl E (e :: es) mr)
    (hg : Gl X x := by rfl) (hn : x ≠ "__name__" := by decide) (hdb : (x == ("__debug__" : Str)) = false := by decide) (he : starEach (e :: es) X.env = (false, eval e X.env) :: starEach es X.env := by rfl) (hpl : (backTo pos (starEach es X.env)).any (·.1) = false := by rfl) :
    EE X cl E (.Call (.Name x p) (e :: es) [] pos) (eCall f mr) := ee_callP hf ha fun ta pa => pe_callTy hc hg hm hv pa hn hdb he hpl
theorem eo_ty {T : String} {r : List V → Hp → VK → Prop} {f : List D → ST → Option (Rs (List D) × ST)} (hc : CallR X (.type T) r) (hf : CaO X.K cl E r f) (hm : X.mg x = none) (hv : bootBuiltins x = some (.type T)) (ha : EA X cl E (e :: es) mr)
    (hg : Gl X x := by rfl) (hn : x ≠ "__name__" := by decide) (hdb : (x == ("__debug__" : Str)) = false := by decide) (he : starEach (e :: es) X.env = (false, eval e X.env) :: starEach es X.env := by rfl) (hpl : (backTo pos (starEach es X.env)).any (·.1) = false := by rfl) :
    EO X cl E (.Call (.Name x p) (e :: es) [] pos) (oCall f mr) := eo_callP hf ha fun ta pa => pe_callTy hc hg hm hv pa hn hdb he hpl
theorem eo_blt {id : String} {r : List V → Hp → VK → Prop} {f : List D → ST → Option (Rs (List D) × ST)} (hc : CallR X (.builtin id) r) (hf : CaO X.K cl E r f) (hm : X.mg x = none) (hv : bootBuiltins x = some (.builtin id)) (ha : EA X cl E (e :: es) mr)
    (hg : Gl X x := by rfl) (hn : x ≠ "__name__" := by decide) (hdb : (x == ("__debug__" : Str)) = false := by decide) (he : starEach (e :: es) X.env = (false, eval e X.env) :: starEach es X.env := by rfl) (hpl : (backTo pos (starEach es X.env)).any (·.1) = false := by rfl) :
    EO X cl E (.Call (.Name x p) (e :: es) [] pos) (oCall f mr) := eo_callP hf ha fun ta pa => pe_callB hc hg hm hv pa hn hdb he hpl
theorem ee_gint {i : Int} (h : ∃ t, X.mg x = some (.int i t)) (hg : Gl X x := by rfl) (hdb : (x == ("__debug__" : Str)) = false := by decide) : EE X cl E (.Name x pos) (eC (.int i)) := by
  obtain ⟨t, h⟩ := h
  exact ee_glob (v := .int i) hg h ⟨t, rfl⟩ (fun _ _ _ => .int i) hdb
theorem ee_gstr {i : Str} (h : ∃ t, X.mg x = some (.str i t)) (hg : Gl X x := by rfl) (hdb : (x == ("__debug__" : Str)) = false := by decide) : EE X cl E (.Name x pos) (eC (.str i)) := by
  obtain ⟨t, h⟩ := h
  exact ee_glob (v := .str i) hg h ⟨t, rfl⟩ (fun _ _ _ => .str i) hdb
end
theorem b_int : bootBuiltins "int" = some (.type "int") := by decide +kernel
theorem b_bool : bootBuiltins "bool" = some (.type "bool") := by decide +kernel
theorem b_str : bootBuiltins "str" = some (.type "str") := by decide +kernel
theorem b_tuple : bootBuiltins "tuple" = some (.type "tuple") := by decide +kernel
theorem b_list : bootBuiltins "list" = some (.type "list") := by decide +kernel
theorem b_dict : bootBuiltins "dict" = some (.type "dict") := by decide +kernel
theorem b_isi : bootBuiltins "isinstance" = some (.builtin "isinstance") := by decide +kernel
theorem b_len : bootBuiltins "len" = some (.builtin "len") := by decide +kernel
theorem b_all : bootBuiltins "all" = some (.builtin "all") := by decide +kernel
theorem b_any : bootBuiltins "any" = some (.builtin "any") := by decide +kernel
theorem b_abs : bootBuiltins "abs" = some (.builtin "abs") := by decide +kernel
theorem b_max : bootBuiltins "max" = some (.builtin "max") := by decide +kernel
theorem b_min : bootBuiltins "min" = some (.builtin "min") := by decide +kernel
/-! ### name, *name = a tuple -/
section
open PySem.Spec PyProof.Rows PySem.Calls
variable {prog : Program} {w : World} {A : Around} {E : Value → Shared → Prop} {s : Shared}
theorem star_tup {l : Addr} {items : Array Value} {n i : Nat} {Q : List Value → Shared → Prop} (hl : PyProof.Rows.IsTup s.heap l items) (hh : A.handled = none) (hi : i < n) (hn : n ≤ items.size + 1) (hz : items.size ≤ 16384)
    (h : ∀ h' tk, Heap.ExtBut s.heap.objs.size s.heap h' → Q (items.toList.take i ++ [.ref h'.objs.size] ++ (items.toList.drop i).drop (items.size + 1 - n)) { s with heap := h'.push { cls := .type "list", data := .seq ((items.toList.drop i).take (items.size + 1 - n)).toArray }, toks := tk }) :
    wpAny (model prog w) A (unpackItems (.ref l) n (some i)) Q E s := by
  have hlt : l ≠ s.heap.objs.size := by obtain ⟨o, ho, _⟩ := hl; exact Nat.ne_of_lt (Heap.lt_size ho)
  unfold unpackItems
  refine wpAny_bind ?_
  unfold notIterableAtAll
  refine wpAny_bind (wpAny_specialOf hl.typeIs slot_tuple_iter.lookup ?_)
  refine wpAny_pure ?_
  simp only [Bool.false_eq_true, if_false]
  refine wpAny_bind (wpAny_holding (PyProof.Rows.iter_tuple hl ?_))
  refine wpAny_bind (wpAny_holding (PyProof.Rows.draw_tuple hlt i 0 _ _ ⟨_, Heap.get?_push_size _ rfl, rfl, rfl⟩ (hl.push _) (by omega) fun h1 hit1 hs1 => ?_))
  have hl1 : PyProof.Rows.IsTup h1 l items := (hl.push _).extBut hs1.extBut hlt
  rw [Nat.zero_add] at hit1
  obtain ⟨oi, hoi, _⟩ := id hit1
  obtain ⟨ol, hol, _⟩ := id hl1
  rw [List.drop_zero]
  have hfl : (items.toList.take i).length = i := by rw [List.length_take, Array.length_toList]; omega
  rw [if_neg (show ¬ ((items.toList.take i).length < i) by rw [hfl]; omega)]
  refine wpAny_bind (wpAny_holding (PySem.W.kun_collect (s := { s with heap := h1 }) (T := "tuple_iterator") (.inr (.inr (.inr rfl))) (Walks.tuple (A := A.in1) hh s.heap.objs.size l hlt items) (fun j u st => st.1.typeIs) (k := i) (by omega) ⟨hit1, hl1⟩ (Heap.lt_size hoi) (Heap.lt_size hol) (fun h2 tk hk => ?_) (by rw [sizeLine_eq]; omega)))
  have hrl : (items.toList.drop i).length = items.size - i := by rw [List.length_drop, Array.length_toList]
  have hmid : (items.toList.drop i).length - (n - 1 - i) = items.size + 1 - n := by rw [hrl]; omega
  show wpAny _ _ (if (items.toList.drop i).length < n - 1 - i then _ else _) _ _ _
  rw [if_neg (by rw [hrl]; omega)]
  show wpAny _ _ (newList ((items.toList.drop i).take ((items.toList.drop i).length - (n - 1 - i))) >>= fun d => pure (items.toList.take i ++ [d] ++ (items.toList.drop i).drop ((items.toList.drop i).length - (n - 1 - i)))) _ _ _
  rw [hmid]
  have he : Heap.ExtBut s.heap.objs.size s.heap h2 := fun b o hb e => hk b o hb (hs1.extBut b o hb (Heap.get?_push_of_some _ e))
  exact wpAny_bind (wpAny_newList (s := { s with heap := h2, toks := tk }) (wpAny_pure (h h2 tk he)) (by rw [List.length_take, hrl, sizeLine_eq]; omega))
end
section
open PyProof.Rows (assign_Tuple)
variable {X : Cx} {pos px py ps : Pos} {x y : Str} {k : Nat}
def gStarT (K : Fr) (i j : Nat) : TG := fun v s H Q => ∃ a z zs, v = .ref a ∧ SqT K H a (z :: zs) ∧ zs.length ≤ 16000 ∧ ∀ p, H p = none → ∀ o, Q ((s.set i (some z)).set j (some (.ref p))) (upd H p (.frz o (.lst zs)))
theorem pg_star (i j : Nat) (hc : X.calm = true) (hN : X.N.Nodup) (hi : X.N[i]? = some x) (hj : X.N[j]? = some y) (hx : Loc X.env.scope x) (hy : Loc X.env.scope y) (fx : X.fn x = true ∨ X.env.scope.names.lookup x = some .local) (fy : X.fn y = true ∨ X.env.scope.names.lookup y = some .local) :
    PG X (.Tuple [.Name x px, .Starred (.Name y py) ps] k pos) (gStarT X.K i j) := by
  refine ⟨fun pins s σ H v u Q I r hw => ?_⟩
  obtain ⟨a, z, zs, rfl, hq, hl, q⟩ := hw
  cases r
  obtain ⟨its, rv, ht, hz⟩ := I.tuple hq
  cases rv with
  | @cons _ uz _ uzs rz rzs =>
    have l1 := rzs.length
    rw [assign_Tuple]
    refine wpAny_bind (wpAny_standAt ?_)
    have e1 : (assignEach [.Name x px, .Starred (.Name y py) ps] X.env) = [(false, assign (.Name x px) X.env), (true, assign (.Name y py) X.env)] := rfl
    unfold unpack
    rw [e1]
    show wpAny _ _ (holding [.ref a] (unpackItems (.ref a) 2 (some 1)) >>= fun items => assignInOrder [assign (.Name x px) X.env, assign (.Name y py) X.env] items) _ _ _
    refine wpAny_bind (wpAny_holding (star_tup ht (I.ok.hd hc) (by decide) (by rw [List.size_toArray]; simp) (by rw [List.size_toArray]; simp; omega) fun h' tk he => ?_))
    have e2 : List.take 1 (uz :: uzs).toArray.toList ++ [.ref h'.objs.size] ++ List.drop ((uz :: uzs).toArray.size + 1 - 2) (List.drop 1 (uz :: uzs).toArray.toList) = [uz, .ref h'.objs.size] := by simp
    have e3 : List.take ((uz :: uzs).toArray.size + 1 - 2) (List.drop 1 (uz :: uzs).toArray.toList) = uzs := by simp
    rw [e2, e3]
    have I1 : Inv X pins σ H { s with heap := h', toks := tk } := I.kept fun b o e => he b o (Nat.ne_of_lt (Heap.lt_size e)) e
    have I2 := I1.lnew (t' := tk) rzs (by rw [sizeLine_eq]; omega)
    obtain ⟨o, I3⟩ := inv_shut I2 upd_same (.inl ⟨zs, rfl⟩)
    rw [upd_upd] at I3
    refine PyProof.Rows.assignInOrder_cons (wpAny_assign_Name (store_ok I3 hN hi hx rz (fun s4 I4 => ?_) fx))
    refine PyProof.Rows.assignInOrder_cons (wpAny_assign_Name (store_ok (v := .ref h'.objs.size) I4 hN hj hy rfl (fun s5 I5 => PyProof.Rows.assignInOrder_nil ?_) fy))
    exact ⟨_, _, I5, q _ I1.fresh o⟩
def gStar (i j : Nat) : GM := fun d g S => match d with
  | .tup (x :: xs) => if xs.length ≤ 16000 then some ((g.set i (some x)).set j (some (.lst xs)), S) else none
  | _ => none
theorem eg_star (i j : Nat) (hc : X.calm = true) (hN : X.N.Nodup) (hi : X.N[i]? = some x := by rfl) (hj : X.N[j]? = some y := by rfl) (hx : Loc X.env.scope x := by first | exact Or.inl rfl | exact Or.inr rfl) (hy : Loc X.env.scope y := by first | exact Or.inl rfl | exact Or.inr rfl)
    (fx : X.fn x = true ∨ X.env.scope.names.lookup x = some .local := by first | exact .inl rfl | exact .inr rfl) (fy : X.fn y = true ∨ X.env.scope.names.lookup y = some .local := by first | exact .inl rfl | exact .inr rfl) :
    EG X (.Tuple [.Name x px, .Starred (.Name y py) ps] k pos) [i, j] (gStar i j) := by
  refine ⟨_, pg_star i j hc hN hi hj hx hy fx fy, fun d g S g' S' h q s H v Q w sl hd kk => ?_⟩
  unfold gStar at h
  split at h
  · split at h
    · rename_i hl
      cases h
      obtain ⟨a, vs, rfl, sq, r⟩ := hd.tup_inv
      cases r with
      | cons r1 r2 =>
        have l2 := r2.length
        refine ⟨a, _, _, rfl, sq, by omega, fun p hp o => ?_⟩
        refine kk q _ _ (Gr.new hp) (w.new hp) (((sl.mono (Gr.new hp)).set i (r1.mono (Gr.new hp).ge)).set j (.lst (o := o) upd_same (r2.mono (Gr.new hp).ge))) ⟨by simp, fun z hz => ?_⟩
        simp only [List.mem_cons, List.not_mem_nil, or_false, not_or] at hz
        rw [List.getElem?_set_ne (Ne.symm hz.2), List.getElem?_set_ne (Ne.symm hz.1)]
    · cases h
  · cases h
/-! ### a, b = a tuple of two -/
def gTwo (i j : Nat) : GM := fun d g S => match d with
  | .tup [x, y] => some ((g.set i (some x)).set j (some y), S)
  | _ => none
theorem eg_two (i j : Nat) (hc : X.calm = true) (hN : X.N.Nodup) (hi : X.N[i]? = some x := by rfl) (hj : X.N[j]? = some y := by rfl) (hx : Loc X.env.scope x := by first | exact Or.inl rfl | exact Or.inr rfl) (hy : Loc X.env.scope y := by first | exact Or.inl rfl | exact Or.inr rfl)
    (fx : X.fn x = true ∨ X.env.scope.names.lookup x = some .local := by first | exact .inl rfl | exact .inr rfl) (fy : X.fn y = true ∨ X.env.scope.names.lookup y = some .local := by first | exact .inl rfl | exact .inr rfl) :
    EG X (.Tuple [.Name x px, .Name y py] k pos) [i, j] (gTwo i j) := by
  refine ⟨_, pg_tup (n := 2) hc (pgs_cons (pg_name (i := i) hN hi hx fx) (pgs_cons (pg_name (i := j) hN hj hy fy) pgs_nil)), fun d g S g' S' h q s H v Q w sl hd kk => ?_⟩
  unfold gTwo at h
  split at h
  · cases h
    obtain ⟨a, vs, rfl, sq, r⟩ := hd.tup_inv
    obtain ⟨u1, u2, rfl, r1, r2⟩ := dts2 r
    refine ⟨a, _, rfl, sq, rfl, u1, [u2], rfl, u2, [], rfl, rfl, ?_⟩
    refine kk q H _ Gr.refl w ((sl.set i r1).set j r2) ⟨by simp, fun z hz => ?_⟩
    simp only [List.mem_cons, List.not_mem_nil, or_false, not_or] at hz
    rw [List.getElem?_set_ne (Ne.symm hz.2), List.getElem?_set_ne (Ne.symm hz.1)]
  · cases h
end
/-! ### f(k = v) -/
structure EK (X : Cx) (cl : Cl) (E : XK) (es : List Keyword) (m : AM) : Prop where
  ex : ∃ ta, PK X es ta ∧ ∀ g S r S', m g S = some (r, S') → ∀ q s H Q, Wd X.K q S H → Sl X.K q S.length H s g → PostA X.K cl q S.length H E Q r S' → ta s H Q
section
variable {X : Cx} {cl : Cl} {E : XK} {e a b c : Expr} {es : List Expr} {kws : List Keyword} {pos p kpos : Pos} {m ma mb : EM} {mr mk : AM} {x : Str} {nm : Option Str} {d : DM} {ps ks : List Str} {j n : Nat}
theorem ek_nil : EK X cl E [] aNil := by
  refine ⟨tNil, pk_nil, fun g S z S' h q s H Q w sl po => ?_⟩
  cases h
  exact po q H [] Gr.refl w .nil
theorem ek_cons (ha : EE X cl E e ma) (hr : EK X cl E kws mr) : EK X cl E (⟨nm, e, kpos⟩ :: kws) (aCons ma mr) := by
  obtain ⟨ta, pa, ea⟩ := ha
  obtain ⟨tr, pr, er⟩ := hr
  refine ⟨tCons ta tr, pk_cons pa pr, fun g S z S' h q s H Q w sl po => ?_⟩
  rcases bd_inv h with ⟨x, S1, h1, h⟩ | ⟨c, fs, h1, rfl⟩
  · refine ea g S _ S1 h1 q s H _ w sl fun q1 H1 vx g1 w1 d1 => ?_
    rcases bd_inv h with ⟨y, S2, h2, h⟩ | ⟨c, fs, h2, rfl⟩
    · cases h
      refine er g S1 _ _ h2 q1 s H1 _ w1 (sl.mono g1) fun q2 H2 vy g2 w2 d2 => ?_
      exact po q2 H2 (vx :: vy) (g1.trans g2) w2 (.cons (d1.mono g2.ge) d2)
    · exact er g S1 _ S' h2 q1 s H1 _ w1 (sl.mono g1) (Post.to (Q := fun _ _ => False) (r := .ex c fs) g1 po)
  · exact ea g S _ S' h1 q s H _ w sl (Post.ex (Q := fun _ _ => False) po)
/-- the def behind x, called with n positional things and the keywords ks: gV, gD put them in their order -/
def Okk (P : Program) (w : World) (K : Fr) (mg : Str → Option Value) (base : Heap) (cl : Cl) (x : Str) (j : Nat) (ps : List Str) (m : DM) (n : Nat) (ks : List Str) (gD : List D → List D → List D) : Prop :=
  ∃ f fd gv gV, FnG P w K mg base (L2.CX P w) j f fd ps (spM K cl ps.length m) ∧ mg x = some (.ref f) ∧ PySem.W.keepIn K (.ref f) = true ∧ KBn K fd ps n ks gv gV ∧
    ∀ q N H vs zs ds es, vs.length = n → zs.length = ks.length → Dts K q N H vs ds → Dts K q N H zs es → Dts K q N H (gV vs zs) (gD ds es)
section
open PyProof.Rows
theorem peg_callN0 {CX : CXT} {k : Nat} {f : Addr} {fd : FuncData} {sp : Sp} {E : XK} {tk : TA} {gv : List Value → List Value → List Value} {gV : List V → List V → List V} (F : FnG X.prog X.w X.K X.mg X.base CX k f fd ps sp) (hr : RoomG k X.A) (hg : Gl X x) (hm : X.mg x = some (.ref f)) (hk : PySem.W.keepIn X.K (.ref f) = true) (hb : KBn X.K fd ps 0 ks gv gV) (hx : Passes CX X E) (hkw : PK X kws tk)
    (hall : (backToKw pos (keywordEach kws X.env)).all (·.1.isSome) = true) (hks : (backToKw pos (keywordEach kws X.env)).filterMap (·.1) = ks) (hdb : (x == ("__debug__" : Str)) = false) (hpl : ((backTo pos (starEach [] X.env)).any (·.1) || (backToKw pos (keywordEach kws X.env)).any (·.1.isNone)) = false) : PE X (.Call (.Name x p) [] kws pos) (tCallN 0 ks.length sp gV E tNil tk) := by
  constructor
  intro pins s σ H Q I h
  refine wpAny_Call_Name_kw (ld_glob I hg hm (PySem.W.callWith_KW0 (h₀ := X.base) I.ok.mod.kin hk hall (thn (hkw.run pos pins s σ H _ I h) ?_) hpl) hdb)
  rintro ws s2 ⟨zs, H2, I2, rz, l1, l2, q2⟩
  rw [hks]
  exact ⟨I2.kIn, rung (args := ⟨[], ks.zip ws⟩) F hr hx I2 (hb.to s2 [] ws I2.kIn rfl (rz.length.symm.trans l2)) (hb.rel .nil rz) q2⟩
theorem peg_callN {CX : CXT} {k n : Nat} {f : Addr} {fd : FuncData} {sp : Sp} {E : XK} {t tk : TA} {e : Expr} {es : List Expr} {gv : List Value → List Value → List Value} {gV : List V → List V → List V} (F : FnG X.prog X.w X.K X.mg X.base CX k f fd ps sp) (hr : RoomG k X.A) (hg : Gl X x) (hm : X.mg x = some (.ref f)) (hk : PySem.W.keepIn X.K (.ref f) = true) (hb : KBn X.K fd ps n ks gv gV) (hx : Passes CX X E) (ha : PA X (e :: es) t) (hkw : PK X kws tk)
    (hall : (backToKw pos (keywordEach kws X.env)).all (·.1.isSome) = true) (hks : (backToKw pos (keywordEach kws X.env)).filterMap (·.1) = ks) (hdb : (x == ("__debug__" : Str)) = false) (he : starEach (e :: es) X.env = (false, eval e X.env) :: starEach es X.env) (hpl : ((backTo pos (starEach (e :: es) X.env)).any (·.1) || (backToKw pos (keywordEach kws X.env)).any (·.1.isNone)) = false) : PE X (.Call (.Name x p) (e :: es) kws pos) (tCallN n ks.length sp gV E t tk) := by
  constructor
  intro pins s σ H Q I h
  refine wpAny_Call_Name_kw (ld_glob I hg hm (PySem.W.callWith_KW (h₀ := X.base) I.ok.mod.kin hk hall (thn (ha.run pos pins s σ H _ I h) ?_) hpl he) hdb)
  rintro us s1 ⟨vs, H1, I1, r, q⟩
  refine thn (hkw.run pos pins s1 σ H1 _ I1 q) ?_
  rintro ws s2 ⟨zs, H2, I2, rz, l1, l2, q2⟩
  rw [hks]
  exact ⟨I2.kIn, rung (args := ⟨us, ks.zip ws⟩) F hr hx I2 (hb.to s2 us ws I2.kIn (r.length.symm.trans l1) (rz.length.symm.trans l2)) (hb.rel r rz) q2⟩
end
def eCallK (n k : Nat) (gD : List D → List D → List D) (d : DM) (a b : AM) : EM := fun g S => bd (a g S) fun xs S1 => bd (b g S1) fun zs S2 => if xs.length = n ∧ zs.length = k then d (gD xs zs) S2 else none
theorem ee_callK {kn pn : Nat} {gD : List D → List D → List D} (F : Okk X.prog X.w X.K X.mg X.base cl x j ps d n ks gD) (hl : ∀ ds es, ds.length = n → es.length = kn → (gD ds es).length = pn) (hr : RoomG j X.A) (hx : Passes (L2.CX X.prog X.w) X E) (ha : EA X cl E (e :: es) mr) (hk : EK X cl E kws mk) (hg : Gl X x := by rfl)
    (hall : (backToKw pos (keywordEach kws X.env)).all (·.1.isSome) = true := by rfl) (hks : (backToKw pos (keywordEach kws X.env)).filterMap (·.1) = ks := by rfl) (hdb : (x == ("__debug__" : Str)) = false := by decide)
    (he : starEach (e :: es) X.env = (false, eval e X.env) :: starEach es X.env := by rfl) (hpl : ((backTo pos (starEach (e :: es) X.env)).any (·.1) || (backToKw pos (keywordEach kws X.env)).any (·.1.isNone)) = false := by rfl) (hkn : ks.length = kn := by rfl) (hpn : ps.length = pn := by rfl) :
    EE X cl E (.Call (.Name x p) (e :: es) kws pos) (eCallK n kn gD d mr mk) := by
  subst hkn hpn
  obtain ⟨f, fd, gv, gV, F, hm, kp, hb, rel⟩ := F
  obtain ⟨ta, pa, ea⟩ := ha
  obtain ⟨tk, pk, ek⟩ := hk
  refine ⟨_, peg_callN F hr hg hm kp hb hx pa pk hall hks hdb he hpl, fun g S z S' h q s H Q w sl po => ?_⟩
  rcases bd_inv h with ⟨xs, S1, h1, h⟩ | ⟨c, fs, h1, rfl⟩
  · refine ea g S _ S1 h1 q s H _ w sl fun q1 H1 vs g1 w1 d1 => ?_
    rcases bd_inv h with ⟨zs, S2, h2, h⟩ | ⟨c, fs, h2, rfl⟩
    · refine ek g S1 _ S2 h2 q1 s H1 _ w1 (sl.mono g1) fun q2 H2 us g2 w2 d2 => ?_
      split at h
      · rename_i hh
        have l1 : vs.length = n := by rw [d1.length]; exact hh.1
        have l2 : us.length = ks.length := by rw [d2.length]; exact hh.2
        have dd := rel q2 S2.length H2 vs us xs zs l1 l2 (d1.mono g2.ge) d2
        exact ⟨l1, l2, by rw [dd.length]; exact hl xs zs hh.1 hh.2, q2, S2, _, z, S', w2, dd, h, po.to (g1.trans g2)⟩
      · cases h
    · exact ek g S1 _ S' h2 q1 s H1 _ w1 (sl.mono g1) (Post.ex (Q := Q) (Q' := fun _ _ => False) (po.to g1))
  · exact ea g S _ S' h1 q s H _ w sl (Post.ex (Q' := fun _ _ => False) po)
theorem ee_callK0 {kn pn : Nat} {gD : List D → List D → List D} (F : Okk X.prog X.w X.K X.mg X.base cl x j ps d 0 ks gD) (hl : ∀ ds es, ds.length = 0 → es.length = kn → (gD ds es).length = pn) (hr : RoomG j X.A) (hx : Passes (L2.CX X.prog X.w) X E) (hk : EK X cl E kws mk) (hg : Gl X x := by rfl)
    (hall : (backToKw pos (keywordEach kws X.env)).all (·.1.isSome) = true := by rfl) (hks : (backToKw pos (keywordEach kws X.env)).filterMap (·.1) = ks := by rfl) (hdb : (x == ("__debug__" : Str)) = false := by decide)
    (hpl : ((backTo pos (starEach [] X.env)).any (·.1) || (backToKw pos (keywordEach kws X.env)).any (·.1.isNone)) = false := by rfl) (hkn : ks.length = kn := by rfl) (hpn : ps.length = pn := by rfl) :
    EE X cl E (.Call (.Name x p) [] kws pos) (eCallK 0 kn gD d aNil mk) := by
  subst hkn hpn
  obtain ⟨f, fd, gv, gV, F, hm, kp, hb, rel⟩ := F
  obtain ⟨tk, pk, ek⟩ := hk
  refine ⟨_, peg_callN0 F hr hg hm kp hb hx pk hall hks hdb hpl, fun g S z S' h q s H Q w sl po => ?_⟩
  rcases bd_inv h with ⟨xs, S1, h1, h⟩ | ⟨c, fs, h1, rfl⟩
  · cases h1
    rcases bd_inv h with ⟨zs, S2, h2, h⟩ | ⟨c, fs, h2, rfl⟩
    · refine ek g S _ S2 h2 q s H _ w sl fun q2 H2 us g2 w2 d2 => ?_
      split at h
      · rename_i hh
        have l2 : us.length = ks.length := by rw [d2.length]; exact hh.2
        have dd := rel q2 S2.length H2 [] us [] zs rfl l2 .nil d2
        exact ⟨rfl, l2, by rw [dd.length]; exact hl [] zs rfl hh.2, q2, S2, _, z, S', w2, dd, h, po.to g2⟩
      · cases h
    · exact ek g S _ S' h2 q s H _ w sl (Post.ex (Q := Q) (Q' := fun _ _ => False) po)
  · cases h1
end
end U

set_option Elab.async false
set_option linter.all false
set_option maxRecDepth 100000
set_option maxHeartbeats 1000000
namespace U
open PySem L2
section
variable {X : Cx} {cl : Cl} {E : XK} {e a b c : Expr} {es : List Expr} {pos p : Pos} {m ma mb mc : EM} {mr : AM} {x : Str}
/-- a list of the store that is shut where it is handed on -/
def shF (x : D) (S : ST) : Option (Rs D × ST) := match x with
  | .ptr n => match stL S n with
    | some ds => some (.ok (.lst ds), S.set n .dead)
    | none => none
  | x => some (.ok x, S)
def eSh (a : EM) : EM := fun g S => bd (a g S) shF
theorem ee_sh (h : EE X cl E e m) : EE X cl E e (eSh m) := by
  obtain ⟨te, pe, ee⟩ := h
  refine ⟨_, pe_fz pe, fun g S z S' h q s H Q w sl po => ?_⟩
  rcases bd_inv h with ⟨x, S1, h1, h⟩ | ⟨c, fs, h1, rfl⟩
  · refine ee g S _ S1 h1 q s H _ w sl fun q1 H1 v g1 w1 d1 => ?_
    unfold shF at h
    split at h
    · split at h
      · rename_i ds e
        cases h
        obtain ⟨rfl, hm⟩ := d1.ptr_inv
        obtain ⟨vs, e1, r1⟩ := w1.ob _ _ (stL_some e)
        have hu : Shut (.lst vs) := .inl ⟨vs, rfl⟩
        refine .inr ⟨_, _, rfl, e1, hu, fun o => ?_⟩
        have el : ∀ n, (S1.set n MO.dead).length = S1.length := fun _ => List.length_set
        refine po q1 _ _ ?_ (w1.wr hm e1 trivial ⟨o, _, upd_same⟩) ?_
        · rw [el]; exact g1.trans (Gr.wr hm e1 trivial)
        · rw [el]; exact .lst (o := o) upd_same (r1.mono (Ge.wr e1 trivial))
      · cases h
    · cases h
      exact .inl (po q1 H1 v g1 w1 d1)
  · exact ee g S _ S' h1 q s H _ w sl (Post.ex (Q := Q) po)
theorem et_chain {op op' : CmpOp} {r r' : R2} {f f' : D → D → ST → Option (Rs D × ST)} (ho : OpR X (compareOp op) r) (ho' : OpR X (compareOp op') r') (hf : CpE X.K cl E r f) (hf' : CpE X.K cl E r' f')
    (ha : EE X cl E a ma) (hb : EE X cl E b mb) (hc : EE X cl E c mc) (hm : lastMarks [op, op'] [b, c] = false := by rfl) : ET X cl E (.Compare a [op, op'] [b, c] pos) (bVal (eChain f f' ma mb mc)) := by
  obtain ⟨ta, pa, ea⟩ := ha
  obtain ⟨tb, pb, eb⟩ := hb
  obtain ⟨tc, pc, ec⟩ := hc
  refine ⟨_, pt_chain ho ho' pa pb pc hm, fun g S z S' h q s H Q w sl po => ?_⟩
  have key : ∀ (z : Rs D) (S' : ST) (Q : VK), eChain f f' ma mb mc g S = some (z, S') → Post X.K cl q S.length H E Q z S' → tChain r r' ta tb tc s H Q := by
    intro z S' Q h po
    rcases bd_inv h with ⟨x, S1, h1, h⟩ | ⟨c, fs, h1, rfl⟩
    · refine ea g S _ S1 h1 q s H _ w sl fun q1 H1 vx g1 w1 d1 => ?_
      rcases bd_inv h with ⟨y, S2, h2, h⟩ | ⟨c, fs, h2, rfl⟩
      · refine eb g S1 _ S2 h2 q1 s H1 _ w1 (sl.mono g1) fun q2 H2 vy g2 w2 d2 => ?_
        rcases bd_inv h with ⟨k, S3, h3, h⟩ | ⟨c, fs, h3, rfl⟩
        · refine hf x y S2 _ S3 h3 q2 H2 vx vy _ w2 (d1.mono g2.ge) d2 fun q3 H3 vz g3 w3 d3 => ?_
          rcases bd_inv h with ⟨k', S4, h4, h⟩ | ⟨c, fs, h4, rfl⟩
          · obtain ⟨kb, rfl, e4, rfl⟩ := toB_inv h4
            cases e4
            obtain rfl := d3.bl_inv
            refine ⟨k', rfl, ?_⟩
            cases k' with
            | true =>
              show tc s H3 fun w' H4 => r' vy w' H4 Q
              rcases bd_inv (x := mc g S3) h with ⟨v, S5, h5, h⟩ | ⟨c, fs, h5, rfl⟩
              · refine ec g S3 _ S5 h5 q3 s H3 _ w3 (sl.mono ((g1.trans g2).trans g3)) fun q4 H4 vw g4 w4 d4 => ?_
                exact hf' y v S5 z S' h q4 H4 vy vw Q w4 (d2.mono (g3.trans g4).ge) d4 (po.to (((g1.trans g2).trans g3).trans g4))
              · exact ec g S3 _ S' h5 q3 s H3 _ w3 (sl.mono ((g1.trans g2).trans g3)) (Post.ex (Q := Q) (po.to ((g1.trans g2).trans g3)))
            | false =>
              cases h
              exact po q3 H3 (.bl false) ((g1.trans g2).trans g3) w3 (.bl false)
          · obtain ⟨_, _, e4, _⟩ := toB_inv h4
            cases e4
        · exact hf x y S2 _ S' h3 q2 H2 vx vy _ w2 (d1.mono g2.ge) d2 (Post.ex (Q := Q) (po.to (g1.trans g2)))
      · exact eb g S1 _ S' h2 q1 s H1 _ w1 (sl.mono g1) (Post.ex (Q := Q) (po.to g1))
    · exact ea g S _ S' h1 q s H _ w sl (Post.ex (Q := Q) po)
  rcases bd_inv h with ⟨x, S1, h1, h⟩ | ⟨c, fs, h1, rfl⟩
  · obtain ⟨kb, rfl, e4, rfl⟩ := toB_inv h
    subst e4
    refine key _ _ _ h1 fun q3 H3 v g3 w3 d3 => ?_
    obtain rfl := d3.bl_inv
    exact ⟨kb, rfl, po q3 H3 g3 w3⟩
  · exact key _ _ _ h1 (Post.ex (Q := fun _ _ => False) po)
end
end U

set_option Elab.async false
set_option linter.all false
set_option maxRecDepth 100000
set_option maxHeartbeats 1000000
namespace U
open PySem L2
/-! ### small dict displays, shut -/
def keyD : D → Option Key
  | .int i => some (.inl i)
  | .str s => some (.inr s)
  | _ => none
def eDic0 : EM := fun _ S => some (.ok (.dic []), S)
def eDic1 (a b : EM) : EM := fun g S => bd (a g S) fun x S1 => bd (b g S1) fun y S2 => match keyD x with
  | some k => some (.ok (.dic [(k, y)]), S2)
  | none => none
section
variable {X : Cx} {cl : Cl} {E : XK} {e a b c : Expr} {es : List Expr} {pos p : Pos} {m ma mb mc : EM} {mr : AM} {x : Str}
theorem ee_dic0 : EE X cl E (.Dict [] [] pos) eDic0 := by
  refine ⟨_, pe_fz pe_dnewK, fun g S z S' h q s H Q w sl po => ?_⟩
  cases h
  intro p hp
  refine .inr ⟨p, _, rfl, upd_same, .inr ⟨[], rfl⟩, fun o => ?_⟩
  rw [upd_upd]
  exact po q _ _ (Gr.new hp) (w.new hp) (.dic (o := o) upd_same .nil)
theorem keyD_inv {K : Fr} {q : Nat → Addr} {n : Nat} {H : Hp} {v : V} {d : D} {k : Key} (h : keyD d = some k) (r : Dt K q n H v d) : v = kV k := by
  cases r <;> simp only [keyD] at h <;> first | (cases h; done) | (cases h; rfl)
theorem ee_dic1 (ha : EE X cl E a ma) (hb : EE X cl E b mb) : EE X cl E (.Dict [some a] [b] pos) (eDic1 ma mb) := by
  obtain ⟨ta, pa, ea⟩ := ha
  obtain ⟨tb, pb, eb⟩ := hb
  refine ⟨_, pe_fz (pe_disp (pps_cons pa pb pps_nil) rfl rfl (by simp) (by simp)), fun g S z S' h q s H Q w sl po => ?_⟩
  intro p hp
  have g0 : Gr q S.length H q S.length (upd H p (.dK [])) := Gr.new hp
  have w0 : Wd X.K q S (upd H p (.dK [])) := w.new hp
  have n0 : ∀ m, m < S.length → q m ≠ p := fun m hm => w.ne hp hm
  rcases bd_inv h with ⟨x, S1, h1, h⟩ | ⟨c, fs, h1, rfl⟩
  · refine ea g S _ S1 h1 q s _ _ w0 (sl.mono g0) fun q1 H1 vx g1 w1 d1 => ?_
    rcases bd_inv h with ⟨y, S2, h2, h⟩ | ⟨c, fs, h2, rfl⟩
    · refine eb g S1 _ S2 h2 q1 s H1 _ w1 (sl.mono (g0.trans g1)) fun q2 H2 vy g2 w2 d2 => ?_
      split at h
      · rename_i k hk
        cases h
        have gg := g1.trans g2
        have e2 : H2 p = some (.dK []) := gg.fr p _ upd_same n0
        have n2 := gg.out upd_same n0
        obtain rfl := keyD_inv hk d1
        refine ⟨e2, [(k, vy)], rfl, by simp, .inr ⟨p, _, rfl, upd_same, .inr ⟨_, rfl⟩, fun o => ?_⟩⟩
        rw [upd_upd]
        refine po q2 _ _ ((g0.trans gg).over hp) (w2.off e2 trivial n2) (.dic (o := o) (kv := mergeK [] [(k, vy)]) upd_same ?_)
        exact .cons (d2.mono (Ge.wr e2 trivial)) .nil
      · cases h
    · exact eb g S1 _ S' h2 q1 s H1 _ w1 (sl.mono (g0.trans g1)) (Post.ex (Q := Q) (po.to (g0.trans g1)))
  · exact ea g S _ S' h1 q s _ _ w0 (sl.mono g0) (Post.ex (Q := Q) (po.to g0))
/-! ### a tuple of the module -/
theorem ee_gtup {d : D} (h : ∃ a, X.mg x = some (.ref a) ∧ ∀ q n H, Dt X.K q n H (.ref a) d) (hg : Gl X x := by rfl) (hdb : (x == ("__debug__" : Str)) = false := by decide) : EE X cl E (.Name x pos) (eC d) := by
  obtain ⟨a, h, hd⟩ := h
  exact ee_glob (v := .ref a) hg h rfl hd hdb
end
end U

set_option Elab.async false
set_option linter.all false
set_option maxRecDepth 100000
set_option maxHeartbeats 1000000
/-! ### tools of the plain part -/
namespace U
open PySem L2
def sq (x : Option (Out × ST)) (b : SM) : Option (Out × ST) := match x with
  | some (.nx g1, S1) => b g1 S1
  | r => r
def vr (x : Option (Option D)) (S : ST) : Option (Rs D × ST) := match x with
  | some (some d) => some (.ok d, S)
  | _ => none
def ga (x : Option (EV × ST)) : Option (Out × ST) := match x with
  | some (g2, S2) => some (.nx g2, S2)
  | none => none
def lcE (x : Option (List D × ST)) : Option (Rs (List D) × ST) := match x with
  | some (xs, S2) => if few xs.length = true then some (.ok xs, S2) else none
  | none => none
def cOp (op : D → D → ST → Option (Rs D × ST)) (q : EM) (g : EV) (x : D) (S : ST) : Option (Rs D × ST) := bd (q g S) (op x)
def cOk {α : Type} (f : α → D) (x : α) (S : ST) : Option (Rs D × ST) := some (.ok (f x), S)
def cA2 (x : D) (xs : List D) (S : ST) : Option (Rs (List D) × ST) := some (.ok (x :: xs), S)
def cA (r : AM) (g : EV) (x : D) (S : ST) : Option (Rs (List D) × ST) := bd (r g S) (cA2 x)
def cAsg (G : GM) (g : EV) (d : D) (S : ST) : Option (Out × ST) := ga (G d g S)
def cRt (d : D) (S : ST) : Option (Out × ST) := some (.rt d, S)
def cDr (g : EV) (_ : D) (S : ST) : Option (Out × ST) := some (.nx g, S)
def cIf (A B : SM) (g : EV) (c : Bool) (S : ST) : Option (Out × ST) := if c = true then A g S else B g S
def cPar2 (i j : Nat) (g : EV) (x y : D) (S : ST) : Option (Out × ST) := some (.nx ((g.set i (some x)).set j (some y)), S)
def cPar (i j : Nat) (q : EM) (g : EV) (x : D) (S : ST) : Option (Out × ST) := bs (q g S) (cPar2 i j g x)
def cFor (G : GM) (A : SM) (g : EV) (ds : List D) (S : ST) : Option (Out × ST) := forD G A ds g S
def cAnd (u : BM) (g : EV) (c : Bool) (S : ST) : Option (Rs Bool × ST) := if c = true then u g S else some (.ok false, S)
def cOr (u : BM) (g : EV) (c : Bool) (S : ST) : Option (Rs Bool × ST) := if c = true then some (.ok true, S) else u g S
def cNot (c : Bool) (S : ST) : Option (Rs Bool × ST) := some (.ok (!c), S)
def cEAnd2 (q : EM) (g : EV) (c : Bool) (S : ST) : Option (Rs D × ST) := if c = true then q g S else some (.ok (.bl false), S)
def cEAnd (q : EM) (g : EV) (x : D) (S : ST) : Option (Rs D × ST) := bd (toB x S) (cEAnd2 q g)
def cEOr2 (q : EM) (g : EV) (c : Bool) (S : ST) : Option (Rs D × ST) := if c = true then some (.ok (.bl true), S) else q g S
def cEOr (q : EM) (g : EV) (x : D) (S : ST) : Option (Rs D × ST) := bd (toB x S) (cEOr2 q g)
def cENot2 (c : Bool) (S : ST) : Option (Rs D × ST) := some (.ok (.bl (!c)), S)
def cENot (x : D) (S : ST) : Option (Rs D × ST) := bd (toB x S) cENot2
def cEIf (p q : EM) (g : EV) (c : Bool) (S : ST) : Option (Rs D × ST) := if c = true then p g S else q g S
def cCh3 (op' : D → D → ST → Option (Rs D × ST)) (r : EM) (g : EV) (y : D) (k : Bool) (S : ST) : Option (Rs D × ST) := if k = true then bd (r g S) (op' y) else some (.ok (.bl false), S)
def cCh2 (op' : D → D → ST → Option (Rs D × ST)) (r : EM) (g : EV) (y z : D) (S : ST) : Option (Rs D × ST) := bd (toB z S) (cCh3 op' r g y)
def cCh1 (op op' : D → D → ST → Option (Rs D × ST)) (r : EM) (g : EV) (x y : D) (S : ST) : Option (Rs D × ST) := bd (op x y S) (cCh2 op' r g y)
def cCh (op op' : D → D → ST → Option (Rs D × ST)) (q r : EM) (g : EV) (x : D) (S : ST) : Option (Rs D × ST) := bd (q g S) (cCh1 op op' r g x)
def cTup (xs : List D) (S : ST) : Option (Rs D × ST) := if few xs.length = true then some (.ok (.tup xs), S) else none
def cLst (xs : List D) (S : ST) : Option (Rs (List D) × ST) := if few xs.length = true then some (.ok xs, S) else none
def cFz (xs : List D) (S : ST) : Option (Rs D × ST) := some (.ok (.lst xs), S)
def cPtr (xs : List D) (S : ST) : Option (Rs D × ST) := some (.ok (.ptr S.length), S ++ [.lst xs])
def cLc (G : GM) (t : BM) (p : EM) (g : EV) (ds : List D) (S : ST) : Option (Rs (List D) × ST) := lcE (cmD G t p g ds S)
def cMt (tt : String) (mt : D → List D → ST → Option (Rs D × ST)) (ra : AM) (g : EV) (x : D) (S : ST) : Option (Rs D × ST) := if rcv tt S x = true then bd (ra g S) (mt x) else none
def cCut2 (h : OM) (g : EV) (x : D) (lo : Option Int) (S : ST) : Option (Rs D × ST) := bd (h g S) (cutF x lo)
def cCut (l h : OM) (g : EV) (x : D) (S : ST) : Option (Rs D × ST) := bd (l g S) (cCut2 h g x)
def cK2 (n k : Nat) (gD : List D → List D → List D) (d : DM) (xs zs : List D) (S : ST) : Option (Rs D × ST) := if xs.length = n ∧ zs.length = k then d (gD xs zs) S else none
def cK (n k : Nat) (gD : List D → List D → List D) (d : DM) (b : AM) (g : EV) (xs : List D) (S : ST) : Option (Rs D × ST) := bd (b g S) (cK2 n k gD d xs)
def cCat3 (x y : Option (List D)) (S : ST) : Option (Rs (List D) × ST) := match x, y with
  | some a, some b => if few (a.length + b.length) = true then some (.ok (a ++ b), S) else none
  | _, _ => none
def cCat2 (x y : D) (S : ST) : Option (Rs (List D) × ST) := cCat3 (lsT S x) (lsT S y) S
def cCat (q : EM) (g : EV) (x : D) (S : ST) : Option (Rs (List D) × ST) := bd (q g S) (cCat2 x)
section
variable {α β : Type} {x y : Option (Rs α × ST)} {f : α → ST → Option (Rs β × ST)} {k : α → ST → Option (Out × ST)} {a : α} {S S1 S2 : ST} {c : Str} {fs : List (Str × D)} {g g1 : EV} {p q r : EM} {ra rb : AM} {t u : BM} {A B : SM} {G : GM} {d e : D} {op op' : D → D → ST → Option (Rs D × ST)} {un : D → ST → Option (Rs D × ST)} {ca : List D → ST → Option (Rs D × ST)} {co : List D → ST → Option (Rs (List D) × ST)} {n i j : Nat} {ds es : List D}
theorem bd_1 : bd (some (.ok a, S)) f = f a S := rfl
theorem bd_2 : bd (some (.ex c fs, S)) f = some (.ex c fs, S) := rfl
theorem bs_1 : bs (some (.ok a, S)) k = k a S := rfl
theorem bs_2 : bs (some (.ex c fs, S)) k = some (.ex c fs, S) := rfl
theorem sq_1 : sq (some (.nx g, S)) B = B g S := rfl
theorem sq_2 : sq (some (.rt d, S)) B = some (.rt d, S) := rfl
theorem sq_3 : sq (some (.ex c fs, S)) B = some (.ex c fs, S) := rfl
theorem sq_4 : sq (some (.bk g, S)) B = some (.bk g, S) := rfl
theorem sq_5 : sq (some (.ct g, S)) B = some (.ct g, S) := rfl
theorem vr_1 : vr (some (some d)) S = some (.ok d, S) := rfl
theorem ga_1 : ga (some (g, S)) = some (.nx g, S) := rfl
theorem lcE_1 : lcE (some (ds, S)) = if few ds.length = true then some (.ok ds, S) else none := rfl
theorem sSeq_e : sSeq A B g S = sq (A g S) B := rfl
theorem sAsg_e : sAsg p G g S = bs (p g S) (cAsg G g) := rfl
theorem cAsg_1 : cAsg G g d S = ga (G d g S) := rfl
theorem sRet_e : sRet p g S = bs (p g S) cRt := rfl
theorem cRt_1 : cRt d S = some (.rt d, S) := rfl
theorem sDrop_e : sDrop p g S = bs (p g S) (cDr g) := rfl
theorem cDr_1 : cDr g d S = some (.nx g, S) := rfl
theorem sIf_e : sIf t A B g S = bs (t g S) (cIf A B g) := rfl
theorem cIf_t : cIf A B g true S = A g S := rfl
theorem cIf_f : cIf A B g false S = B g S := rfl
theorem cIf_1 {b : Bool} : cIf A B g b S = if b = true then A g S else B g S := rfl
theorem sSkip_e : sSkip g S = some (.nx g, S) := rfl
theorem sBrk_e : sBrk g S = some (.bk g, S) := rfl
theorem sCnt_e : sCnt g S = some (.ct g, S) := rfl
theorem sPar_e : sPar i j p q g S = bs (p g S) (cPar i j q g) := rfl
theorem cPar_1 : cPar i j q g d S = bs (q g S) (cPar2 i j g d) := rfl
theorem cPar2_1 : cPar2 i j g d e S = some (.nx ((g.set i (some d)).set j (some e)), S) := rfl
theorem sFor_e : sFor ra G A g S = bs (ra g S) (cFor G A g) := rfl
theorem cFor_1 : cFor G A g ds S = forD G A ds g S := rfl
theorem gVar_e : gVar i d g S = some (g.set i (some d), S) := rfl
theorem eVar_e : eVar i g S = vr g[i]? S := rfl
theorem eC_e : eC d g S = some (.ok d, S) := rfl
theorem eOp_e : eOp op p q g S = bd (p g S) (cOp op q g) := rfl
theorem cOp_1 : cOp op q g d S = bd (q g S) (op d) := rfl
theorem eUn_e : eUn un p g S = bd (p g S) un := rfl
theorem aNil_e : aNil g S = some (.ok [], S) := rfl
theorem aCons_e : aCons p ra g S = bd (p g S) (cA ra g) := rfl
theorem cA_1 : cA ra g d S = bd (ra g S) (cA2 d) := rfl
theorem cA2_1 : cA2 d ds S = some (.ok (d :: ds), S) := rfl
theorem eCall_e : eCall ca ra g S = bd (ra g S) ca := rfl
theorem oCall_e : oCall co ra g S = bd (ra g S) co := rfl
theorem iCall_e : iCall co ra g S = bd (ra g S) co := rfl
theorem iVal_e : iVal p g S = bd (p g S) itF := rfl
theorem toB_1 {b : Bool} : toB (.bl b) S = some (.ok b, S) := rfl
theorem bVal_e : bVal p g S = bd (p g S) toB := rfl
theorem bAnd_e : bAnd t u g S = bd (t g S) (cAnd u g) := rfl
theorem cAnd_1 {b : Bool} : cAnd u g b S = if b = true then u g S else some (.ok false, S) := rfl
theorem bOr_e : bOr t u g S = bd (t g S) (cOr u g) := rfl
theorem cOr_1 {b : Bool} : cOr u g b S = if b = true then some (.ok true, S) else u g S := rfl
theorem bNot_e : bNot t g S = bd (t g S) cNot := rfl
theorem cNot_1 {b : Bool} : cNot b S = some (.ok (!b), S) := rfl
theorem eAnd_e : eAnd p q g S = bd (p g S) (cEAnd q g) := rfl
theorem cEAnd_1 : cEAnd q g d S = bd (toB d S) (cEAnd2 q g) := rfl
theorem cEAnd2_1 {b : Bool} : cEAnd2 q g b S = if b = true then q g S else some (.ok (.bl false), S) := rfl
theorem eOr_e : eOr p q g S = bd (p g S) (cEOr q g) := rfl
theorem cEOr_1 : cEOr q g d S = bd (toB d S) (cEOr2 q g) := rfl
theorem cEOr2_1 {b : Bool} : cEOr2 q g b S = if b = true then some (.ok (.bl true), S) else q g S := rfl
theorem eNot_e : eNot p g S = bd (p g S) cENot := rfl
theorem cENot_1 : cENot d S = bd (toB d S) cENot2 := rfl
theorem cENot2_1 {b : Bool} : cENot2 b S = some (.ok (.bl (!b)), S) := rfl
theorem eIf_e : eIf t p q g S = bd (t g S) (cEIf p q g) := rfl
theorem cEIf_1 {b : Bool} : cEIf p q g b S = if b = true then p g S else q g S := rfl
theorem eChain_e : eChain op op' p q r g S = bd (p g S) (cCh op op' q r g) := rfl
theorem cCh_1 : cCh op op' q r g d S = bd (q g S) (cCh1 op op' r g d) := rfl
theorem cCh1_1 : cCh1 op op' r g d e S = bd (op d e S) (cCh2 op' r g e) := rfl
theorem cCh2_1 : cCh2 op' r g d e S = bd (toB e S) (cCh3 op' r g d) := rfl
theorem cCh3_1 {b : Bool} : cCh3 op' r g d b S = if b = true then bd (r g S) (op' d) else some (.ok (.bl false), S) := rfl
theorem eTup_e : eTup ra g S = bd (ra g S) cTup := rfl
theorem cTup_1 : cTup ds S = if few ds.length = true then some (.ok (.tup ds), S) else none := rfl
theorem oLst_e : oLst ra g S = bd (ra g S) cLst := rfl
theorem cLst_1 : cLst ds S = if few ds.length = true then some (.ok ds, S) else none := rfl
theorem eFz_e : eFz ra g S = bd (ra g S) cFz := rfl
theorem cFz_1 : cFz ds S = some (.ok (.lst ds), S) := rfl
theorem ePtr_e : ePtr ra g S = bd (ra g S) cPtr := rfl
theorem cPtr_1 : cPtr ds S = some (.ok (.ptr S.length), S ++ [.lst ds]) := rfl
theorem oLc_e {vs : List Nat} : oLc ra G t p vs g S = bd (ra g S) (cLc G t p (wpD g vs)) := rfl
theorem cLc_1 : cLc G t p g ds S = lcE (cmD G t p g ds S) := rfl
theorem eSh_e : eSh p g S = bd (p g S) shF := rfl
theorem itF_1 : itF (.tup ds) S = some (.ok ds, S) := rfl
theorem itF_2 : itF (.lst ds) S = some (.ok ds, S) := rfl
theorem itF_3 : itF (.kls ds) S = some (.ok ds, S) := rfl
theorem addF_1 {i j : Int} : addF (.int i) (.int j) S = some (.ok (.int (i + j)), S) := rfl
theorem addF_2 : addF (.tup ds) (.tup es) S = if few (ds.length + es.length) = true then some (.ok (.tup (ds ++ es)), S) else none := rfl
theorem addF_3 : addF (.lst ds) (.lst es) S = if few (ds.length + es.length) = true then some (.ok (.lst (ds ++ es)), S) else none := rfl
theorem intF_1 {cc : Int → Int → Bool} {ff : Int → Int → Int} {i j : Int} : intF cc ff (.int i) (.int j) S = if cc i j = true then some (.ok (.int (ff i j)), S) else none := rfl
theorem subF_1 {i j : Int} : subF (.int i) (.int j) S = some (.ok (.int (i - j)), S) := rfl
theorem modF_1 {i j : Int} : modF (.int i) (.int j) S = if decide (0 < j) = true then some (.ok (.int (i % j)), S) else none := rfl
theorem fdvF_1 {i j : Int} : fdvF (.int i) (.int j) S = if (decide (0 < j) && decide (j.natAbs.log2 < 9000)) = true then some (.ok (.int (i / j)), S) else none := rfl
theorem powF_1 {i j : Int} : powF (.int i) (.int j) S = if (decide (0 ≤ j) && decide (j ≤ 1000000) && decide (i.natAbs < 2 ^ 64)) = true then some (.ok (.int (i ^ j.toNat)), S) else none := rfl
theorem mulF_1 {i j : Int} : mulF (.int i) (.int j) S = if (decide (-(2 ^ 64) < i) && decide (i < 2 ^ 64)) || (decide (-(2 ^ 64) < j) && decide (j < 2 ^ 64)) then some (.ok (.int (i * j)), S) else none := rfl
theorem mulF_2 {k : Int} : mulF (.tup ds) (.int k) S = if !ds.isEmpty && decide (2 ≤ k) && decide (k ≤ 1000) && decide (ds.length ≤ 1000) then some (.ok (.tup (List.replicate k.toNat ds).flatten), S) else none := rfl
theorem negF_1 {i : Int} : negF (.int i) S = some (.ok (.int (-i)), S) := rfl
theorem ltF_1 {i j : Int} : ltF (.int i) (.int j) S = some (.ok (.bl (decide (i < j))), S) := rfl
theorem leF_1 {i j : Int} : leF (.int i) (.int j) S = some (.ok (.bl (decide (i ≤ j))), S) := rfl
theorem gtF_1 {i j : Int} : gtF (.int i) (.int j) S = some (.ok (.bl (decide (j < i))), S) := rfl
theorem geF_1 {i j : Int} : geF (.int i) (.int j) S = some (.ok (.bl (decide (j ≤ i))), S) := rfl
def atE (x : Option D) (S : ST) : Option (Rs D × ST) := match x with
  | some x => some (.ok x, S)
  | none => none
theorem atE_1 : atE (some d) S = some (.ok d, S) := rfl
theorem ixF_1 {i : Int} : ixF (.tup ds) (.int i) S = atE (atI ds i) S := by unfold ixF atE; rfl
theorem ixF_2 {i : Int} : ixF (.lst ds) (.int i) S = atE (atI ds i) S := by unfold ixF atE; rfl
theorem ixF_3 {i : Int} : ixF (.kls ds) (.int i) S = atE (atI ds i) S := by unfold ixF atE; rfl
def pxE (x : Option (List D)) (i : Int) (S : ST) : Option (Rs D × ST) := match x with
  | some ds => atE (atI ds i) S
  | none => none
theorem pxE_1 {i : Int} : pxE (some ds) i S = atE (atI ds i) S := rfl
theorem ixF_4 {i : Int} : ixF (.ptr n) (.int i) S = pxE (stL S n) i S := by unfold ixF pxE atE sqS lsS; rfl
def plE (x : Option (List D)) (S : ST) : Option (Rs D × ST) := match x with
  | some ds => some (.ok (.int ds.length), S)
  | none => none
theorem plE_1 : plE (some ds) S = some (.ok (.int ds.length), S) := rfl
theorem lenF_4 : lenF [.ptr n] S = plE (stL S n) S := rfl
theorem eMt_e {tt : String} {mt : D → List D → ST → Option (Rs D × ST)} : eMt tt mt p ra g S = bd (p g S) (cMt tt mt ra g) := rfl
theorem cMt_1 {tt : String} {mt : D → List D → ST → Option (Rs D × ST)} : cMt tt mt ra g d S = if rcv tt S d = true then bd (ra g S) (mt d) else none := rfl
theorem eCut_e {l h : OM} : eCut p l h g S = bd (p g S) (cCut l h g) := rfl
theorem cCut_1 {l h : OM} : cCut l h g d S = bd (l g S) (cCut2 h g d) := rfl
theorem cCut2_1 {h : OM} {lo : Option Int} : cCut2 h g d lo S = bd (h g S) (cutF d lo) := rfl
theorem qNone_e : qNone g S = some (.ok none, S) := rfl
theorem qSome_e : qSome p g S = bd (p g S) toI := rfl
theorem toI_1 {i : Int} : toI (.int i) S = some (.ok (some i), S) := rfl
theorem cutF_1 {lo hi : Option Int} : cutF (.tup ds) lo hi S = some (.ok (.tup (cutD ds lo hi)), S) := rfl
theorem cutF_2 {lo hi : Option Int} : cutF (.lst ds) lo hi S = some (.ok (.lst (cutD ds lo hi)), S) := rfl
theorem cutF_3 {lo hi : Option Int} : cutF (.kls ds) lo hi S = some (.ok (.lst (cutD ds lo hi)), S) := rfl
theorem cutF_4 {lo hi : Option Int} {z : Str} : cutF (.str z) lo hi S = if few z.length = true then some (.ok (.str (cutS z lo hi)), S) else none := rfl
theorem eCallK_e {k : Nat} {gD : List D → List D → List D} {m : DM} : eCallK n k gD m ra rb g S = bd (ra g S) (cK n k gD m rb g) := rfl
theorem cK_1 {k : Nat} {gD : List D → List D → List D} {m : DM} : cK n k gD m rb g ds S = bd (rb g S) (cK2 n k gD m ds) := rfl
theorem cK2_1 {k : Nat} {gD : List D → List D → List D} {m : DM} : cK2 n k gD m ds es S = if ds.length = n ∧ es.length = k then m (gD ds es) S else none := rfl
theorem eDic0_e : eDic0 g S = some (.ok (.dic []), S) := rfl
theorem oCat_e : oCat p q g S = bd (p g S) (cCat q g) := by
  unfold oCat cCat cCat2 cCat3
  rfl
theorem cCat_1 : cCat q g d S = bd (q g S) (cCat2 d) := rfl
theorem cCat2_1 : cCat2 d e S = cCat3 (lsT S d) (lsT S e) S := rfl
theorem cCat3_1 : cCat3 (some ds) (some es) S = if few (ds.length + es.length) = true then some (.ok (ds ++ es), S) else none := rfl
theorem lsT_1 : lsT S (.lst ds) = some ds := rfl
theorem lsT_2 : lsT S (.ptr n) = stL S n := rfl
theorem rcv_p : rcv "list" S (.ptr n) = (stL S n).isSome := by unfold rcv lsS; simp
def apE (x : Option (List D)) (n : Nat) (d : D) (S : ST) : Option (Rs D × ST) := match x with
  | some ds => if few (ds.length + 1) = true then some (.ok .non, S.set n (.lst (ds ++ [d]))) else none
  | none => none
theorem apE_1 : apE (some ds) n d S = if few (ds.length + 1) = true then some (.ok .non, S.set n (.lst (ds ++ [d]))) else none := rfl
theorem appF_1 : appF (.ptr n) [d] S = apE (stL S n) n d S := rfl
theorem stL_app : stL (S ++ [.lst ds]) S.length = some ds := by unfold stL; simp
theorem set_app {o o' : MO} : List.set (S ++ [o]) S.length o' = S ++ [o'] := by simp
theorem stL_0 {S l : List MO} : stL (S ++ l) S.length = stL l 0 := by unfold stL; rw [List.getElem?_append_right (Nat.le_refl _), Nat.sub_self]
theorem stL_k {S l : List MO} {k : Nat} : stL (S ++ l) (S.length + k) = stL l k := by unfold stL; rw [List.getElem?_append_right (Nat.le_add_right _ _), Nat.add_sub_cancel_left]
theorem stL_c {l : List MO} : stL (.lst ds :: l) 0 = some ds := rfl
theorem stL_s {l : List MO} {o : MO} {k : Nat} : stL (o :: l) (k + 1) = stL l k := by unfold stL; rw [List.getElem?_cons_succ]
theorem set_0 {S l : List MO} {o : MO} : List.set (S ++ l) S.length o = S ++ l.set 0 o := by rw [List.set_append_right, Nat.sub_self]; omega
theorem set_k {S l : List MO} {k : Nat} {o : MO} : List.set (S ++ l) (S.length + k) o = S ++ l.set k o := by rw [List.set_append_right, Nat.add_sub_cancel_left]; omega
def shE (x : Option (List D)) (n : Nat) (S : ST) : Option (Rs D × ST) := match x with
  | some ds => some (.ok (.lst ds), S.set n .dead)
  | none => none
theorem shE_1 : shE (some ds) n S = some (.ok (.lst ds), S.set n .dead) := rfl
theorem shF_1 : shF (.ptr n) S = shE (stL S n) n S := rfl
theorem lenF_1 : lenF [.tup ds] S = some (.ok (.int ds.length), S) := rfl
theorem lenF_2 : lenF [.lst ds] S = some (.ok (.int ds.length), S) := rfl
theorem lenF_3 : lenF [.kls ds] S = some (.ok (.int ds.length), S) := rfl
theorem absF_1 {i : Int} : absF [.int i] S = some (.ok (.int (if i < 0 then -i else i)), S) := rfl
theorem intOfF_1 {b : Bool} : intOfF [.bl b] S = some (.ok (.int (if b then 1 else 0)), S) := rfl
theorem intOfF_2 {i : Int} : intOfF [.int i] S = some (.ok (.int i), S) := rfl
theorem rng1F_1 {i : Int} : rng1F [.int i] S = if okI i = true then some (.ok (rngD 0 i), S) else none := rfl
theorem rng2F_1 {i j : Int} : rng2F [.int i, .int j] S = if (okI i && okI j) = true then some (.ok (rngD i j), S) else none := rfl
theorem Ar_e {m : DM} : Ar n m ds S = if ds.length = n then m ds S else none := rfl
theorem mkD_e : mkD n A ds S = fin (A (slots n ds) S) := rfl
theorem fin_1 : fin (some (.rt d, S)) = some (.ok d, S) := rfl
theorem fin_2 : fin (some (.nx g, S)) = some (.ok .non, S) := rfl
theorem fin_3 : fin (some (.ex c fs, S)) = some (.ex c fs, S) := rfl
theorem few_e : few n = decide (n ≤ 100000) := rfl
theorem tupOfF_1 : tupOfF [.lst ds] S = some (.ok (.tup ds), S) := rfl
theorem tupOfF_2 : tupOfF [.tup ds] S = some (.ok (.tup ds), S) := rfl
theorem tupOfF_3 : tupOfF [.kls ds] S = some (.ok (.tup ds), S) := rfl
theorem lstOfF_1 : lstOfF [.lst ds] S = some (.ok ds, S) := rfl
theorem lstOfF_2 : lstOfF [.tup ds] S = some (.ok ds, S) := rfl
theorem lstOfF_3 : lstOfF [.kls ds] S = some (.ok ds, S) := rfl
theorem isF_1 {ff : Bool → Bool} {a b : Bool} : isF ff (.bl a) (.bl b) S = some (.ok (.bl (ff (decide (a = b)))), S) := rfl
end
/-- a loop whose body always goes on -/
theorem for_inv {tg : GM} {body : SM} (I : EV → ST → Prop) : ∀ (ds : List D) (g : EV) (S : ST), (∀ d ∈ ds, ∀ g S, I g S → ∃ g1 S1 g2 S2, tg d g S = some (g1, S1) ∧ body g1 S1 = some (.nx g2, S2) ∧ I g2 S2) → I g S → ∃ g' S', forD tg body ds g S = some (.nx g', S') ∧ I g' S'
  | [], g, S, _, h => ⟨g, S, rfl, h⟩
  | d :: ds, g, S, st, h => by
    obtain ⟨g1, S1, g2, S2, e1, e2, i2⟩ := st d (List.mem_cons_self ..) g S h
    obtain ⟨g', S', e3, i3⟩ := for_inv I ds g2 S2 (fun d hd => st d (List.mem_cons_of_mem _ hd)) i2
    exact ⟨g', S', by simp only [forD, e1, e2, e3], i3⟩
/-- the same, told how many steps were gone -/
theorem for_inv_n {tg : GM} {body : SM} (I : Nat → EV → ST → Prop) : ∀ (ds : List D) (n : Nat) (g : EV) (S : ST), (∀ i d, ds[i]? = some d → ∀ g S, I (n + i) g S → ∃ g1 S1 g2 S2, tg d g S = some (g1, S1) ∧ body g1 S1 = some (.nx g2, S2) ∧ I (n + i + 1) g2 S2) → I n g S → ∃ g' S', forD tg body ds g S = some (.nx g', S') ∧ I (n + ds.length) g' S'
  | [], n, g, S, _, h => ⟨g, S, rfl, h⟩
  | d :: ds, n, g, S, st, h => by
    obtain ⟨g1, S1, g2, S2, e1, e2, i2⟩ := st 0 d rfl g S h
    obtain ⟨g', S', e3, i3⟩ := for_inv_n I ds (n + 1) g2 S2 (fun i d hd g S hi => by
      have := st (i + 1) d (by simpa using hd) g S (by rwa [show n + (i + 1) = n + 1 + i by omega])
      rwa [show n + (i + 1) + 1 = n + 1 + i + 1 by omega] at this) i2
    exact ⟨g', S', by simp only [forD, e1, e2, e3], by rwa [show n + (d :: ds).length = n + 1 + ds.length by simp; omega]⟩
/-- a comprehension without if, part by part -/
theorem cm_map {tg : GM} {el : EM} {g : EV} {S : ST} {f : D → D} : ∀ (ds : List D), (∀ d ∈ ds, ∃ g1, tg d g S = some (g1, S) ∧ el g1 S = some (.ok (f d), S)) → cmD tg bYes el g ds S = some (ds.map f, S)
  | [], _ => rfl
  | d :: ds, h => by
    obtain ⟨g1, e1, e2⟩ := h d (List.mem_cons_self ..)
    simp only [cmD, e1, bYes, e2, cm_map ds fun d hd => h d (List.mem_cons_of_mem _ hd), List.map_cons]
end U
namespace U
open PySem L2
theorem at_nat {α : Type} {xs : List α} {k : Nat} (h : k < xs.length) : atI xs (k : Int) = some xs[k] := by
  unfold atI ixN
  rw [if_pos (Int.natCast_nonneg k), if_pos (Int.ofNat_lt.mpr h)]
  simp [h]
theorem at_int {xs : List Int} (k : Nat) (h : k < xs.length) : atI (xs.map D.int) (k : Int) = some (.int (xs.getD k 0)) := by
  rw [at_nat (by simpa using h)]
  simp [List.getD, h]
theorem at_mem {α : Type} {xs : List α} {i : Int} (h0 : 0 ≤ i) (h1 : i < xs.length) : ∃ x ∈ xs, atI xs i = some x := by
  obtain ⟨k, rfl⟩ := Int.eq_ofNat_of_zero_le h0
  exact ⟨_, List.getElem_mem (Int.ofNat_lt.mp h1), at_nat (Int.ofNat_lt.mp h1)⟩
theorem rng_mem {d : D} {n : Int} (h : d ∈ rngD 0 n) : ∃ k : Nat, (k : Int) < n ∧ d = .int k := by
  simp only [rngD, List.mem_map, List.mem_range] at h
  obtain ⟨k, hk, rfl⟩ := h
  exact ⟨k, by omega, by simp⟩
theorem blDs_map : ∀ (bs : List Bool), blDs (bs.map D.bl) = some bs
  | [] => rfl
  | b :: bs => by simp [blDs, blDs_map bs]
end U
namespace U
open PySem L2
theorem eqF_int {f : Bool → Bool} {i j : Int} {S : ST} : eqF f (.int i) (.int j) S = some (.ok (.bl (f (i == j))), S) := by rfl
theorem eqF_str {f : Bool → Bool} {a b : Str} {S : ST} : eqF f (.str a) (.str b) S = some (.ok (.bl (f (decide (a = b)))), S) := by rfl
theorem isiF_1 {c : String} {x : D} {S : ST} {t : String} (h : tyD S x = some t) : isiF [c] x S = some (.ok (.bl (isaB t c)), S) := by unfold isiF; rw [h]; simp
theorem isiF_tup {c : String} {xs : List D} {S : ST} : isiF [c] (.tup xs) S = some (.ok (.bl (isaB "tuple" c)), S) := isiF_1 rfl
theorem isiF_lst {c : String} {xs : List D} {S : ST} : isiF [c] (.lst xs) S = some (.ok (.bl (isaB "list" c)), S) := isiF_1 rfl
theorem isiF_int {c : String} {i : Int} {S : ST} : isiF [c] (.int i) S = some (.ok (.bl (isaB "int" c)), S) := isiF_1 rfl
theorem isiF_str {c : String} {i : Str} {S : ST} : isiF [c] (.str i) S = some (.ok (.bl (isaB "str" c)), S) := isiF_1 rfl
theorem isiF_bl {c : String} {i : Bool} {S : ST} : isiF [c] (.bl i) S = some (.ok (.bl (isaB "bool" c)), S) := isiF_1 rfl
theorem at_0 {α : Type} {x : α} {xs : List α} : atI (x :: xs) 0 = some x := by
  unfold atI ixN
  simp
theorem gStar_1 {i j : Nat} {x : D} {xs : List D} {g : EV} {S : ST} : gStar i j (.tup (x :: xs)) g S = if xs.length ≤ 16000 then some ((g.set i (some x)).set j (some (.lst xs)), S) else none := rfl
end U

set_option Elab.async false
set_option linter.all false
set_option maxRecDepth 100000
set_option maxHeartbeats 1000000
namespace U
open PySem L2
section
variable {P : Program} {w : World} {K : Fr} {mg : Str → Option Value} {base : Heap} {cl : Cl} {x qual : Str} {params : Arguments} {body : List Stmt} {scope : Scope} {kws : List (Str × V)} {f : Addr} {fd : FuncData} {ps ks : List Str} {n j : Nat} {m : DM}
/-- a call with names, of a def without defaults -/
theorem kbn_plain (F : FunD K x qual params body scope [] kws f fd) (g : {α : Type} → List α → List α → List α) (hrel : ∀ {vs zs : List V} {us ws : List Value}, Vals vs us → Vals zs ws → Vals (g vs zs) (g us ws))
    (h : ∀ (kV doc pm : Value) (an : Option Addr) (cdv ct : Value) (us ws : List Value), us.length = n → ws.length = ks.length → bindArgs (PySem.W.fnOf x qual params body scope .none kV doc pm an cdv ct) ⟨us, ks.zip ws⟩ = pure (ps.zip (g us ws))) : KBn K fd ps n ks g g := by
  obtain ⟨oc, od, dV, kV, doc, pm, an, cdv, ct, osl, rfl, lk, hcd, hD, hK⟩ := F.ex
  rcases hD with ⟨_, rfl⟩ | ⟨e, _⟩
  · exact ⟨fun s us ws X l1 l2 => .of_eq (h kV doc pm an cdv ct us ws l1 l2), hrel⟩
  · exact absurd rfl e
theorem okk_plain (A : OkA P w K mg base cl x j ps m f fd) (F : FunD K x qual params body scope [] kws f fd) (g : {α : Type} → List α → List α → List α) (hrel : ∀ {vs zs : List V} {us ws : List Value}, Vals vs us → Vals zs ws → Vals (g vs zs) (g us ws))
    (h : ∀ (kV doc pm : Value) (an : Option Addr) (cdv ct : Value) (us ws : List Value), us.length = n → ws.length = ks.length → bindArgs (PySem.W.fnOf x qual params body scope .none kV doc pm an cdv ct) ⟨us, ks.zip ws⟩ = pure (ps.zip (g us ws)))
    (hd : ∀ (q : Nat → Addr) (N : Nat) (H : Hp) (vs zs : List V) (ds es : List D), vs.length = n → zs.length = ks.length → Dts K q N H vs ds → Dts K q N H zs es → Dts K q N H (g vs zs) (g ds es)) : Okk P w K mg base cl x j ps m n ks g :=
  ⟨f, fd, g, g, A.1, A.2.1, A.2.2.1, kbn_plain F g hrel h, hd⟩
/-- the thing i of the one row or the other -/
def pk {α : Type} (us ws : List α) (c : Bool) (i : Nat) : List α := if c then (us.drop i).take 1 else (ws.drop i).take 1
def pks {α : Type} (cs : List (Bool × Nat)) (us ws : List α) : List α := cs.flatMap fun c => pk us ws c.1 c.2
theorem Vals.append' {vs zs : List V} {us ws : List Value} (h : Vals vs us) (h2 : Vals zs ws) : Vals (vs ++ zs) (us ++ ws) := h.append h2
theorem vals_take {vs : List V} {us : List Value} (h : Vals vs us) : ∀ n, Vals (vs.take n) (us.take n) := fun n => h.take n
theorem pks_vals {vs zs : List V} {us ws : List Value} (h : Vals vs us) (h2 : Vals zs ws) : ∀ cs : List (Bool × Nat), Vals (pks cs vs zs) (pks cs us ws)
  | [] => .nil
  | c :: cs => by
    show Vals (pk vs zs c.1 c.2 ++ pks cs vs zs) (pk us ws c.1 c.2 ++ pks cs us ws)
    refine Vals.append ?_ (pks_vals h h2 cs)
    unfold pk
    split
    · exact (h.drop _).take _
    · exact (h2.drop _).take _
theorem pks_dts {K : Fr} {q : Nat → Addr} {N : Nat} {H : Hp} {vs zs : List V} {ds es : List D} (h : Dts K q N H vs ds) (h2 : Dts K q N H zs es) : ∀ cs : List (Bool × Nat), Dts K q N H (pks cs vs zs) (pks cs ds es)
  | [] => .nil
  | c :: cs => by
    show Dts K q N H (pk vs zs c.1 c.2 ++ pks cs vs zs) (pk ds es c.1 c.2 ++ pks cs ds es)
    refine Dts.append ?_ (pks_dts h h2 cs)
    unfold pk
    split
    · exact (h.drop _).take _
    · exact (h2.drop _).take _
end
/-! the law's call, from a promise that asks who stands around -/
section
open PySem.Spec PyProof.Rows
theorem hid_ns {H : Hp} {h : Heap} {a : Addr} {vs : Array Value} (ha : h.get? a = some { cls := .type "list", data := .seq vs }) (hA : ∀ b, H b ≠ none → b = a) {b : Addr} {m : Str → Option Value} (n : h.Ns b m) : (hidT h H).Ns b m := by
  obtain ⟨o, es, ep, e, d, r⟩ := n
  refine ⟨o, es, ep, hidT_get e ?_, d, r⟩
  by_cases q : H b = none
  · exact q
  · obtain rfl := hA b q
    rw [ha] at e
    cases e
    exact absurd (show Data.seq vs _ = Data.dict es ep from d) (fun z => by cases z)
theorem lawg_core {P : Program} {w : World} {K : Fr} {mg mb : Str → Option Value} {CX : CXT} {k : Nat} {fa a : Addr} {fd : FuncData} {x : Str} {sp : Sp} {s1 : Shared} {vs : List Value} {ns : List Int} {H : Hp}
    (KX : K.In s1.heap) (hns : s1.heap.Ns mainGlobals mg) (hb : s1.heap.Ns builtinsNs mb) (hbb : ∀ x : Str, x ≠ "__name__" → mb x = bootBuiltins x) (hlim : s1.heap.NoLimit) (hg : s1.gens = #[]) (ha : s1.heap.get? a = some { cls := .type "list", data := .seq vs.toArray }) (hr : RoomG k callerA)
    (F : ∀ base : Heap, K.In base → base.Ns mainGlobals mg → FnG P w K mg base CX k fa fd [x] sp) (hbind : ∀ (s : Shared) (u : Value), BindsTo s fd ⟨[u], []⟩ [(x, u)]) (hsp : Only H → SqL K H a (ns.map V.int) → sp [.ref a] H (fun v _ => v = .bl true) fun _ _ _ => False)
    (hCX : ∀ H e s', CX [] H s1 (fun _ _ _ => False) e s' → False) (hO : Only H) (hS : SqL K H a (ns.map V.int)) (hok : HOk P w H s1.heap) (hA : ∀ b, H b ≠ none → b = a) (hK : H a ≠ none → K.lookup a = none) :
    codeAny (model P w) callerA (.call (.ref fa) ⟨[.ref a], []⟩) (fun r s' => r = .ok (.ret (.bool true)) ∧ OldK s1.heap s'.heap ∧ s'.os = s1.os ∧ AllBare s'.gens) s1 := by
  have hKb : K.In (hidT s1.heap H) := by
    intro b o e
    refine hidT_get (KX b o e) ?_
    by_cases q : H b = none
    · exact q
    · have z := hA b q
      subst z
      rw [hK q] at e
      cases e
  have nsg := hid_ns ha hA hns
  have hM : Mod K mg (hidT s1.heap H) := by
    obtain ⟨mc, h1, h2⟩ := hlim
    exact ⟨hKb, nsg, ⟨mb, hid_ns ha hA hb, hbb⟩, ⟨mc, hid_ns ha hA h1, h2⟩⟩
  have no : ∀ b, b ∉ ([] : List Addr) := by simp
  have e0 : Env0 P w K mg (hidT s1.heap H) callerA [] s1 H := { frames := rfl, mod := hM, bs := fun b o e => of_hidT e, bsz := Nat.le_of_eq (hidT_size _ _), funs := trivial, frf := fun b z => absurd z (no b), hok := hok, bare := .of_eq hg }
  refine codeAny_mono ((F _ hKb nsg).run callerA [] s1 H ⟨[.ref a], []⟩ [.ref a] [.ref a] _ _ hr e0 (hbind s1 (.ref a)) (.cons rfl .nil) (hsp hO hS)) ?_
  rintro (e | fl) s' h
  · exact (hCX H e s' h).elim
  · cases fl with
    | next => exact h.elim
    | brk => exact h.elim
    | cont => exact h.elim
    | ret u =>
      obtain ⟨v, H', os, bare, un, hok', r', q⟩ := h
      obtain rfl : v = .bl true := q
      obtain rfl : u = Value.bool true := r'
      refine ⟨rfl, OldK.of_keep ?_, os, bare⟩
      intro b o e
      by_cases q : H b = none
      · exact un.keep b o e q (no b) (by simp)
      · rcases hO b with z | ⟨ob, xs, z⟩
        · exact absurd z q
        · have e1 := (hok b _ z).1
          have e2 := (hok' b _ (un.frzs b ob _ z)).1
          rw [e] at e1
          cases e1
          exact e2
theorem lawg_call {P : Program} {w : World} {K : Fr} {mg mb : Str → Option Value} {CX : CXT} {k : Nat} {fa a : Addr} {fd : FuncData} {x : Str} {sp : Sp} {s1 : Shared} {vs : List Value} {ns : List Int} (KX : K.In s1.heap) (hns : s1.heap.Ns mainGlobals mg) (hb : s1.heap.Ns builtinsNs mb) (hbb : ∀ x : Str, x ≠ "__name__" → mb x = bootBuiltins x) (hlim : s1.heap.NoLimit) (hg : s1.gens = #[])
    (ha : s1.heap.get? a = some { cls := .type "list", data := .seq vs.toArray }) (hi : IntsAre vs ns) (hl : ns.length ≤ sizeLine) (hr : RoomG k callerA) (F : ∀ base : Heap, K.In base → base.Ns mainGlobals mg → FnG P w K mg base CX k fa fd [x] sp) (hbind : ∀ (s : Shared) (u : Value), BindsTo s fd ⟨[u], []⟩ [(x, u)])
    (hsp : ∀ H : Hp, Only H → SqL K H a (ns.map V.int) → sp [.ref a] H (fun v _ => v = .bl true) fun _ _ _ => False) (hCX : ∀ H e s', CX [] H s1 (fun _ _ _ => False) e s' → False) :
    codeAny (model P w) callerA (.call (.ref fa) ⟨[.ref a], []⟩) (fun r s' => r = .ok (.ret (.bool true)) ∧ OldK s1.heap s'.heap ∧ s'.os = s1.os ∧ AllBare s'.gens) s1 := by
  have rv := vals_ints hi
  have lenV := hi.length
  rcases hk : K.lookup a with _ | o
  · have at_a : ∀ b, (if b = a then some (HO.frz { cls := .type "list", data := .seq vs.toArray } (.lst (ns.map V.int))) else none) ≠ none → b = a := fun b z => Classical.byContradiction fun hb => z (if_neg hb)
    refine lawg_core (H := fun b => if b = a then some (.frz { cls := .type "list", data := .seq vs.toArray } (.lst (ns.map V.int))) else none) KX hns hb hbb hlim hg ha hr F hbind (hsp _) hCX (fun b => ?_) (.inl (.inr ⟨_, if_pos rfl⟩)) (fun b u z => ?_) at_a fun _ => hk
    · rcases Classical.em (b = a) with hb | hb
      · exact .inr ⟨_, _, if_pos hb⟩
      · exact .inl (if_neg hb)
    · rcases Classical.em (b = a) with hb | hb
      · subst hb
        cases (if_pos rfl).symm.trans z
        exact ⟨ha, by rw [List.length_map]; exact hl, vs, _, rv, ha⟩
      · cases (if_neg hb).symm.trans z
  · have e := KX a o hk
    rw [ha] at e
    cases e
    refine lawg_core (H := fun _ => none) KX hns hb hbb hlim hg ha hr F hbind (hsp _) hCX (fun _ => .inl rfl) (.inr ⟨_, vs.toArray, _, hk, rfl, rfl, rfl, ?_, by simpa using rv⟩) (fun b u z => by cases (show (none : Option HO) = some u from z)) (fun b z => (z rfl).elim) fun z => (z rfl).elim
    rw [List.size_toArray, lenV]
    exact hl
end
/-- the law's end: the world may be in the rule of what a call throws -/
theorem walk_w {l : PySem.W.OpenLaw} {q : Program} {loose : List Str} {XP : (Str → Option Value) → Heap → Prop} {YP : World → Heap → Prop} {d : DefRec} {x : Str} {k : Nat} {dm : DM} (hn : l.most = some 63) (hdf : d.params.defaults = []) (hr : RoomG k callerA)
    (F : ∀ (w : World) (mg : Str → Option Value) (fa : Addr) (h : Heap), YP w h → h.Ns mainGlobals mg → mg d.name = some (.ref fa) → ∃ (K : Fr) (fd : FuncData), K.In h ∧ (∀ (s : Shared) (u : Value), BindsTo s fd ⟨[u], []⟩ [(x, u)]) ∧ ∀ base : Heap, K.In base → base.Ns mainGlobals mg → FnG l.prog w K mg base (L2.CX l.prog w) k fa fd [x] (spM K (fun _ => 0) 1 dm))
    (ht : ∀ ns : List Int, ns.length ≤ 63 → ∃ S', dm [.kls (ns.map .int)] [] = some (.ok (.bl true), S')) : PySem.W.WalkO q loose XP YP l.row.toRowW d [] (fun f vs => PySem.call f vs) := by
  refine Att.attach_call hn hdf fun w s0 s1 mg mb fa o pm cd doc a vs ns G Y ho hd hcd hmg hobj hints hlen hg => ?_
  obtain ⟨K, fd, KX, hb, hF⟩ := F w mg fa _ Y G.T.g hmg
  obtain ⟨S, e⟩ := ht ns hlen
  exact lawg_call KX G.T.g G.T.b G.T.builtins G.T.nolimit hg hobj hints (Nat.le_trans hlen (by decide)) hr hF hb (fun H hO hS => law_sp hO hS e) fun H u s2 z => cx_false z
end U

set_option Elab.async false
set_option linter.all false
set_option maxRecDepth 100000
set_option maxHeartbeats 1000000
namespace U
open PySem L2
/-! ### repr of data -/
def rRepr (K : Fr) : List V → Hp → VK → Prop := fun xs H Q => ∃ v d, xs = [v] ∧ Dp K H v d ∧ d.showable = true ∧ d.hasDict = false ∧ d.depth ≤ 60 ∧ d.shown.length ≤ sizeLine ∧ Q (.str d.shown) H
section
variable {X : Cx} {cl : Cl} {E : XK} {e a b : Expr} {es : List Expr} {pos apos : Pos} {m ma mb : EM} {mr : AM}
theorem cr_repr {k : Nat} (hr : RoomG k X.A) : CallR X (.builtin "repr") (rRepr X.K) := by
  intro pins s σ H xs us Q I r h
  obtain ⟨v, d, rfl, hd, hs, hn, hdp, hz, q⟩ := h
  obtain ⟨u, rfl, rv⟩ := vals1 r
  have hun : X.A.units + (d.depth + 1) < cLine := by have := hr.units; omega
  obtain ⟨as, rd⟩ := Dp.reads I d v u hd rv
  have big : ∀ p, u = .ref p → wpAny (model X.prog X.w) X.A (call (.builtin "repr") [u]) (EP X pins σ Q) X.xe s := by
    rintro p rfl
    exact repr_of_reads' rd hs (PyData.noDict_hsm hn) hr.gd hun (fun _ _ e => e) (fun h' u tk hk => ⟨.str d.shown, H, I.kept hk, ⟨_, rfl⟩, q⟩) hz
  cases hd with
  | non => cases rv; exact P.repr_of_none ⟨.str (PyData.shown .none), H, I.tok _, ⟨_, rfl⟩, q⟩
  | bl b => cases rv; exact P.repr_of_bool ⟨.str (PyData.shown (.bool b)), H, I.tok _, ⟨_, rfl⟩, q⟩
  | int i =>
    obtain ⟨t, rfl⟩ := rv
    exact P.repr_of_int (of_decide_eq_true hs) ⟨.str (PyData.shown (.int i)), H, I.tok _, ⟨_, rfl⟩, q⟩
  | str x =>
    obtain ⟨t, rfl⟩ := rv
    exact P.repr_of_str ⟨.str (PyData.shown (.str x)), H, I.tok _, ⟨_, rfl⟩, q⟩ hz
  | lst _ _ => cases rv; exact big _ rfl
  | tup _ _ => cases rv; exact big _ rfl
def reprF (xs : List D) (S : ST) : Option (Rs D × ST) := match xs with
  | [x] => match pyS S x with
    | some d => if (d.showable && !d.hasDict && decide (d.depth ≤ 60) && decide (d.shown.length ≤ 100000)) = true then some (.ok (.str d.shown), S) else none
    | none => none
  | _ => none
theorem reprE {K : Fr} : CaE K cl E (rRepr K) reprF := by
  intro xs S z S' h q H vs Q w hx po
  unfold reprF at h
  split at h
  · split at h
    · rename_i d e
      split at h
      · rename_i hc
        cases h
        simp only [Bool.and_eq_true, Bool.not_eq_true', decide_eq_true_eq] at hc
        obtain ⟨v, rfl, r⟩ := dts1 hx
        exact ⟨v, d, rfl, pyS_py w r e, hc.1.1.1, hc.1.1.2, hc.1.2, Nat.le_trans hc.2 (by decide), fz_val w po (.str _)⟩
      · cases h
    · cases h
  · cases h
/-! ### str(n), int(text) -/
def strOfF (xs : List D) (S : ST) : Option (Rs D × ST) := match xs with
  | [.int i] => if decide (i.natAbs.log2 < 1920) = true then some (.ok (.str (toString i)), S) else none
  | _ => none
theorem strOfE {K : Fr} : CaE K cl E (fun xs H Q => ∃ i, xs = [.int i] ∧ i.natAbs.log2 < 1920 ∧ Q (.str (toString i)) H) strOfF := by
  intro xs S z S' h q H vs Q w hx po
  unfold strOfF at h
  split at h
  · split at h
    · rename_i hc
      cases h
      obtain ⟨v, rfl, r⟩ := dts1 hx
      obtain rfl := r.int_inv
      exact ⟨_, rfl, of_decide_eq_true hc, fz_val w po (.str _)⟩
    · cases h
  · cases h
def intTxF (xs : List D) (S : ST) : Option (Rs D × ST) := match xs with
  | [.str a] => match PySem.intText? a with
    | some n => if decide (a.length ≤ 640) = true then some (.ok (.int n), S) else none
    | none => none
  | _ => none
theorem intTxE {K : Fr} : CaE K cl E (fun xs H Q => ∃ a n, xs = [.str a] ∧ PySem.intText? a = some n ∧ a.length ≤ 640 ∧ Q (.int n) H) intTxF := by
  intro xs S z S' h q H vs Q w hx po
  unfold intTxF at h
  split at h
  · split at h
    · rename_i n e
      split at h
      · rename_i hc
        cases h
        obtain ⟨v, rfl, r⟩ := dts1 hx
        obtain rfl := r.str_inv
        exact ⟨_, n, rfl, e, of_decide_eq_true hc, fz_val w po (.int _)⟩
      · cases h
    · cases h
  · cases h
/-! ### methods of texts with one thing -/
def M1E (K : Fr) (cl : Cl) (E : XK) (r : V → List V → Hp → VK → Prop) (f : D → D → ST → Option (Rs D × ST)) : Prop :=
  ∀ x y S z S', f x y S = some (z, S') → ∀ q H vx vy Q, Wd K q S H → Dt K q S.length H vx x → Dt K q S.length H vy y → Post K cl q S.length H E Q z S' → r vx [vy] H (Fz Q)
def isStr : D → Bool
  | .str _ => true
  | _ => false
def eM1 (f : D → D → ST → Option (Rs D × ST)) (a b : EM) : EM := fun g S => bd (a g S) fun x S1 => if isStr x = true then bd (b g S1) fun y S2 => f x y S2 else none
theorem isStr_inv {K : Fr} {q : Nat → Addr} {n : Nat} {H : Hp} {v : V} {d : D} (h : isStr d = true) (r : Dt K q n H v d) : ∃ a, v = .str a := by
  cases d <;> simp [isStr] at h
  exact ⟨_, r.str_inv⟩
theorem ee_m1 {name : Str} {r : V → List V → Hp → VK → Prop} {f : D → D → ST → Option (Rs D × ST)} (hf : M1E X.K cl E r f) (ha : EE X cl E a ma) (hb : EE X cl E b mb) (hp : ∀ ta tb, PE X a ta → PE X b tb → PE X (.Call (.Attribute a name apos) [b] [] pos) (tM1 r ta tb)) : EE X cl E (.Call (.Attribute a name apos) [b] [] pos) (eM1 f ma mb) := by
  obtain ⟨ta, pa, ea⟩ := ha
  obtain ⟨tb, pb, eb⟩ := hb
  refine ⟨_, pe_fz (hp ta tb pa pb), fun g S z S' h q s H Q w sl po => ?_⟩
  rcases bd_inv h with ⟨x, S1, h1, h⟩ | ⟨c, fs, h1, rfl⟩
  · refine ea g S _ S1 h1 q s H _ w sl fun q1 H1 vx g1 w1 d1 => ?_
    split at h
    · rename_i hst
      refine ⟨isStr_inv hst d1, ?_⟩
      rcases bd_inv h with ⟨y, S2, h2, h⟩ | ⟨c, fs, h2, rfl⟩
      · exact eb g S1 _ S2 h2 q1 s H1 _ w1 (sl.mono g1) fun q2 H2 vy g2 w2 d2 => hf x y S2 z S' h q2 H2 vx vy Q w2 (d1.mono g2.ge) d2 (po.to (g1.trans g2))
      · exact eb g S1 _ S' h2 q1 s H1 _ w1 (sl.mono g1) (Post.ex (Q := Q) (Q' := fun _ _ => False) (po.to g1))
    · cases h
  · exact ea g S _ S' h1 q s H _ w sl (Post.ex (Q := Q) po)
/-- texts of a list -/
def strDs : List D → Option (List Str)
  | [] => some []
  | d :: ds => match d, strDs ds with
    | .str a, some b => some (a :: b)
    | _, _ => none
theorem strDs_inv {K : Fr} {q : Nat → Addr} {n : Nat} {H : Hp} : ∀ {vs : List V} {ds : List D} {zs : List Str}, strDs ds = some zs → Dts K q n H vs ds → vs = zs.map V.str
  | _, _, _, h, .nil => by simp only [strDs] at h; cases h; rfl
  | _, _, _, h, .cons r rs => by
    simp only [strDs] at h
    split at h
    · rename_i a b e2
      cases h
      obtain rfl := r.str_inv
      rw [strDs_inv e2 rs]
      rfl
    · cases h
def joinF (x y : D) (S : ST) : Option (Rs D × ST) := match x with
  | .str a => match sqS S y with
    | some ds => match strDs ds with
      | some ys => if decide ((ys.map (·.length)).sum + ys.length * a.length ≤ 100000) = true then some (.ok (.str (Txt.join a ys)), S) else none
      | none => none
    | none => none
  | _ => none
theorem joinE {K : Fr} : M1E K cl E (fun x xs H Q => ∃ a p, ∃ ys : List Str, x = .str a ∧ xs = [.ref p] ∧ (SqL K H p (ys.map V.str) ∨ SqT K H p (ys.map V.str)) ∧ (ys.map (·.length)).sum + ys.length * a.length ≤ 16777216 ∧ Q (.str (Txt.join a ys)) H) joinF := by
  intro x y S z S' h q H vx vy Q w hx hy po
  unfold joinF at h
  split at h
  · split at h
    · rename_i ds e
      split at h
      · rename_i ys e2
        split at h
        · rename_i hc
          cases h
          obtain rfl := hx.str_inv
          obtain ⟨p, vs, rfl, s, d⟩ := sqS_inv e w hy
          obtain rfl := strDs_inv e2 d
          exact ⟨_, p, ys, rfl, rfl, s, Nat.le_trans (of_decide_eq_true hc) (by decide), fz_val w po (.str _)⟩
        · cases h
      · cases h
    · cases h
  · cases h
theorem ee_join (ha : EE X cl E a ma) (hb : EE X cl E b mb) (hs : starEach [b] X.env = [(false, eval b X.env)] := by rfl) (hbase : attributeBase a "join" X.env (eval a X.env) = eval a X.env := by rfl) (hline : (apos.endLine == pos.line) = true := by rfl) : EE X cl E (.Call (.Attribute a "join" apos) [b] [] pos) (eM1 joinF ma mb) :=
  ee_m1 joinE ha hb fun ta tb pa pb => pe_join pa pb hs hbase hline
def sidxF (x y : D) (S : ST) : Option (Rs D × ST) := match x, y with
  | .str a, .str b => match Builtin.Str.occurrences a b 0 a.length 1 with
    | i :: _ => some (.ok (.int (i : Nat)), S)
    | [] => none
  | _, _ => none
theorem sidxE {K : Fr} : M1E K cl E (fun x xs H Q => ∃ a b i rest, x = .str a ∧ xs = [.str b] ∧ Builtin.Str.occurrences a b 0 a.length 1 = i :: rest ∧ Q (.int (i : Nat)) H) sidxF := by
  intro x y S z S' h q H vx vy Q w hx hy po
  unfold sidxF at h
  split at h
  · split at h
    · rename_i i rest e
      cases h
      obtain rfl := hx.str_inv
      obtain rfl := hy.str_inv
      exact ⟨_, _, i, rest, rfl, rfl, e, fz_val w po (.int _)⟩
    · cases h
  · cases h
theorem ee_sidx (ha : EE X cl E a ma) (hb : EE X cl E b mb) (hs : starEach [b] X.env = [(false, eval b X.env)] := by rfl) (hbase : attributeBase a "index" X.env (eval a X.env) = eval a X.env := by rfl) (hline : (apos.endLine == pos.line) = true := by rfl) : EE X cl E (.Call (.Attribute a "index" apos) [b] [] pos) (eM1 sidxF ma mb) :=
  ee_m1 sidxE ha hb fun ta tb pa pb => pe_m1 PySem.F.slot_str_index PySem.F.type_str_index mt_sindex pa pb hs hbase hline
/-- a list just made, by a method of a text -/
def oM1 (f : D → D → ST → Option (Rs (List D) × ST)) (a b : EM) : AM := fun g S => bd (a g S) fun x S1 => if isStr x = true then bd (b g S1) fun y S2 => f x y S2 else none
def splitF (x y : D) (S : ST) : Option (Rs (List D) × ST) := match x, y with
  | .str a, .str b => if ((b.length == 0) == false && decide (a.length ≤ 100000)) = true then some (.ok ((Txt.split a b).map D.str), S) else none
  | _, _ => none
theorem dts_strs {K : Fr} {q : Nat → Addr} {n : Nat} {H : Hp} : ∀ zs : List Str, Dts K q n H (zs.map V.str) (zs.map D.str)
  | [] => .nil
  | z :: zs => .cons (.str z) (dts_strs zs)
theorem eo_split (ha : EE X cl E a ma) (hb : EE X cl E b mb) (hs : starEach [b] X.env = [(false, eval b X.env)] := by rfl) (hbase : attributeBase a "split" X.env (eval a X.env) = eval a X.env := by rfl) (hline : (apos.endLine == pos.line) = true := by rfl) : EO X cl E (.Call (.Attribute a "split" apos) [b] [] pos) (oM1 splitF ma mb) := by
  obtain ⟨ta, pa, ea⟩ := ha
  obtain ⟨tb, pb, eb⟩ := hb
  refine ⟨_, pe_m1 PySem.F.slot_str_split PySem.F.type_str_split mt_split pa pb hs hbase hline, fun g S z S' h q s H Q w sl po => ?_⟩
  rcases bd_inv h with ⟨x, S1, h1, h⟩ | ⟨c, fs, h1, rfl⟩
  · refine ea g S _ S1 h1 q s H _ w sl fun q1 H1 vx g1 w1 d1 => ?_
    split at h
    · rename_i hst
      refine ⟨isStr_inv hst d1, ?_⟩
      rcases bd_inv h with ⟨y, S2, h2, h⟩ | ⟨c, fs, h2, rfl⟩
      · refine eb g S1 _ S2 h2 q1 s H1 _ w1 (sl.mono g1) fun q2 H2 vy g2 w2 d2 => ?_
        unfold splitF at h
        split at h
        · split at h
          · rename_i hc
            cases h
            simp only [Bool.and_eq_true, beq_iff_eq, decide_eq_true_eq] at hc
            obtain rfl := (d1.mono g2.ge).str_inv
            obtain rfl := d2.str_inv
            refine ⟨_, _, rfl, rfl, hc.1, Nat.le_trans (Nat.add_le_add_right hc.2 2) (by decide), fun l hl => ?_⟩
            exact (po.to (g1.trans g2)) q2 _ l _ (Gr.new hl) (w2.new hl) hl upd_same (fun m hm => w2.ne hl hm) (dts_strs _)
          · cases h
        · cases h
      · exact eb g S1 _ S' h2 q1 s H1 _ w1 (sl.mono g1) (Post.to (Q := fun _ _ => False) (r := .ex c fs) g1 po)
    · cases h
  · exact ea g S _ S' h1 q s H _ w sl (Post.ex (Q := fun _ _ => False) po)
/-! ### xs[i] = e -/
def gSet (mo mi : EM) : GM := fun d g S => match mo g S with
  | some (.ok (.ptr n), S1) => match mi g S1 with
    | some (.ok (.int i), S2) => match stL S2 n with
      | some ds => match ixN ds.length i with
        | some j => some (g, S2.set n (.lst (ds.set j d)))
        | none => none
      | none => none
    | _ => none
  | _ => none
theorem eg_sub {o i : Expr} {mo mi : EM} (ho : EE X cl E o mo) (hi : EE X cl E i mi) (ha : ∀ v, assign (.Subscript o i pos) X.env v = (do
      let ov ← holding [v] (eval o X.env)
      let iv ← holding [v, ov] (eval i X.env)
      standAt pos
      holding [v, ov, iv] (setItem ov iv v)
      release [v, ov, iv] []) := by intro _; rfl) : EG X (.Subscript o i pos) [] (gSet mo mi) := by
  obtain ⟨to, po, eo⟩ := ho
  obtain ⟨ti, pi, ei⟩ := hi
  refine ⟨_, pg_sub po pi set_list ha, fun d g S g' S' h q s H v Q w sl hd kk => ?_⟩
  unfold gSet at h
  split at h
  · rename_i n S1 e1
    split at h
    · rename_i k S2 e2
      split at h
      · rename_i ds e3
        split at h
        · rename_i j e4
          cases h
          refine eo g S _ S1 e1 q s H _ w sl fun q1 H1 vo g1 w1 d1 => ?_
          refine ei g S1 _ S2 e2 q1 s H1 _ w1 (sl.mono g1) fun q2 H2 vi g2 w2 d2 => ?_
          obtain ⟨rfl, hm⟩ := (d1.mono g2.ge).ptr_inv
          obtain rfl := d2.int_inv
          obtain ⟨ws, e5, r5⟩ := w2.ob _ _ (stL_some e3)
          have gg := g1.trans g2
          have le : (S2.set n (MO.lst (ds.set j d))).length = S2.length := List.length_set
          refine ⟨_, ws, k, j, rfl, rfl, e5, by rw [r5.length]; exact e4, ?_⟩
          have hv := hd.mono gg.ge
          refine kk q2 _ s ?_ (w2.wr (x := .lst _) hm e5 trivial ⟨_, upd_same, (r5.set j hv).mono (Ge.wr e5 trivial)⟩) ?_ ⟨rfl, fun _ _ => rfl⟩
          · rw [le]; exact gg.trans (Gr.wr hm e5 trivial)
          · rw [le]; exact (sl.mono gg).mono (Gr.wr hm e5 trivial)
        · cases h
      · cases h
    · cases h
  · cases h
end
end U
namespace U
open PySem L2
theorem b_repr : bootBuiltins "repr" = some (.builtin "repr") := by decide +kernel
/-- int(..) of a number, a truth, a text -/
def intAnyF (xs : List D) (S : ST) : Option (Rs D × ST) := match xs with
  | [.str a] => intTxF [.str a] S
  | xs => intOfF xs S
theorem cr_int {X : Cx} : CallR X (.type "int") (fun xs H Q => ((∃ i, xs = [.int i] ∧ Q (.int i) H) ∨ ∃ k, xs = [.bl k] ∧ Q (.int (if k then 1 else 0)) H) ∨ ∃ a n, xs = [.str a] ∧ PySem.intText? a = some n ∧ a.length ≤ 640 ∧ Q (.int n) H) := CallR.or call_int1 call_int_str
theorem intAnyE {K : Fr} {cl : Cl} {E : XK} : CaE K cl E (fun xs H Q => ((∃ i, xs = [.int i] ∧ Q (.int i) H) ∨ ∃ k, xs = [.bl k] ∧ Q (.int (if k then 1 else 0)) H) ∨ ∃ a n, xs = [.str a] ∧ PySem.intText? a = some n ∧ a.length ≤ 640 ∧ Q (.int n) H) intAnyF := by
  intro xs S z S' h q H vs Q w hx po
  unfold intAnyF at h
  split at h
  · exact .inr (intTxE _ S z S' h q H vs Q w hx po)
  · exact .inl (intOfE _ S z S' h q H vs Q w hx po)
end U

set_option Elab.async false
set_option linter.all false
set_option maxRecDepth 100000
set_option maxHeartbeats 1000000
namespace U
open PySem L2
/-! ### defs with keyword-only parameters that have defaults -/
def OkB (P : Program) (w : World) (K : Fr) (mg : Str → Option Value) (base : Heap) (cl : Cl) (x : Str) (j : Nat) (ps : List Str) (m : DM) (f : Addr) (fd : FuncData) : Prop :=
  FnG P w K mg base (L2.CX P w) j f fd ps (spM K cl ps.length m) ∧ mg x = some (.ref f) ∧ PySem.W.keepIn K (.ref f) = true
/-- the def behind x, called with n positional things, the rest are its defaults dm -/
def Okd (P : Program) (w : World) (K : Fr) (mg : Str → Option Value) (base : Heap) (cl : Cl) (x : Str) (j : Nat) (ps : List Str) (m : DM) (dm : List D) : Prop :=
  ∃ f fd ds dvs, OkB P w K mg base cl x j ps m f fd ∧ Vals dvs ds ∧ Binds K fd ps ds ∧ ∀ q N H, Dts K q N H dvs dm
section
variable {P : Program} {w : World} {K : Fr} {mg : Str → Option Value} {base : Heap} {cl : Cl} {x qual : Str} {params : Arguments} {body : List Stmt} {scope : Scope} {dvs : List V} {kws : List (Str × V)} {f : Addr} {fd : FuncData} {N ps ks : List Str} {n k j : Nat} {m : DM} {mb : SM}
theorem okb_mk (F : FunD K x qual params body scope dvs kws f fd) (hm : mg x = some (.ref f)) (S : FnScope N ps scope)
    (hb : ∀ (cdv : Value) (A : Around) (outer : List Env) (s : Shared) (H : Hp) (E : XK), RoomG k (A.deeper (PyProof.Rows.envOfC qual scope s.heap.objs.size f cdv)) → ESs (cxOf (L2.CX P w) P w K mg base N qual scope f cdv A outer s H E) cl E body mb) :
    OkB P w K mg base cl x (k + 1) ps (mkD N.length mb) f fd := ⟨fn_mk F S hb, hm, F.kp⟩
/-- the thing i of the first, second, third row -/
def pk3 {α : Type} (us mv ws : List α) (c i : Nat) : List α := match c with
  | 0 => (us.drop i).take 1
  | 1 => (mv.drop i).take 1
  | _ => (ws.drop i).take 1
def pks3 {α : Type} (cs : List (Nat × Nat)) (us mv ws : List α) : List α := cs.flatMap fun c => pk3 us mv ws c.1 c.2
theorem pks3_vals {vs mz zs : List V} {us mv ws : List Value} (h : Vals vs us) (h1 : Vals mz mv) (h2 : Vals zs ws) : ∀ cs : List (Nat × Nat), Vals (pks3 cs vs mz zs) (pks3 cs us mv ws)
  | [] => .nil
  | c :: cs => by
    show Vals (pk3 vs mz zs c.1 c.2 ++ pks3 cs vs mz zs) (pk3 us mv ws c.1 c.2 ++ pks3 cs us mv ws)
    refine Vals.append ?_ (pks3_vals h h1 h2 cs)
    unfold pk3
    split
    · exact (h.drop _).take _
    · exact (h1.drop _).take _
    · exact (h2.drop _).take _
theorem pks3_dts {q : Nat → Addr} {N : Nat} {H : Hp} {vs mz zs : List V} {ds dm es : List D} (h : Dts K q N H vs ds) (h1 : Dts K q N H mz dm) (h2 : Dts K q N H zs es) : ∀ cs : List (Nat × Nat), Dts K q N H (pks3 cs vs mz zs) (pks3 cs ds dm es)
  | [] => .nil
  | c :: cs => by
    show Dts K q N H (pk3 vs mz zs c.1 c.2 ++ pks3 cs vs mz zs) (pk3 ds dm es c.1 c.2 ++ pks3 cs ds dm es)
    refine Dts.append ?_ (pks3_dts h h1 h2 cs)
    unfold pk3
    split
    · exact (h.drop _).take _
    · exact (h1.drop _).take _
    · exact (h2.drop _).take _
theorem okk_ko (B : OkB P w K mg base cl x j ps m f fd) (F : FunD K x qual params body scope [] kws f fd) (n : Nat) (ks : List Str) (ms : List (Str × V)) (dm : List D) (cs : List (Nat × Nat)) (hk : kws ≠ []) (hms : ∀ q ∈ ms, q ∈ kws) (hdm : ∀ q N H, Dts K q N H (ms.map (·.2)) dm)
    (h : ∀ (D : Addr) (doc pm : Value) (an : Option Addr) (cdv ct : Value) (us mv ws : List Value), us.length = n → mv.length = ms.length → ws.length = ks.length →
      KwChain D ((ms.map (·.1)).zip mv) (bindArgs (PySem.W.fnOf x qual params body scope .none (.ref D) doc pm an cdv ct) ⟨us, ks.zip ws⟩) (ps.zip (pks3 cs us mv ws))) : Okk P w K mg base cl x j ps m n ks (fun ds es => pks3 cs ds dm es) := by
  obtain ⟨mv, kb⟩ := FunD.kbinds0 F n ks ms (fun us mv ws => pks3 cs us mv ws) hk hms (fun a b c => pks3_vals a b c cs) h
  exact ⟨f, fd, _, _, B.1, B.2.1, B.2.2, kb, fun q N H vs zs ds es _ _ a b => pks3_dts a (hdm q N H) b cs⟩
theorem okd_ko (B : OkB P w K mg base cl x j ps m f fd) (F : FunD K x qual params body scope [] kws f fd) (n : Nat) (dm : List D) (hk : kws ≠ []) (hn : n + kws.length = ps.length) (hdm : ∀ q N H, Dts K q N H (kws.map (·.2)) dm)
    (h : ∀ (D : Addr) (doc pm : Value) (an : Option Addr) (cdv ct : Value) (us ks : List Value), us.length = n → ks.length = kws.length →
      KwChain D ((kws.map (·.1)).zip ks) (bindArgs (PySem.W.fnOf x qual params body scope .none (.ref D) doc pm an cdv ct) ⟨us, []⟩) (ps.zip (us ++ ks))) : Okd P w K mg base cl x j ps m dm := by
  obtain ⟨ds, dv, db⟩ := FunD.binds0 F n hk hn h
  exact ⟨f, fd, ds, _, B, dv, db, hdm⟩
end
section
open PyProof.Rows
variable {X : Cx} {cl : Cl} {E : XK} {e : Expr} {es : List Expr} {pos p : Pos} {mr : AM} {x : Str} {j : Nat} {ps : List Str} {d : DM} {dm : List D}
theorem ee_callD (F : Okd X.prog X.w X.K X.mg X.base cl x j ps d dm) (hr : RoomG j X.A) (hx : Passes (L2.CX X.prog X.w) X E) (ha : EA X cl E (e :: es) mr) (hg : Gl X x := by rfl) (hdb : (x == ("__debug__" : Str)) = false := by decide)
    (he : starEach (e :: es) X.env = (false, eval e X.env) :: starEach es X.env := by rfl) (hpl : (backTo pos (starEach es X.env)).any (·.1) = false := by rfl) {nn : Nat} (hnn : ps.length = nn := by rfl) : EE X cl E (.Call (.Name x p) (e :: es) [] pos) (eCall (fun xs S => Ar nn d (xs ++ dm) S) mr) := by
  subst hnn
  obtain ⟨f, fd, us0, dvs, ⟨F, hm, hk⟩, dv, hb, rel⟩ := F
  obtain ⟨ta, pa, ea⟩ := ha
  have pe : PE X (.Call (.Name x p) (e :: es) [] pos) (tCall (spM X.K cl ps.length d) dvs E ta) := by
    constructor
    intro pins s σ H Q I h
    refine wpAny_Call_Name_kw (ld_glob I hg hm (PySem.W.callWith_K (h₀ := X.base) I.ok.mod.kin hk (thn (pa.run pos pins s σ H _ I h) ?_) he hpl) hdb)
    rintro us s1 ⟨vs, H1, I1, r, q⟩
    have r2 := r.append dv
    exact ⟨I1.kIn, rung F hr hx I1 (hb s1 us I1.kIn (by rw [← r2.length]; exact F.len _ H1 Q E q)) r2 q⟩
  refine ⟨_, pe, fun g S z S' h q s H Q w sl po => ?_⟩
  rcases bd_inv h with ⟨xs, S1, h1, h⟩ | ⟨c, fs, h1, rfl⟩
  · refine ea g S _ S1 h1 q s H _ w sl fun q1 H1 vs g1 w1 d1 => ?_
    have dd := d1.append (rel q1 S1.length H1)
    exact ⟨by rw [dd.length]; exact Ar.len h, q1, S1, _, z, S', w1, dd, Ar.get h, po.to g1⟩
  · exact ea g S _ S' h1 q s H _ w sl (Post.ex (Q' := fun _ _ => False) po)
end
end U

set_option Elab.async false
set_option linter.all false
set_option maxRecDepth 100000
set_option maxHeartbeats 1000000
namespace U
open PySem L2
/-! ### more tools of the plain part -/
section
variable {S S1 : ST} {n i j : Nat} {ds es : List D} {d e : D} {g : EV} {p q : EM}
theorem stL_lt (h : stL S n = some ds) : n < S.length := (List.getElem?_eq_some_iff.mp (stL_some h)).1
theorem stL_set (h : n < S.length) : stL (S.set n (.lst es)) n = some es := by
  unfold stL
  rw [List.getElem?_set_self h]
theorem stL_set_ne (h : n ≠ i) {o : MO} : stL (S.set n o) i = stL S i := by
  unfold stL
  rw [List.getElem?_set_ne h]
theorem stL_old (h : stL S n = some ds) {l : ST} : stL (S ++ l) n = some ds := by
  unfold stL
  rw [List.getElem?_append_left (stL_lt h), stL_some h]
theorem set_set' {o o' : MO} : (S.set n o).set n o' = S.set n o' := List.set_set ..
/-- a comprehension without if whose parts draw from the store -/
theorem cm_inv {tg : GM} {el : EM} (I : Nat → ST → Prop) (P : D → Prop) : ∀ (ds : List D) (k : Nat) (S : ST), (∀ i d S, i < ds.length → I (k + i) S → ∃ g1 S1 x S2, tg d g S = some (g1, S1) ∧ el g1 S1 = some (.ok x, S2) ∧ P x ∧ I (k + i + 1) S2) → I k S → ∃ xs S', cmD tg bYes el g ds S = some (xs, S') ∧ xs.length = ds.length ∧ (∀ x ∈ xs, P x) ∧ I (k + ds.length) S'
  | [], k, S, _, h => ⟨[], S, rfl, rfl, by simp, h⟩
  | d :: ds, k, S, st, h => by
    obtain ⟨g1, S1, x, S2, e1, e2, px, i2⟩ := st 0 d S (by simp) h
    obtain ⟨xs, S', e3, hl, hp, i3⟩ := cm_inv I P ds (k + 1) S2 (fun i d S hi hI => by
      have := st (i + 1) d S (by simpa using hi) (by rwa [show k + (i + 1) = k + 1 + i by omega])
      rwa [show k + (i + 1) + 1 = k + 1 + i + 1 by omega] at this) i2
    refine ⟨x :: xs, S', by simp only [cmD, e1, bYes, e2, e3], by simp [hl], ?_, by rwa [show k + (d :: ds).length = k + 1 + ds.length by simp; omega]⟩
    intro y hy
    rcases List.mem_cons.mp hy with rfl | hy
    · exact px
    · exact hp y hy
/-- a comprehension that sifts -/
theorem cm_sift {tg : GM} {t : BM} {el : EM} {f : D → D} {c : D → Bool} : ∀ (ds : List D), (∀ d ∈ ds, ∃ g1, tg d g S = some (g1, S) ∧ t g1 S = some (.ok (c d), S) ∧ el g1 S = some (.ok (f d), S)) → cmD tg t el g ds S = some ((ds.filter c).map f, S)
  | [], _ => rfl
  | d :: ds, h => by
    obtain ⟨g1, e1, e2, e3⟩ := h d (List.mem_cons_self ..)
    have ih := cm_sift ds fun d hd => h d (List.mem_cons_of_mem _ hd)
    cases hc : c d with
    | true => simp only [cmD, e1, e2, hc, e3, ih, List.filter_cons_of_pos hc, List.map_cons]
    | false => simp only [cmD, e1, e2, hc, ih, List.filter_cons, Bool.false_eq_true, if_false]
/-- a store's place is written -/
def seE (x : Option (List D)) (i : Int) (d : D) (n : Nat) (g : EV) (S : ST) : Option (EV × ST) := match x with
  | some ds => match ixN ds.length i with
    | some j => some (g, S.set n (.lst (ds.set j d)))
    | none => none
  | none => none
def seI (x : Option (Rs D × ST)) (d : D) (n : Nat) (g : EV) : Option (EV × ST) := match x with
  | some (.ok (.int i), S2) => seE (stL S2 n) i d n g S2
  | _ => none
def seO (x : Option (Rs D × ST)) (mi : EM) (d : D) (g : EV) : Option (EV × ST) := match x with
  | some (.ok (.ptr n), S1) => seI (mi g S1) d n g
  | _ => none
theorem gSet_e : gSet p q d g S = seO (p g S) q d g := by
  unfold gSet seO seI seE
  rfl
theorem seO_1 : seO (some (.ok (.ptr n), S)) q d g = seI (q g S) d n g := rfl
theorem seI_1 {i : Int} : seI (some (.ok (.int i), S)) d n g = seE (stL S n) i d n g S := rfl
theorem seE_1 {i : Int} : seE (some ds) i d n g S = match ixN ds.length i with
    | some j => some (g, S.set n (.lst (ds.set j d)))
    | none => none := rfl
theorem seE_j {i : Int} (h : ixN ds.length i = some j) : seE (some ds) i d n g S = some (g, S.set n (.lst (ds.set j d))) := by
  unfold seE
  simp only [h]
/-! texts -/
theorem lenF_5 {z : Str} : lenF [.str z] S = if few z.length = true then some (.ok (.int z.length), S) else none := rfl
theorem addF_4 {a b : Str} : addF (.str a) (.str b) S = if few (a.length + b.length) = true then some (.ok (.str (a ++ b)), S) else none := rfl
def sxE (x : Option Nat) (S : ST) : Option (Rs D × ST) := match x with
  | some c => some (.ok (.str ⟨#[c]⟩), S)
  | none => none
theorem sxE_1 {c : Nat} : sxE (some c) S = some (.ok (.str ⟨#[c]⟩), S) := rfl
theorem ixF_5 {z : Str} {i : Int} : ixF (.str z) (.int i) S = if few z.length = true then sxE (atI z.cps.toList i) S else none := by unfold ixF sxE; rfl
theorem itF_4 {z : Str} : itF (.str z) S = some (.ok (signs z), S) := rfl
theorem max2F_e {i j : Int} : max2F [.int i, .int j] S = some (.ok (.int (if j > i then j else i)), S) := rfl
theorem min2F_e {i j : Int} : min2F [.int i, .int j] S = some (.ok (.int (if j < i then j else i)), S) := rfl
theorem eM1_e {f : D → D → ST → Option (Rs D × ST)} : eM1 f p q g S = bd (p g S) fun x S1 => if isStr x = true then bd (q g S1) (f x) else none := rfl
def cM1 (f : D → D → ST → Option (Rs D × ST)) (q : EM) (g : EV) (x : D) (S : ST) : Option (Rs D × ST) := if isStr x = true then bd (q g S) (f x) else none
theorem eM1_c {f : D → D → ST → Option (Rs D × ST)} : eM1 f p q g S = bd (p g S) (cM1 f q g) := rfl
theorem cM1_1 {f : D → D → ST → Option (Rs D × ST)} {a : Str} : cM1 f q g (.str a) S = bd (q g S) (f (.str a)) := rfl
def cN1 (f : D → D → ST → Option (Rs (List D) × ST)) (q : EM) (g : EV) (x : D) (S : ST) : Option (Rs (List D) × ST) := if isStr x = true then bd (q g S) (f x) else none
theorem oM1_c {f : D → D → ST → Option (Rs (List D) × ST)} : oM1 f p q g S = bd (p g S) (cN1 f q g) := rfl
theorem cN1_1 {f : D → D → ST → Option (Rs (List D) × ST)} {a : Str} : cN1 f q g (.str a) S = bd (q g S) (f (.str a)) := rfl
theorem intAnyF_b {b : Bool} : intAnyF [.bl b] S = some (.ok (.int (if b then 1 else 0)), S) := rfl
theorem intAnyF_s {a : Str} : intAnyF [.str a] S = intTxF [.str a] S := rfl
theorem strOfF_1 {i : Int} : strOfF [.int i] S = if decide (i.natAbs.log2 < 1920) = true then some (.ok (.str (toString i)), S) else none := rfl
theorem reprF_ok {p : PyData} (h : pyS S d = some p) (hs : p.showable = true) (hd : p.hasDict = false) (hp : p.depth ≤ 60) (hl : p.shown.length ≤ 100000) : reprF [d] S = some (.ok (.str p.shown), S) := by
  simp [reprF, h, hs, hd, hp, hl]
theorem reprF_non : reprF [.non] S = some (.ok (.str "None"), S) := reprF_ok (p := .none) rfl rfl rfl (by decide) (by decide)
theorem log2_small {i : Int} (h : i.natAbs < 10 ^ 40) : i.natAbs.log2 < 1920 := by
  by_cases h0 : i.natAbs = 0
  · rw [h0]; decide
  · exact Nat.lt_trans ((Nat.log2_lt h0).mpr (Nat.lt_of_lt_of_le h (by decide : 10 ^ 40 ≤ 2 ^ 200))) (by decide)
theorem shown_int_small {i : Int} (h : i.natAbs < 10 ^ 40) : (PyData.shown (.int i)).length ≤ 41 := by
  have := int_text_length_le10 (k := 40) (by decide) h
  show (Str.ofString (toString i)).length ≤ 41
  rw [ofString_length]
  exact this
theorem reprF_int {i : Int} (h : i.natAbs < 10 ^ 40) : reprF [.int i] S = some (.ok (.str (PyData.shown (.int i))), S) :=
  reprF_ok (p := .int i) rfl (decide_eq_true (log2_small h)) rfl (Nat.zero_le _) (Nat.le_trans (shown_int_small h) (by decide))
theorem at_last {α : Type} {xs : List α} {x : α} : atI (xs ++ [x]) (-1) = some x := by
  unfold atI ixN
  simp only [List.length_append, List.length_singleton]
  rw [if_neg (by decide), if_pos (by omega)]
  have e : (-1 + ((xs.length + 1 : Nat) : Int)).toNat = xs.length := by omega
  rw [e]
  simp
theorem ixN_last {n : Nat} : ixN (n + 1) (-1) = some n := by
  unfold ixN
  rw [if_neg (by decide), if_pos (by omega)]
  congr 1
  omega
theorem set_last {α : Type} {xs : List α} {x y : α} : (xs ++ [x]).set xs.length y = xs ++ [y] := by simp
theorem set_self' (h : stL S n = some ds) : S.set n (.lst ds) = S := by
  have := stL_some h
  obtain ⟨hl, e⟩ := List.getElem?_eq_some_iff.mp this
  rw [← e]
  exact List.set_getElem_self hl
theorem flDs_strs : ∀ zs : List Str, flDs (zs.map D.str) = some (zs.map V.str)
  | [] => rfl
  | z :: zs => by simp only [List.map_cons, flDs, flD, flDs_strs zs]
theorem inF_p {f : Bool → Bool} {a : Str} {zs : List Str} (h : stL S n = some (zs.map D.str)) : inF f (.str a) (.ptr n) S = some (.ok (.bl (f (inV (.str a) (zs.map V.str)))), S) := by
  have e : sqS S (.ptr n) = some (zs.map D.str) := h
  unfold inF
  simp only [e, flD, flDs_strs]
theorem pyS_p {zs : List PyData} (h : stL S n = some ds) (e : pyDs ds = some zs) : pyS S (.ptr n) = some (.list zs) := by
  unfold pyS
  simp only [h, e]
  rfl
theorem isiF_p {c : String} (h : stL S n = some ds) : isiF [c] (.ptr n) S = some (.ok (.bl (isaB "list" c)), S) := by
  refine isiF_1 ?_
  show stT S n = _
  unfold stT
  rw [stL_some h]
end
end U

set_option Elab.async false
set_option linter.all false
set_option maxRecDepth 100000
set_option maxHeartbeats 1000000
namespace U
open PySem L2
section
variable {X : Cx} {cl : Cl} {E : XK} {e a b : Expr} {es : List Expr} {pos apos p : Pos} {m ma mb mc : EM} {mr mo : AM} {tg : Expr}
/-! ### divmod -/
def dvmF (xs : List D) (S : ST) : Option (Rs D × ST) := match xs with
  | [.int i, .int j] => if (decide (0 < j) && decide (j < 1073741824)) = true then some (.ok (.tup [.int (i / j), .int (i % j)]), S) else none
  | _ => none
theorem dvmE {K : Fr} : CaE K cl E (fun xs H Q => ∃ i j, xs = [.int i, .int j] ∧ CDiv i j ∧ ∀ p, H p = none → Q (.ref p) (upd H p (.tup [.int (i / j), .int (i % j)]))) dvmF := by
  intro xs S z S' h q H vs Q w hx po
  unfold dvmF at h
  split at h
  · split at h
    · rename_i hc
      cases h
      obtain ⟨v, u, rfl, r1, r2⟩ := dts2 hx
      obtain rfl := r1.int_inv
      obtain rfl := r2.int_inv
      simp only [Bool.and_eq_true, decide_eq_true_eq] at hc
      exact ⟨_, _, rfl, hc, fun p hp => fz_tup w po hp (.cons (.int _) (.cons (.int _) .nil))⟩
    · cases h
  · cases h
theorem b_divmod : bootBuiltins "divmod" = some (.builtin "divmod") := by decide +kernel
theorem b_sorted : bootBuiltins "sorted" = some (.builtin "sorted") := by decide +kernel
/-! ### sorted ints -/
def ins (x : Int) : List Int → List Int
  | [] => [x]
  | y :: ys => if x ≤ y then x :: y :: ys else y :: ins x ys
def isort : List Int → List Int
  | [] => []
  | x :: xs => ins x (isort xs)
theorem ins_perm (x : Int) : ∀ l, (ins x l).Perm (x :: l)
  | [] => .refl _
  | y :: ys => by
    unfold ins
    split
    · exact .refl _
    · exact ((ins_perm x ys).cons y).trans (.swap x y ys)
theorem isort_perm : ∀ l, (isort l).Perm l
  | [] => .nil
  | x :: xs => (ins_perm x (isort xs)).trans ((isort_perm xs).cons x)
theorem ins_sorted (x : Int) : ∀ l : List Int, l.Pairwise (· ≤ ·) → (ins x l).Pairwise (· ≤ ·)
  | [], _ => List.pairwise_singleton ..
  | y :: ys, h => by
    unfold ins
    have h1 := List.pairwise_cons.mp h
    split
    · rename_i hxy
      refine List.pairwise_cons.mpr ⟨fun z hz => ?_, h⟩
      rcases List.mem_cons.mp hz with rfl | hz
      · exact hxy
      · exact Int.le_trans hxy (h1.1 z hz)
    · rename_i hxy
      refine List.pairwise_cons.mpr ⟨fun z hz => ?_, ins_sorted x ys h1.2⟩
      rcases List.mem_cons.mp ((ins_perm x ys).mem_iff.mp hz) with rfl | hz
      · omega
      · exact h1.1 z hz
theorem isort_sorted : ∀ l, (isort l).Pairwise (· ≤ ·)
  | [] => .nil
  | x :: xs => ins_sorted x _ (isort_sorted xs)
theorem isort_eq {l l' : List Int} (h : l'.Perm l) (hs : l'.Pairwise (· ≤ ·)) : l' = isort l :=
  List.Perm.eq_of_pairwise (fun a b _ _ h1 h2 => Int.le_antisymm h1 h2) hs (isort_sorted l) (h.trans (isort_perm l).symm)
def intDs : List D → Option (List Int)
  | [] => some []
  | d :: ds => match d, intDs ds with
    | .int a, some b => some (a :: b)
    | _, _ => none
theorem intDs_inv {K : Fr} {q : Nat → Addr} {n : Nat} {H : Hp} : ∀ {vs : List V} {ds : List D} {zs : List Int}, intDs ds = some zs → Dts K q n H vs ds → vs = zs.map V.int
  | _, _, _, h, .nil => by simp only [intDs] at h; cases h; rfl
  | _, _, _, h, .cons r rs => by
    simp only [intDs] at h
    split at h
    · rename_i a b e2
      cases h
      obtain rfl := r.int_inv
      rw [intDs_inv e2 rs]
      rfl
    · cases h
def sortF (xs : List D) (S : ST) : Option (Rs (List D) × ST) := match xs with
  | [x] => match lsS S x with
    | some ds => match intDs ds with
      | some ns => if decide (ns.length < 64) = true then some (.ok ((isort ns).map D.int), S) else none
      | none => none
    | none => none
  | _ => none
theorem sortO {K : Fr} : CaO K cl E (rSorted K) sortF := by
  intro xs S z S' h q H vs Q w hx po
  unfold sortF at h
  split at h
  · split at h
    · rename_i ds e
      split at h
      · rename_i ns e2
        split at h
        · rename_i hc
          cases h
          obtain ⟨v, rfl, r⟩ := dts1 hx
          obtain ⟨a, vs, rfl, s, d⟩ := lsS_inv e w r
          obtain rfl := intDs_inv e2 d
          refine ⟨a, ns, rfl, s, of_decide_eq_true hc, fun ns' l hp hs hl => ?_⟩
          obtain rfl := isort_eq hp hs
          exact po q _ l _ (Gr.new hl) (w.new hl) hl upd_same (fun m hm => w.ne hl hm) (dts_ints _)
        · cases h
      · cases h
    · cases h
  · cases h
/-! ### list(range(a, b)) -/
def rgF (x y : D) (S : ST) : Option (Rs (List D) × ST) := match x, y with
  | .int i, .int j => if (okI i && okI j && decide ((j - i).toNat ≤ 100000)) = true then some (.ok (rngD i j), S) else none
  | _, _ => none
def oRg2 (ma mb : EM) : AM := fun g S => bd (ma g S) fun x S1 => bd (mb g S1) fun y S2 => rgF x y S2
theorem dts_rg {K : Fr} {q : Nat → Addr} {n : Nat} {H : Hp} (i j : Int) : Dts K q n H (rgV i j) (rngD i j) := by
  unfold rgV rngD
  induction List.range (j - i).toNat with
  | nil => exact .nil
  | cons k ks ih => exact .cons (.int _) ih
theorem eo_listRg {p2 pos2 : Pos} (hc : X.calm = true) (hml : X.mg "list" = none) (hmr : X.mg "range" = none) (ha : EE X cl E a ma) (hb : EE X cl E b mb) (hgl : Gl X "list" := by rfl) (hgr : Gl X "range" := by rfl)
    (na : starEach [a, b] X.env = (false, eval a X.env) :: starEach [b] X.env := by rfl) (nb : starEach [b] X.env = (false, eval b X.env) :: starEach [] X.env := by rfl) (hp : (backTo pos2 (starEach [b] X.env)).any (·.1) = false := by rfl)
    (nc : starEach [.Call (.Name "range" p2) [a, b] [] pos2] X.env = (false, eval (.Call (.Name "range" p2) [a, b] [] pos2) X.env) :: starEach [] X.env := by rfl) :
    EO X cl E (.Call (.Name "list" p) [.Call (.Name "range" p2) [a, b] [] pos2] [] pos) (oRg2 ma mb) := by
  obtain ⟨ta, pa, ea⟩ := ha
  obtain ⟨tb, pb, eb⟩ := hb
  refine ⟨_, pe_listRg hc hgl hml (prg_2 hgr hmr pa pb na nb hp) nc, fun g S z S' h q s H Q w sl po => ?_⟩
  rcases bd_inv h with ⟨x, S1, h1, h⟩ | ⟨c, fs, h1, rfl⟩
  · refine ea g S _ S1 h1 q s H _ w sl fun q1 H1 vx g1 w1 d1 => ?_
    rcases bd_inv h with ⟨y, S2, h2, h⟩ | ⟨c, fs, h2, rfl⟩
    · refine eb g S1 _ S2 h2 q1 s H1 _ w1 (sl.mono g1) fun q2 H2 vy g2 w2 d2 => ?_
      unfold rgF at h
      split at h
      · split at h
        · rename_i hc
          cases h
          obtain rfl := (d1.mono g2.ge).int_inv
          obtain rfl := d2.int_inv
          simp only [okI, Bool.and_eq_true, decide_eq_true_eq] at hc
          exact ⟨_, _, rfl, rfl, ⟨hc.1.1.1, hc.1.1.2, hc.1.2.1, hc.1.2.2, Nat.le_trans hc.2 (by decide)⟩, fun l hl => po q2 _ l _ ((g1.trans g2).trans (Gr.new hl)) (w2.new hl) ((g1.trans g2).free hl) upd_same (fun m hm => w2.ne hl hm) (dts_rg _ _)⟩
        · cases h
      · cases h
    · exact eb g S1 _ S' h2 q1 s H1 _ w1 (sl.mono g1) (Post.to (Q := fun _ _ => False) (r := .ex c fs) g1 po)
  · exact ea g S _ S' h1 q s H _ w sl (Post.ex (Q := fun _ _ => False) po)
/-! ### range(a, b, c) -/
def rngC (lo c : Int) (n : Nat) : List D := (List.range n).map fun (i : Nat) => .int (lo + i * c)
theorem wk_rngC {K : Fr} {q : Nat → Addr} {n : Nat} {H : Hp} {lo c : Int} {k : Nat} : Wk K q n H (Itc lo c k) (rngC lo c k) := by
  intro q2 n2 H2 g i
  refine ⟨fun d e => ?_, fun e => ?_⟩
  · simp only [rngC, List.getElem?_map, Option.map_eq_some_iff] at e
    obtain ⟨j, e1, rfl⟩ := e
    obtain ⟨hlt, e2⟩ := List.getElem?_eq_some_iff.mp e1
    rw [List.getElem_range] at e2
    subst e2
    rw [List.length_range] at hlt
    refine ⟨hlt, fun x H3 y => ?_⟩
    obtain ⟨rfl, rfl⟩ := y
    exact ⟨.refl, fun _ _ w => w, .int _⟩
  · show k ≤ i
    rw [e]
    simp [rngC]
def rng3F (xs : List D) (S : ST) : Option (Rs (List D) × ST) := match xs with
  | [.int i, .int j, .int c] => if (decide (c ≠ 0) && decide (c.natAbs < 1073741824) && Builtin.Range.small i j c && decide (0 ≤ Builtin.Range.rangeSize i j c)) = true then some (.ok (rngC i c (Builtin.Range.rangeSize i j c).toNat), S) else none
  | _ => none
theorem ei_rng3 {c : Expr} (ha : EA X cl E [a, b, c] mr) (hg : Gl X "range") (hm : X.mg "range" = none) (hs : starEach [a, b, c] X.env = (false, eval a X.env) :: starEach [b, c] X.env := by rfl) (hpl : (backTo pos (starEach [b, c] X.env)).any (·.1) = false := by rfl) :
    EI X cl E tg (.Call (.Name "range" p) [a, b, c] [] pos) (iCall rng3F mr) := by
  obtain ⟨ta, pa, ea⟩ := ha
  refine ⟨_, pi_range3 hg hm pa hs hpl, fun g S z S' h q s H R w sl po => ?_⟩
  rcases bd_inv h with ⟨xs, S1, h1, h⟩ | ⟨c, fs, h1, rfl⟩
  · refine ea g S _ S1 h1 q s H _ w sl fun q1 H1 vs g1 w1 d1 => ?_
    unfold rng3F at h
    split at h
    · split at h
      · rename_i i j c hj
        cases h
        cases d1 with
        | cons r1 rs =>
          obtain ⟨v, u, rfl, r2, r3⟩ := dts2 rs
          obtain rfl := r1.int_inv
          obtain rfl := r2.int_inv
          obtain rfl := r3.int_inv
          simp only [Bool.and_eq_true, decide_eq_true_eq] at hj
          exact ⟨i, j, c, _, rfl, ⟨hj.1.1.1, hj.1.1.2, hj.1.2, (Int.toNat_of_nonneg hj.2).symm⟩, po q1 H1 _ g1 w1 wk_rngC⟩
      · cases h
    · cases h
  · exact ea g S _ S' h1 q s H _ w sl po
/-! ### xs.clear(), xs.extend(a new list), a list some times as a new one -/
def eM0 (T : String) (f : D → ST → Option (Rs D × ST)) (a : EM) : EM := fun g S => bd (a g S) fun x S1 => if rcv T S1 x = true then f x S1 else none
def clrF (x : D) (S : ST) : Option (Rs D × ST) := match x with
  | .ptr n => match stL S n with
    | some _ => some (.ok .non, S.set n (.lst []))
    | none => none
  | _ => none
theorem ee_clear (ha : EE X cl E a ma) (hbase : attributeBase a "clear" X.env (eval a X.env) = eval a X.env := by rfl) (hline : (apos.endLine == pos.line) = true := by rfl) : EE X cl E (.Call (.Attribute a "clear" apos) [] [] pos) (eM0 "list" clrF ma) := by
  obtain ⟨ta, pa, ea⟩ := ha
  refine ⟨_, pe_bm0 PySem.F.plainAttrs_list PySem.F.slot_list_clear PySem.F.type_list_clear mt_clear pa hbase hline, fun g S z S' h q s H Q w sl po => ?_⟩
  rcases bd_inv h with ⟨x, S1, h1, h⟩ | ⟨c, fs, h1, rfl⟩
  · refine ea g S _ S1 h1 q s H _ w sl fun q1 H1 vx g1 w1 d1 => ?_
    split at h
    · rename_i hty
      refine ⟨rcv_ty hty w1 d1, ?_⟩
      unfold clrF at h
      split at h
      · split at h
        · rename_i ds e
          cases h
          obtain ⟨rfl, hm⟩ := d1.ptr_inv
          obtain ⟨ws, e1, r1⟩ := w1.ob _ _ (stL_some e)
          exact ⟨_, ws, rfl, rfl, e1, post_wr (x := .lst []) w1 hm e1 trivial ⟨[], upd_same, .nil⟩ .non (po.to g1)⟩
        · cases h
      · cases h
    · cases h
  · exact ea g S _ S' h1 q s H _ w sl (Post.ex (Q := Q) po)
def extF (x : D) (xs : List D) (S : ST) : Option (Rs D × ST) := match x with
  | .ptr n => match stL S n with
    | some ds => if few (ds.length + xs.length) = true then some (.ok .non, S.set n (.lst (ds ++ xs))) else none
    | none => none
  | _ => none
def eExt (a : EM) (r : AM) : EM := fun g S => bd (a g S) fun x S1 => if rcv "list" S1 x = true then bd (r g S1) (extF x) else none
theorem ee_extend (ha : EE X cl E a ma) (hb : EO X cl E b mo) (hbase : attributeBase a "extend" X.env (eval a X.env) = eval a X.env := by rfl)
    (hfew : ((backTo pos (starEach [b] X.env)).all (fun x => !x.1) && (backToKw pos (keywordEach [] X.env)).all (fun x => x.1.isSome) && decide ([b].length + ([] : List Keyword).length + (if ([] : List Keyword).isEmpty then 0 else 1) < 30)) = true := by rfl)
    (hline : (apos.endLine == pos.line) = true := by rfl) (hs : starEach [b] X.env = (false, eval b X.env) :: starEach [] X.env := by rfl) : EE X cl E (.Call (.Attribute a "extend" apos) [b] [] pos) (eExt ma mo) := by
  obtain ⟨ta, pa, ea⟩ := ha
  obtain ⟨tb, pb, eb⟩ := hb
  refine ⟨_, pe_bm PySem.F.plainAttrs_list PySem.F.slot_list_extend PySem.F.type_list_extend mt_extend pa (pa_cons pb pa_nil hs) hbase hfew hline hs, fun g S z S' h q s H Q w sl po => ?_⟩
  rcases bd_inv h with ⟨x, S1, h1, h⟩ | ⟨c, fs, h1, rfl⟩
  · refine ea g S _ S1 h1 q s H _ w sl fun q1 H1 vx g1 w1 d1 => ?_
    split at h
    · rename_i hty
      refine ⟨rcv_ty hty w1 d1, ?_⟩
      rcases bd_inv h with ⟨xs, S2, h2, h⟩ | ⟨c, fs, h2, rfl⟩
      · refine eb g S1 _ S2 h2 q1 s H1 _ w1 (sl.mono g1) fun q2 H2 l vs g2 w2 h0 hl hn d2 => ?_
        unfold extF at h
        split at h
        · split at h
          · rename_i ds e
            split at h
            · rename_i hf
              cases h
              obtain ⟨rfl, hm⟩ := (d1.mono g2.ge).ptr_inv
              obtain ⟨ws, e1, r1⟩ := w2.ob _ _ (stL_some e)
              refine ⟨_, l, ws, vs, rfl, rfl, e1, hl, by rw [r1.length, d2.length]; exact few_le hf, ?_⟩
              exact post_wr (x := .lst _) w2 hm e1 trivial ⟨_, upd_same, (r1.append d2).mono (Ge.wr e1 trivial)⟩ .non (po.to (g1.trans g2))
            · cases h
          · cases h
        · cases h
      · exact eb g S1 _ S' h2 q1 s H1 _ w1 (sl.mono g1) (Post.ex (Q := Q) (Q' := fun _ _ => False) (po.to g1))
    · cases h
  · exact ea g S _ S' h1 q s H _ w sl (Post.ex (Q := Q) po)
def oRep (a b : EM) : AM := fun g S => bd (a g S) fun x S1 => bd (b g S1) fun y S2 => match lsT S2 x, y with
  | some a, .int k => if (decide (0 ≤ k) && decide (k ≤ 1000) && decide (a.length ≤ 1000)) = true then some (.ok (List.replicate k.toNat a).flatten, S2) else none
  | _, _ => none
theorem eo_rep (ha : EE X cl E a ma) (hb : EE X cl E b mb) : EO X cl E (.BinOp a .Mult b pos) (oRep ma mb) := by
  obtain ⟨ta, pa, ea⟩ := ha
  obtain ⟨tb, pb, eb⟩ := hb
  refine ⟨_, pe_op op_repF pa pb, fun g S z S' h q s H Q w sl po => ?_⟩
  rcases bd_inv h with ⟨x, S1, h1, h⟩ | ⟨c, fs, h1, rfl⟩
  · refine ea g S _ S1 h1 q s H _ w sl fun q1 H1 vx g1 w1 d1 => ?_
    rcases bd_inv h with ⟨y, S2, h2, h⟩ | ⟨c, fs, h2, rfl⟩
    · refine eb g S1 _ S2 h2 q1 s H1 _ w1 (sl.mono g1) fun q2 H2 vy g2 w2 d2 => ?_
      split at h
      · rename_i as k e1
        split at h
        · rename_i hf
          cases h
          simp only [Bool.and_eq_true, decide_eq_true_eq] at hf
          obtain ⟨l, vs, rfl, s1, r1⟩ := lsT_inv e1 w2 (d1.mono g2.ge)
          obtain rfl := d2.int_inv
          have hl := r1.length
          refine ⟨_, k, vs, rfl, rfl, s1, by omega, by omega, ?_, fun p hp => ?_⟩
          · rw [hl]
            exact Nat.le_trans (Nat.mul_le_mul hf.2 (show k.toNat ≤ 1000 by omega)) (by decide)
          · exact po q2 _ p _ ((g1.trans g2).trans (Gr.new hp)) (w2.new hp) ((g1.trans g2).free hp) upd_same (fun m hm => w2.ne hp hm) ((r1.rep k.toNat).mono (Gr.new hp).ge)
        · cases h
      · cases h
    · exact eb g S1 _ S' h2 q1 s H1 _ w1 (sl.mono g1) (Post.to (Q := fun _ _ => False) (r := .ex c fs) g1 po)
  · exact ea g S _ S' h1 q s H _ w sl (Post.ex (Q := fun _ _ => False) po)
end
end U

set_option Elab.async false
set_option linter.all false
set_option maxRecDepth 100000
set_option maxHeartbeats 1000000
namespace U
open PySem L2
/-! ### dicts of the store: {}, d[k], d[k] = v -/
def stD (S : ST) (n : Nat) : Option (List (Key × D)) := match S[n]? with
  | some (.dic kvs) => some kvs
  | _ => none
theorem stD_some {S : ST} {n : Nat} {kvs : List (Key × D)} (h : stD S n = some kvs) : S[n]? = some (.dic kvs) := by
  unfold stD at h
  split at h
  · rename_i e; cases h; exact e
  · cases h
def valD (kvs : List (Key × D)) (k : Key) : Option D := match kvs with
  | [] => none
  | kv :: r => if kv.1 = k then some kv.2 else valD r k
def putD (kvs : List (Key × D)) (k : Key) (d : D) : List (Key × D) := match kvs with
  | [] => [(k, d)]
  | kv :: r => if kv.1 = k then (k, d) :: r else kv :: putD r k d
def nodupK (kvs : List (Key × D)) : Bool := match kvs with
  | [] => true
  | kv :: r => (r.all fun x => decide (x.1 ≠ kv.1)) && nodupK r
section
variable {K : Fr} {q : Nat → Addr} {n : Nat} {H : Hp}
theorem valD_ok : ∀ {kv : List (Key × V)} {kvs : List (Key × D)} {k : Key} {d : D}, Dkv K q n H kv kvs → valD kvs k = some d → ∃ v, valV kv k = some v ∧ Dt K q n H v d
  | _, _, _, _, .nil, h => by cases h
  | _, _, k, d, .cons (k := k') (v := v) (vs := vs) r rs, h => by
    unfold valD at h
    split at h
    · rename_i e
      cases h
      refine ⟨v, ?_, r⟩
      have e : k' = k := e
      subst e
      simp [valV]
    · rename_i e
      have e : ¬ k' = k := e
      obtain ⟨v2, h1, h2⟩ := valD_ok rs h
      refine ⟨v2, ?_, h2⟩
      unfold valV at h1 ⊢
      rw [List.find?_cons_of_neg (by simpa using e)]
      exact h1
theorem Dkv.keys : ∀ {kv : List (Key × V)} {kvs : List (Key × D)}, Dkv K q n H kv kvs → kv.map (·.1) = kvs.map (·.1)
  | _, _, .nil => rfl
  | _, _, .cons _ rs => by simp [rs.keys]
theorem Dkv.length : ∀ {kv : List (Key × V)} {kvs : List (Key × D)}, Dkv K q n H kv kvs → kv.length = kvs.length
  | _, _, .nil => rfl
  | _, _, .cons _ rs => by simp [rs.length]
theorem Dkv.app : ∀ {kv kv2 : List (Key × V)} {kvs kvs2 : List (Key × D)}, Dkv K q n H kv kvs → Dkv K q n H kv2 kvs2 → Dkv K q n H (kv ++ kv2) (kvs ++ kvs2)
  | _, _, _, _, .nil, h => h
  | _, _, _, _, .cons r rs, h => .cons r (rs.app h)
/-- putK by going along -/
def putV (kvs : List (Key × V)) (k : Key) (v : V) : List (Key × V) := match kvs with
  | [] => [(k, v)]
  | kv :: r => if kv.1 = k then (k, v) :: r else kv :: putV r k v
theorem putV_no : ∀ {kvs : List (Key × V)} {k : Key} {v : V}, (∀ x ∈ kvs, x.1 ≠ k) → putV kvs k v = kvs ++ [(k, v)] ∧ kvs.map (fun kv => if kv.1 = k then (kv.1, v) else kv) = kvs
  | [], _, _, _ => ⟨rfl, rfl⟩
  | kv :: r, k, v, h => by
    have h1 := h kv (List.mem_cons_self ..)
    obtain ⟨h2, h3⟩ := putV_no (v := v) fun x hx => h x (List.mem_cons_of_mem _ hx)
    exact ⟨by simp [putV, h1, h2], by simp [h1]; exact h3⟩
theorem putV_eq : ∀ (kvs : List (Key × V)) (k : Key) (v : V), (kvs.map (·.1)).Nodup → putK kvs k v = putV kvs k v
  | [], k, v, _ => rfl
  | kv :: r, k, v, h => by
    have h1 := List.nodup_cons.mp (show (kv.1 :: r.map (·.1)).Nodup from h)
    by_cases e : kv.1 = k
    · have hn : ∀ x ∈ r, x.1 ≠ k := fun x hx z => h1.1 (by rw [e, ← z]; exact List.mem_map_of_mem hx)
      unfold putK
      rw [if_pos (by simp [e]), List.map_cons, (putV_no (v := v) hn).2]
      simp [putV, e]
    · have ih := putV_eq r k v h1.2
      unfold putK at ih ⊢
      by_cases a : (r.any fun kv => decide (kv.1 = k)) = true
      · rw [if_pos a] at ih
        rw [if_pos (by rw [List.any_cons, a, Bool.or_true]), List.map_cons, if_neg e, ih]
        simp [putV, e]
      · rw [if_neg a] at ih
        have hna : ¬ ((kv :: r).any fun kv => decide (kv.1 = k)) = true := by
          rw [List.any_cons, Bool.or_eq_true]
          rintro (z | z)
          · exact e (of_decide_eq_true z)
          · exact a z
        rw [if_neg hna, List.cons_append, ih]
        simp [putV, e]
theorem putD_ok : ∀ {kv : List (Key × V)} {kvs : List (Key × D)} {k : Key} {d : D} {v : V}, Dkv K q n H kv kvs → Dt K q n H v d → Dkv K q n H (putV kv k v) (putD kvs k d)
  | _, _, k, d, v, .nil, r => .cons r .nil
  | _, _, k, d, v, .cons (k := k') r0 rs, r => by
    unfold putV putD
    by_cases e : k' = k
    · rw [if_pos e, if_pos e]
      exact .cons r rs
    · rw [if_neg e, if_neg e]
      exact .cons r0 (putD_ok rs r)
theorem nodupK_ok : ∀ {kvs : List (Key × D)}, nodupK kvs = true → (kvs.map (·.1)).Nodup
  | [], _ => List.nodup_nil
  | kv :: r, h => by
    unfold nodupK at h
    rw [Bool.and_eq_true] at h
    refine List.nodup_cons.mpr ⟨fun z => ?_, nodupK_ok h.2⟩
    obtain ⟨x, hx, e⟩ := List.mem_map.mp z
    have := List.all_eq_true.mp h.1 x hx
    simp at this
    exact this e
end
section
variable {X : Cx} {cl : Cl} {E : XK} {e a b c : Expr} {es : List Expr} {pos pos' p : Pos} {m ma mb mc : EM} {mr : AM}
def eDicP : EM := fun _ S => some (.ok (.ptr S.length), S ++ [.dic []])
theorem ee_dicP : EE X cl E (.Dict [] [] pos) eDicP := by
  refine ⟨_, pe_dnewK, fun g S z S' h q s H Q w sl po => ?_⟩
  cases h
  intro p hp
  have e1 : (S ++ [MO.dic []]).length = S.length + 1 := by rw [List.length_append, List.length_singleton]
  refine po (put q S.length p) _ (.ref p) ?_ ((w.new hp).adopt (fun m hm => w.ne hp hm) ⟨[], upd_same, .nil⟩) ?_
  · rw [e1]; exact (Gr.new hp).adopt hp
  · rw [e1]
    have := Dt.ptr (K := X.K) (q := put q S.length p) (n := S.length + 1) (H := upd H p (.dK [])) (m := S.length) (Nat.lt_succ_self _)
    rw [put_eq] at this
    exact this
/-- what stands in a dict of the store or a shut one -/
def dcS (S : ST) : D → Option (List (Key × D))
  | .ptr n => stD S n
  | .dic kvs => some kvs
  | _ => none
def dgF (x y : D) (S : ST) : Option (Rs D × ST) := match dcS S x, keyD y with
  | some kvs, some k => match valD kvs k with
    | some d => some (.ok d, S)
    | none => none
  | _, _ => none
theorem dcS_inv {K : Fr} {q : Nat → Addr} {S : ST} {H : Hp} {v : V} {d : D} {kvs : List (Key × D)} (h : dcS S d = some kvs) (w : Wd K q S H) (r : Dt K q S.length H v d) : ∃ a kv, v = .ref a ∧ Rd H a (.dK kv) ∧ Dkv K q S.length H kv kvs := by
  cases r with
  | ptr hm =>
    obtain ⟨kv, e, dk⟩ := w.ob _ _ (stD_some h)
    exact ⟨_, kv, rfl, .inl e, dk⟩
  | dic e dk => cases h; exact ⟨_, _, rfl, .inr ⟨_, e⟩, dk⟩
  | _ => cases h
theorem ee_dget (hu : X.A.units + 1 < cLine) (ha : EE X cl E a ma) (hb : EE X cl E b mb) (hs : NoSl b := by exact fun _ _ => rfl) : EE X cl E (.Subscript a b pos) (eOp dgF ma mb) := by
  obtain ⟨ta, pa, ea⟩ := ha
  obtain ⟨tb, pb, eb⟩ := hb
  refine ⟨_, pe_dget hu pa pb hs, fun g S z S' h q s H Q w sl po => ?_⟩
  rcases bd_inv h with ⟨x, S1, h1, h⟩ | ⟨c, fs, h1, rfl⟩
  · refine ea g S _ S1 h1 q s H _ w sl fun q1 H1 vx g1 w1 d1 => ?_
    rcases bd_inv h with ⟨y, S2, h2, h⟩ | ⟨c, fs, h2, rfl⟩
    · refine eb g S1 _ S2 h2 q1 s H1 _ w1 (sl.mono g1) fun q2 H2 vy g2 w2 d2 => ?_
      unfold dgF at h
      split at h
      · rename_i kvs k e1 e2
        split at h
        · rename_i d e3
          cases h
          obtain ⟨l, kv, rfl, rd, dk⟩ := dcS_inv e1 w2 (d1.mono g2.ge)
          obtain rfl := keyD_inv e2 d2
          obtain ⟨v, hv, dv⟩ := valD_ok dk e3
          exact ⟨l, v, rfl, .inl ⟨kv, k, rd, rfl, hv.symm⟩, po q2 H2 v (g1.trans g2) w2 dv⟩
        · cases h
      · cases h
    · exact eb g S1 _ S' h2 q1 s H1 _ w1 (sl.mono g1) (Post.ex (Q := Q) (po.to g1))
  · exact ea g S _ S' h1 q s H _ w sl (Post.ex (Q := Q) po)
def dpF (v x y : D) (S : ST) : Option ST := match x, keyD y with
  | .ptr n, some k => match stD S n with
    | some kvs => if (nodupK kvs && few (kvs.length + 1)) = true then some (S.set n (.dic (putD kvs k v))) else none
    | none => none
  | _, _ => none
def sDPutM (mo mi mv : EM) : SM := fun g S => bs (mv g S) fun v S1 => bs (mo g S1) fun x S2 => bs (mi g S2) fun y S3 => match dpF v x y S3 with
  | some S4 => some (.nx g, S4)
  | none => none
theorem st_dput (hu : X.A.units + 1 < cLine) (ha : EE X cl E a ma) (hb : EE X cl E b mb) (hc : EE X cl E c mc) (hs : swapsWith c (some (.Subscript a b pos')) pos.line X.env = pure false := by rfl) : ES X cl E (.Assign [.Subscript a b pos'] c pos) (sDPutM ma mb mc) := by
  obtain ⟨ta, pa, ea⟩ := ha
  obtain ⟨tb, pb, eb⟩ := hb
  obtain ⟨tc, pc, ec⟩ := hc
  refine ⟨_, ps_dput hu pa pb pc hs, fun g S o S' h q s H D w sl po => ?_⟩
  rcases bs_inv h with ⟨v, S1, h1, h⟩ | ⟨c, fs, h1, rfl⟩
  · refine ec g S _ S1 h1 q s H _ w sl fun q1 H1 vv g1 w1 d1 => ?_
    rcases bs_inv h with ⟨x, S2, h2, h⟩ | ⟨c, fs, h2, rfl⟩
    · refine ea g S1 _ S2 h2 q1 s H1 _ w1 (sl.mono g1) fun q2 H2 vx g2 w2 d2 => ?_
      rcases bs_inv h with ⟨y, S3, h3, h⟩ | ⟨c, fs, h3, rfl⟩
      · refine eb g S2 _ S3 h3 q2 s H2 _ w2 (sl.mono (g1.trans g2)) fun q3 H3 vy g3 w3 d3 => ?_
        split at h
        · rename_i S4 h4
          cases h
          unfold dpF at h4
          split at h4
          · rename_i n k e2
            split at h4
            · rename_i kvs e3
              split at h4
              · rename_i hc
                cases h4
                rw [Bool.and_eq_true] at hc
                obtain ⟨rfl, hm⟩ := (d2.mono g3.ge).ptr_inv
                obtain rfl := keyD_inv e2 d3
                obtain ⟨kv, e4, dk⟩ := w3.ob _ _ (stD_some e3)
                have gg := (g1.trans g2).trans g3
                have dv := (d1.mono g2.ge).mono g3.ge
                have nd : (kv.map (·.1)).Nodup := by rw [dk.keys]; exact nodupK_ok hc.1
                have le : (S3.set n (MO.dic (putD kvs k v))).length = S3.length := List.length_set
                refine ⟨_, _, rfl, DPut.k e4 ?_, ?_⟩
                · rw [dk.length]
                  exact Nat.lt_of_lt_of_le (Nat.lt_succ_self _) (few_le hc.2)
                · rw [putV_eq kv k vv nd]
                  refine po q3 _ s ?_ (w3.wr (x := .dic _) hm e4 trivial ⟨_, upd_same, (putD_ok dk dv).mono (Ge.wr e4 trivial)⟩) ?_
                  · rw [le]; exact gg.trans (Gr.wr hm e4 trivial)
                  · rw [le]; exact (sl.mono gg).mono (Gr.wr hm e4 trivial)
              · cases h4
            · cases h4
          · cases h4
        · cases h
      · exact eb g S2 _ S' h3 q2 s H2 _ w2 (sl.mono (g1.trans g2)) (Post.to (Q := fun _ _ => False) (r := .ex c fs) (g1.trans g2) po)
    · exact ea g S1 _ S' h2 q1 s H1 _ w1 (sl.mono g1) (Post.to (Q := fun _ _ => False) (r := .ex c fs) g1 po)
  · exact ec g S _ S' h1 q s H _ w sl (Post.ex (Q := fun _ _ => False) po)
end
end U
namespace U
open PySem L2
/-! ### reading through the store -/
def mapO {α β : Type} (f : α → Option β) : List α → Option (List β)
  | [] => some []
  | d :: ds => match f d, mapO f ds with
    | some a, some b => some (a :: b)
    | _, _ => none
def pyF (S : ST) : Nat → D → Option PyData
  | 0, _ => none
  | _ + 1, .non => some .none
  | _ + 1, .bl b => some (.bool b)
  | _ + 1, .int i => some (.int i)
  | _ + 1, .str s => some (.str s)
  | k + 1, .tup ds => (mapO (pyF S k) ds).map .tuple
  | k + 1, .lst ds => (mapO (pyF S k) ds).map .list
  | k + 1, .kls ds => (mapO (pyF S k) ds).map .list
  | k + 1, .ptr n => match stL S n with
    | some ds => (mapO (pyF S k) ds).map .list
    | none => none
  | _ + 1, .dic _ => none
  | _ + 1, .cst _ => none
section
variable {K : Fr} {q : Nat → Addr} {S : ST} {H : Hp}
theorem mapO_dp {f : D → Option PyData} : ∀ {vs : List V} {ds : List D} {ps : List PyData}, (∀ v d p, Dt K q S.length H v d → f d = some p → Dp K H v p) → Dts K q S.length H vs ds → mapO f ds = some ps → DpAll K H vs ps
  | _, _, _, _, .nil, h => by simp only [mapO] at h; cases h; exact .nil
  | _, _, _, hf, .cons r rs, h => by
    simp only [mapO] at h
    split at h
    · rename_i a b e1 e2
      cases h
      exact .cons (hf _ _ _ r e1) (mapO_dp hf rs e2)
    · cases h
theorem pyF_dp (w : Wd K q S H) : ∀ (k : Nat) (v : V) (d : D) (p : PyData), Dt K q S.length H v d → pyF S k d = some p → Dp K H v p
  | 0, _, _, _, _, h => by cases h
  | k + 1, v, d, p, r, h => by
    have ih := pyF_dp w k
    cases r with
    | non => simp only [pyF] at h; cases h; exact .non
    | bl b => simp only [pyF] at h; cases h; exact .bl b
    | int i => simp only [pyF] at h; cases h; exact .int i
    | str z => simp only [pyF] at h; cases h; exact .str z
    | tup s rs =>
      simp only [pyF, Option.map_eq_some_iff] at h
      obtain ⟨ps, e, rfl⟩ := h
      exact .tup s (mapO_dp ih rs e)
    | lst e0 rs =>
      simp only [pyF, Option.map_eq_some_iff] at h
      obtain ⟨ps, e, rfl⟩ := h
      exact .lst (.inl (.inr ⟨_, e0⟩)) (mapO_dp ih rs e)
    | kls s rs =>
      simp only [pyF, Option.map_eq_some_iff] at h
      obtain ⟨ps, e, rfl⟩ := h
      exact .lst s.sq (mapO_dp ih rs e)
    | ptr hm =>
      simp only [pyF] at h
      split at h
      · rename_i ds e1
        simp only [Option.map_eq_some_iff] at h
        obtain ⟨ps, e, rfl⟩ := h
        obtain ⟨vs, e2, rs⟩ := w.ob _ _ (stL_some e1)
        exact .lst (SqL.of e2) (mapO_dp ih rs e)
      · cases h
    | dic _ _ => simp only [pyF] at h; cases h
    | cst => simp only [pyF] at h; cases h
end
/-- ==, != of data, read through the store -/
def eqH (f : Bool → Bool) (x y : D) (S : ST) : Option (Rs D × ST) := match strP x, strP y with
  | some a, some b => some (.ok (.bl (f (decide (a = b)))), S)
  | _, _ => eqG f (pyF S 12 x) (pyF S 12 y) S
section
variable {X : Cx} {cl : Cl} {E : XK}
theorem eqHE {K : Fr} : CpE K cl E (rEqU K) (eqH id) := by
  intro x y S z S' h q H vx vy Q w hx hy po
  unfold eqH at h
  split at h
  · rename_i e1 e2
    cases h
    obtain rfl := strP_inv e1
    obtain rfl := strP_inv e2
    obtain rfl := hx.str_inv
    obtain rfl := hy.str_inv
    refine .inl ⟨rfl, ?_⟩
    rw [dec_str]
    exact cp_val w po (.bl _)
  · unfold eqG at h
    split at h
    · rename_i a b e1 e2
      split at h
      · rename_i hs
        cases h
        rw [Bool.and_eq_true] at hs
        exact .inr ⟨a, b, pyF_dp w 12 _ _ _ hx e1, pyF_dp w 12 _ _ _ hy e2, hs.1, hs.2, cp_val w po (.bl _)⟩
      · cases h
    · cases h
theorem neHE {K : Fr} : CpE K cl E (rNeU K) (eqH not) := by
  intro x y S z S' h q H vx vy Q w hx hy po
  unfold eqH at h
  split at h
  · rename_i e1 e2
    cases h
    obtain rfl := strP_inv e1
    obtain rfl := strP_inv e2
    obtain rfl := hx.str_inv
    obtain rfl := hy.str_inv
    refine .inl ⟨rfl, ?_⟩
    rw [dec_str]
    exact cp_val w po (.bl _)
  · unfold eqG at h
    split at h
    · rename_i a b e1 e2
      split at h
      · rename_i hs
        cases h
        rw [Bool.and_eq_true] at hs
        exact .inr ⟨a, b, pyF_dp w 12 _ _ _ hx e1, pyF_dp w 12 _ _ _ hy e2, hs.1, hs.2, cp_val w po (.bl _)⟩
      · cases h
    · cases h
def reprH (xs : List D) (S : ST) : Option (Rs D × ST) := match xs with
  | [x] => match pyF S 12 x with
    | some d => if (d.showable && !d.hasDict && decide (d.depth ≤ 60) && decide (d.shown.length ≤ 100000)) = true then some (.ok (.str d.shown), S) else none
    | none => none
  | _ => none
theorem reprHE {K : Fr} : CaE K cl E (rRepr K) reprH := by
  intro xs S z S' h q H vs Q w hx po
  unfold reprH at h
  split at h
  · split at h
    · rename_i d e
      split at h
      · rename_i hc
        cases h
        simp only [Bool.and_eq_true, Bool.not_eq_true', decide_eq_true_eq] at hc
        obtain ⟨v, rfl, r⟩ := dts1 hx
        exact ⟨v, d, rfl, pyF_dp w 12 _ _ _ r e, hc.1.1.1, hc.1.1.2, hc.1.2, Nat.le_trans hc.2 (by decide), fz_val w po (.str _)⟩
      · cases h
    · cases h
  · cases h
end
end U
namespace U
open PySem L2
theorem RoomG.units1 {k : Nat} {A : Around} (r : RoomG k A) : A.units + 1 < cLine := by have := r.units; omega
end U

set_option Elab.async false
set_option linter.all false
set_option maxRecDepth 100000
set_option maxHeartbeats 1000000
namespace U
open PySem L2
/-! ### the head with one more look at what the top has left -/
def obsB (n : Nat) (fa : List He.Fa) (fn : List He.DefD) (ex : Fr → Bool) (g : Addr → Option Obj) : He.AlD × Bool := (He.obsDG n fa fn g, ex (He.frG g (He.asD g n)))
def hookB (n : Nat) (fa : List He.Fa) (fn : List He.DefD) (ex : Fr → Bool) : PySem.W.Hook where
  α := He.AlD × Bool
  obs := fun s => obsB n fa fn ex s.heap.get?
  val := fun _ => (He.valD fn, true)
  says := fun _ h => ∃ K : Fr, K.In h ∧ He.SaysD fa fn K ∧ ex K = true
  of := fun _ _ e => ⟨_, He.frG_in, congrArg (fun z : He.AlD × Bool => z.1) e, congrArg (fun z : He.AlD × Bool => z.2) e⟩
  keeps := fun _ _ _ ⟨K, hK, c⟩ k => ⟨K, PySem.W.Frag.In.keeps hK k, c⟩
theorem obsB_eq {n : Nat} {fa : List He.Fa} {fn : List He.DefD} {ex : Fr → Bool} {g : Addr → Option Obj} {s : Shared} (h : ∀ a, g a = s.heap.get? a) : obsB n fa fn ex g = (hookB n fa fn ex).obs s := by
  obtain rfl : g = s.heap.get? := funext h
  rfl
theorem and_l {a b : Bool} (h : (a && b) = true) : a = true := (He.ba h).1
theorem and_r {a b : Bool} (h : (a && b) = true) : b = true := (He.ba h).2
end U
namespace U
open PySem L2
theorem eqH_int {f : Bool → Bool} {i j : Int} {S : ST} : eqH f (.int i) (.int j) S = some (.ok (.bl (f (i == j))), S) := by rfl
theorem eqH_str {f : Bool → Bool} {a b : Str} {S : ST} : eqH f (.str a) (.str b) S = some (.ok (.bl (f (decide (a = b)))), S) := by rfl
theorem dvmF_1 {i j : Int} {S : ST} : dvmF [.int i, .int j] S = if (decide (0 < j) && decide (j < 1073741824)) = true then some (.ok (.tup [.int (i / j), .int (i % j)]), S) else none := rfl
theorem gTwo_1 {i j : Nat} {x y : D} {g : EV} {S : ST} : gTwo i j (.tup [x, y]) g S = some ((g.set i (some x)).set j (some y), S) := rfl
end U

set_option Elab.async false
set_option linter.all false
set_option maxRecDepth 100000
set_option maxHeartbeats 1000000
namespace U
open PySem L2
/-! ### away from the store: what holds no place of it may be worked out over an empty one -/
def noP : Nat → D → Bool
  | 0, _ => false
  | _ + 1, .non => true
  | _ + 1, .bl _ => true
  | _ + 1, .int _ => true
  | _ + 1, .str _ => true
  | k + 1, .tup ds => ds.all (noP k)
  | k + 1, .lst ds => ds.all (noP k)
  | k + 1, .kls ds => ds.all (noP k)
  | k + 1, .dic kvs => kvs.all fun kv => noP k kv.2
  | _ + 1, .ptr _ => false
  | _ + 1, .cst _ => true
section
variable {K : Fr} {q q1 : Nat → Addr} {n n1 : Nat} {H : Hp}
theorem noP_dts {f : D → Bool} (hf : ∀ v d, f d = true → Dt K q n H v d → Dt K q1 n1 H v d) : ∀ {vs : List V} {ds : List D}, ds.all f = true → Dts K q n H vs ds → Dts K q1 n1 H vs ds
  | _, _, _, .nil => .nil
  | _, _, h, .cons r rs => by
    rw [List.all_cons, Bool.and_eq_true] at h
    exact .cons (hf _ _ h.1 r) (noP_dts hf h.2 rs)
theorem noP_dkv {f : D → Bool} (hf : ∀ v d, f d = true → Dt K q n H v d → Dt K q1 n1 H v d) : ∀ {vs : List (Key × V)} {ds : List (Key × D)}, (ds.all fun kv => f kv.2) = true → Dkv K q n H vs ds → Dkv K q1 n1 H vs ds
  | _, _, _, .nil => .nil
  | _, _, h, .cons r rs => by
    rw [List.all_cons, Bool.and_eq_true] at h
    exact .cons (hf _ _ h.1 r) (noP_dkv hf h.2 rs)
theorem noP_dt : ∀ (k : Nat) (v : V) (d : D), noP k d = true → Dt K q n H v d → Dt K q1 n1 H v d
  | 0, _, _, h, _ => by cases h
  | k + 1, v, d, h, r => by
    have ih := noP_dt k
    cases r with
    | non => exact .non
    | bl b => exact .bl b
    | int b => exact .int b
    | str b => exact .str b
    | tup s rs => exact .tup s (noP_dts ih h rs)
    | lst s rs => exact .lst s (noP_dts ih h rs)
    | kls s rs => exact .kls s (noP_dts ih h rs)
    | dic s rs => exact .dic s (noP_dkv ih h rs)
    | ptr _ => cases h
    | cst => exact .cst
end
/-- how deep is looked -/
abbrev nP (d : D) : Bool := noP 16 d
section
variable {K : Fr} {cl : Cl} {E : XK} {q q1 : Nat → Addr} {S S1 : ST} {H H1 : Hp}
theorem Wd.nil : Wd K q [] H := ⟨fun m _ h => absurd h (Nat.not_lt_zero _), fun m o h => by simp at h⟩
/-- what went on beside the store leaves it as it is -/
theorem Gr.away {n n1 : Nat} (g : Gr q 0 H q1 n1 H1) : Gr q n H q n H1 :=
  ⟨⟨fun _ _ => rfl, Nat.le_refl _, g.ge.tp, g.ge.fz⟩, fun a u h _ => g.fr a u h fun m hm => absurd hm (Nat.not_lt_zero _), fun m h h' => absurd h (Nat.not_le_of_lt h'), g.tk⟩
theorem Wd.away {n1 : Nat} (w : Wd K q S H) (g : Gr q 0 H q1 n1 H1) : Wd K q S H1 :=
  ⟨w.inj, fun m o h => by
    have ho := w.ob m o h
    obtain ⟨u, e⟩ := ho.some
    exact ho.mono (g.away (n := S.length)).ge ((g.fr _ u e fun m hm => absurd hm (Nat.not_lt_zero _)).trans e.symm)⟩
theorem Post.away_ok {Q : VK} {d : D} {S' : ST} (w : Wd K q S H) (hd : nP d = true) (po : Post K cl q S.length H E Q (.ok d) S) : Post K cl q 0 H E Q (.ok d) S' :=
  fun q' H' v g' w' r => po q H' v g'.away (w.away g') (noP_dt 16 v d hd r)
theorem Post.away_ex {Q : VK} {c : Str} {fs : List (Str × D)} {S' : ST} (w : Wd K q S H) (hd : (fs.all fun x => nP x.2) = true) (po : Post K cl q S.length H E Q (.ex c fs) S) : Post K cl q 0 H E Q (.ex c fs) S' :=
  fun q' H' dx fv g' w' h1 h2 r => po q H' dx fv g'.away (w.away g') h1 h2 (noP_dts (noP_dt 16) (by rw [List.all_map]; exact hd) r)
end
/-- a call of a def, away from the store where it can be -/
def iso (d : DM) : DM := fun xs S => if xs.all nP = true then match d xs [] with
    | some (.ok r, S') => if nP r = true then some (.ok r, S) else d xs S
    | some (.ex c fs, S') => if (fs.all fun x => nP x.2) = true then some (.ex c fs, S) else d xs S
    | none => none
  else d xs S
theorem iso_inv {d : DM} {xs : List D} {S S' : ST} {r : Rs D} (h : iso d xs S = some (r, S')) : d xs S = some (r, S') ∨ (S' = S ∧ xs.all nP = true ∧ ∃ T, d xs [] = some (r, T) ∧ ((∃ x, r = .ok x ∧ nP x = true) ∨ ∃ c fs, r = .ex c fs ∧ (fs.all fun x => nP x.2) = true)) := by
  unfold iso at h
  split at h
  · rename_i hx
    split at h
    · rename_i x T e
      split at h
      · rename_i hr
        cases h
        exact .inr ⟨rfl, hx, T, e, .inl ⟨x, rfl, hr⟩⟩
      · exact .inl h
    · rename_i c fs T e
      split at h
      · rename_i hr
        cases h
        exact .inr ⟨rfl, hx, T, e, .inr ⟨c, fs, rfl, hr⟩⟩
      · exact .inl h
    · cases h
  · exact .inl h
theorem spM_iso {K : Fr} {cl : Cl} {E : XK} {Q : VK} {n : Nat} {d : DM} {q : Nat → Addr} {S S' : ST} {H : Hp} {vs : List V} {xs : List D} {r : Rs D} (hl : vs.length = n) (w : Wd K q S H) (hx : Dts K q S.length H vs xs) (h : iso d xs S = some (r, S')) (po : Post K cl q S.length H E Q r S') : spM K cl n d vs H Q E := by
  rcases iso_inv h with h | ⟨rfl, ha, T, e, hr⟩
  · exact ⟨hl, q, S, xs, r, S', w, hx, h, po⟩
  · refine ⟨hl, q, [], xs, r, T, .nil, noP_dts (noP_dt 16) ha hx, e, ?_⟩
    rcases hr with ⟨x, rfl, hr⟩ | ⟨c, fs, rfl, hr⟩
    · exact Post.away_ok w hr po
    · exact Post.away_ex w hr po
/-- the slots that are told and hold no place -/
def keepS (ks : List Nat) (g : EV) : EV := g.mapIdx fun i x => match x with
  | some d => if ks.contains i && nP d then some d else none
  | none => none
theorem keepS_sl {K : Fr} {q q1 : Nat → Addr} {n n1 : Nat} {H : Hp} {s : L2.St} {g : EV} (ks : List Nat) (h : Sl K q n H s g) : Sl K q1 n1 H s (keepS ks g) := by
  refine ⟨by simp [keepS, h.1], fun i d e => ?_⟩
  simp only [keepS, List.getElem?_mapIdx, Option.map_eq_some_iff] at e
  obtain ⟨x, hx, e⟩ := e
  split at e
  · split at e
    · rename_i hk
      cases e
      rw [Bool.and_eq_true] at hk
      obtain ⟨v, h1, h2⟩ := h.2 i d hx
      exact ⟨v, h1, noP_dt 16 v d hk.2 h2⟩
    · cases e
  · cases e
/-- statements, away from the store, that end the def -/
def sIso (ks : List Nat) (m : SM) : SM := fun g S => match m (keepS ks g) [] with
  | some (.rt d, _) => if nP d = true then some (.rt d, S) else none
  | some (.ex c fs, _) => if (fs.all fun x => nP x.2) = true then some (.ex c fs, S) else none
  | some (.nx g', _) => some (.nx (keepS (List.range g'.length) g'), S)
  | _ => none
theorem ss_iso {X : Cx} {cl : Cl} {E : XK} {st : List Stmt} {m : SM} (ks : List Nat) (h : ESs X cl E st m) : ESs X cl E st (sIso ks m) := by
  obtain ⟨ts, ps, es⟩ := h
  refine ⟨ts, ps, fun g S o S' h q s H D w sl po => ?_⟩
  unfold sIso at h
  split at h
  · rename_i d T e
    split at h
    · rename_i hd
      cases h
      exact es _ [] _ T e q s H D .nil (keepS_sl ks sl) fun q' H' v g' w' r => po q H' v g'.away (w.away g') (noP_dt 16 v d hd r)
    · cases h
  · rename_i c fs T e
    split at h
    · rename_i hd
      cases h
      exact es _ [] _ T e q s H D .nil (keepS_sl ks sl) (Post.away_ex (Q := fun _ _ => False) w hd po)
    · cases h
  · rename_i g1 T e
    cases h
    exact es _ [] _ T e q s H D .nil (keepS_sl ks sl) fun q' H' s' g' w' sl' => po q H' s' g'.away (w.away g') (keepS_sl _ sl')
  · cases h
end U

set_option Elab.async false
set_option linter.all false
set_option maxRecDepth 100000
set_option maxHeartbeats 4000000
namespace W04
open PySem L2 U
def top (i : Nat) : Stmt := PySem.Challenge.pw_rulesplay_k04_places_near_one_another.main.body.getD i (.Pass ⟨0, 0, 0, 0⟩)
abbrev s__law_take : Stmt := top 21
abbrev s__law_shape : Stmt := top 23
abbrev s__law_odd : Stmt := top 27
abbrev s__law_any : Stmt := top 22
abbrev s_is_whole : Stmt := top 6
abbrev s_is_shape : Stmt := top 10
abbrev s__law_size : Stmt := top 24
abbrev s__law_beside : Stmt := top 25
abbrev s_need_shape : Stmt := top 11
abbrev s_many_places : Stmt := top 12
abbrev s_rows_of : Stmt := top 17
abbrev s_need_place : Stmt := top 13
abbrev s_are_near : Stmt := top 14
abbrev s_nears : Stmt := top 16
abbrev s__law_whole : Stmt := top 26
abbrev s__law_is_shape : Stmt := top 28
abbrev s_near : Stmt := top 15
abbrev s__law_right : Stmt := top 29
abbrev s__law_bag : Stmt := top 20
abbrev s__law_cell : Stmt := top 19
abbrev s_law : Stmt := top 30
/-! ### the mirrors -/
def gd_nears_0_place_shape {α : Type} (ds es : List α) : List α := pks [(false, 1), (false, 0)] ds es
theorem gl_nears_0_place_shape : ∀ ds es : List D, ds.length = 0 → es.length = 2 → (gd_nears_0_place_shape ds es).length = 2 := fun ds es h1 h2 => match ds, es, h1, h2 with | [], [_, _], _, _ => rfl
def b__law_take : SM :=
  (sSeq (sIf (bVal (eOp gtF (eOp ixF (eVar 0) (eC (.int 0))) (eC (.int 0)))) (sSeq (sAsg (eOp modF (eOp ixF (eVar 0) (eC (.int 0))) (eVar 1)) (gVar 2))
    (sSeq (sAsg (eOp fdvF (eOp ixF (eVar 0) (eC (.int 0))) (eVar 1)) (gSet (eVar 0) (eC (.int 0))))
    (sRet (eVar 2)))) sSkip)
    (sSeq (sAsg (eOp addF (eOp ixF (eVar 0) (eC (.int 2))) (eC (.int 1))) (gSet (eVar 0) (eC (.int 2))))
    (sSeq (sAsg (eOp modF (eOp powF (eOp addF (eOp addF (eOp ixF (eVar 0) (eC (.int 1))) (eOp mulF (eC (.int 7919)) (eOp ixF (eVar 0) (eC (.int 2))))) (eC (.int 41))) (eC (.int 5))) (eC (.int 2147483647))) (gVar 3))
    (sSeq (sAsg (eOp modF (eOp powF (eOp addF (eVar 3) (eOp mulF (eC (.int 104729)) (eOp ixF (eVar 0) (eC (.int 2))))) (eC (.int 3))) (eC (.int 2147483587))) (gVar 3))
    (sRet (eOp modF (eOp fdvF (eVar 3) (eC (.int 16))) (eVar 1)))))))
def d__law_take : DM := mkD 4 b__law_take
def b__law_shape : SM :=
  (sSeq (sPar 1 2 (eCall (Ar 2 d__law_take) (aCons (eVar 0) (aCons (eC (.int 4)) aNil))) (eOp addF (eC (.int 1)) (eCall (Ar 2 d__law_take) (aCons (eVar 0) (aCons (eC (.int 12)) aNil)))))
    (sSeq (sIf (bVal (eOp ltF (eVar 1) (eC (.int 2)))) (sRet (eTup (aCons (eOp ixF (eFz (oLst (aCons (eC (.str "row")) (aCons (eC (.str "ring")) aNil)))) (eVar 1)) (aCons (eVar 2) aNil)))) sSkip)
    (sSeq (sAsg (eOp ixF (eFz (oLst (aCons (eC (.int 1)) (aCons (eC (.int 2)) (aCons (eC (.int 3)) (aCons (eC (.int 4)) (aCons (eC (.int 6)) (aCons (eC (.int 12)) (aCons (eC (.int 5)) aNil))))))))) (eCall (Ar 2 d__law_take) (aCons (eVar 0) (aCons (eC (.int 7)) aNil)))) (gVar 3))
    (sRet (eTup (aCons (eC (.str "grid")) (aCons (eVar 3) (aCons (eOp addF (eC (.int 1)) (eCall (Ar 2 d__law_take) (aCons (eVar 0) (aCons (eOp fdvF (eC (.int 12)) (eVar 3)) aNil)))) aNil))))))))
def d__law_shape : DM := mkD 4 b__law_shape
def lp__law_odd_1 : SM :=
  (sSeq (sAsg (eCall (Ar 2 d__law_take) (aCons (eVar 0) (aCons (eOp addF (eCall lenF (aCons (eVar 4) aNil)) (eC (.int 1))) aNil))) (gVar 6))
    (sSeq (sAsg (eIf (bVal (eOp (eqH id) (eVar 6) (eC (.int 0)))) (eVar 3) (eVar 2)) (gVar 7))
    (sAsg (eOp addF (eOp addF (eCut (eVar 4) qNone (qSome (eVar 6))) (eFz (oLst (aCons (eOp ixF (eVar 7) (eCall (Ar 2 d__law_take) (aCons (eVar 0) (aCons (eCall lenF (aCons (eVar 7) aNil)) aNil)))) aNil)))) (eCut (eVar 4) (qSome (eOp addF (eVar 6) (eCall (Ar 2 d__law_take) (aCons (eVar 0) (aCons (eC (.int 2)) aNil))))) qNone)) (gVar 4))))
def b__law_odd : SM :=
  (sSeq (sAsg (eFz (oLst (aCons (eC (.int 0)) (aCons (eC (.int 1)) (aCons (eC (.int 12)) (aCons (eC (.int 13)) (aCons (eUn negF (eC (.int 1))) (aCons (eC (.bl true)) (aCons (eC (.str "3")) (aCons (eC .non) (aCons (eC (.int 3)) (aCons (eC (.int 4)) (aCons (eC (.int 6)) (aCons (eTup (aCons (eC (.int 3)) aNil)) (aCons (eOp powF (eC (.int 10)) (eC (.int 29))) aNil))))))))))))))) (gVar 2))
    (sSeq (sAsg (eFz (oLst (aCons (eC (.str "row")) (aCons (eC (.str "ring")) (aCons (eC (.str "grid")) (aCons (eC (.str "Row")) (aCons (eC (.str "")) (aCons (eC .non) (aCons (eC (.int 7)) (aCons (eTup (aCons (eC (.str "row")) aNil)) aNil)))))))))) (gVar 3))
    (sSeq (sAsg (eFz (oCall lstOfF (aCons (eVar 1) aNil))) (gVar 4))
    (sSeq (sFor (iCall rng1F (aCons (eOp addF (eC (.int 1)) (eCall (Ar 2 d__law_take) (aCons (eVar 0) (aCons (eC (.int 2)) aNil)))) aNil)) (gVar 5) lp__law_odd_1)
    (sRet (eOp ixF (eFz (oLst (aCons (eCall tupOfF (aCons (eVar 4) aNil)) (aCons (eCall tupOfF (aCons (eVar 4) aNil)) (aCons (eVar 4) (aCons (eCall tupOfF (aCons (eCut (eVar 4) qNone (qSome (eC (.int 1)))) aNil)) aNil)))))) (eCall (Ar 2 d__law_take) (aCons (eVar 0) (aCons (eC (.int 4)) aNil)))))))))
def d__law_odd : DM := mkD 8 b__law_odd
def b__law_any : SM :=
  (sSeq (sAsg (eFz (oLst (aCons (eC .non) (aCons (eC (.bl true)) (aCons (eC (.bl false)) (aCons (eOp subF (eC (.int 0)) (eC (.int 1))) (aCons (eOp powF (eC (.int 10)) (eC (.int 29))) (aCons (eC (.str "")) (aCons (eC (.str "no")) (aCons (eC (.str "a b")) (aCons (eFz (oLst aNil)) (aCons (eFz (oLst (aCons (eC (.str "a")) aNil))) (aCons (eTup (aCons (eC (.str "a")) aNil)) (aCons (eTup aNil) (aCons eDic0 (aCons (eDic1 (eC (.str "a")) (eC (.int 1))) (aCons (eFz (oLst (aCons (eFz (oLst (aCons (eC (.int 1)) aNil))) aNil))) aNil))))))))))))))))) (gVar 1))
    (sRet (eOp ixF (eVar 1) (eCall (Ar 2 d__law_take) (aCons (eVar 0) (aCons (eC (.int 15)) aNil))))))
def d__law_any : DM := mkD 2 b__law_any
def b_is_whole : SM :=
  (sRet (eAnd (eUn (isiF ["int"]) (eVar 0)) (eAnd (eNot (eUn (isiF ["bool"]) (eVar 0))) (eChain leF leF (eVar 1) (eVar 0) (eVar 2)))))
def d_is_whole : DM := mkD 3 b_is_whole
def ce_is_shape_1 : EM :=
  (eCall (Ar 3 d_is_whole) (aCons (eVar 1) (aCons (eC (.int 1)) (aCons (eC (.int 12)) aNil))))
def b_is_shape : SM :=
  (sSeq (sIf (bOr (bNot (bVal (eUn (isiF ["tuple"]) (eVar 0)))) (bOr (bVal (eOp ltF (eCall lenF (aCons (eVar 0) aNil)) (eC (.int 2)))) (bNot (bVal (eUn (isiF ["str"]) (eOp ixF (eVar 0) (eC (.int 0)))))))) (sRet (eC (.bl false))) sSkip)
    (sSeq (sIf (bNot (bVal (eCall (allF fun bs => bs.all id) (aCons (eFz (oLc (iVal (eCut (eVar 0) (qSome (eC (.int 1))) qNone)) (gVar 1) bYes ce_is_shape_1 (List.map (fun x => x.2) ([("number", 1)] : List (Str × Nat))))) aNil)))) (sRet (eC (.bl false))) sSkip)
    (sSeq (sIf (bVal (eOp (inF (fun b => if false then !b else b)) (eOp ixF (eVar 0) (eC (.int 0))) (eC (.tup [(.str "row"), (.str "ring")])))) (sRet (eOp (eqH id) (eCall lenF (aCons (eVar 0) aNil)) (eC (.int 2)))) sSkip)
    (sRet (eAnd (eOp (eqH id) (eOp ixF (eVar 0) (eC (.int 0))) (eC (.str "grid"))) (eAnd (eOp (eqH id) (eCall lenF (aCons (eVar 0) aNil)) (eC (.int 3))) (eOp leF (eOp mulF (eOp ixF (eVar 0) (eC (.int 1))) (eOp ixF (eVar 0) (eC (.int 2)))) (eC (.int 12)))))))))
def d_is_shape : DM := mkD 2 b_is_shape
def b__law_size : SM :=
  (sRet (eIf (bVal (eOp (eqH id) (eOp ixF (eVar 0) (eC (.int 0))) (eC (.str "grid")))) (eOp mulF (eOp ixF (eVar 0) (eC (.int 1))) (eOp ixF (eVar 0) (eC (.int 2)))) (eOp ixF (eVar 0) (eC (.int 1)))))
def d__law_size : DM := mkD 1 b__law_size
def lp__law_beside_1 : SM :=
  (sSeq (sAsg (eOp addF (eVar 3) (eVar 4)) (gVar 5))
    (sIf (bAnd (bVal (eOp (eqH id) (eOp ixF (eVar 0) (eC (.int 0))) (eC (.str "ring")))) (bVal (eOp gtF (eVar 1) (eC (.int 2))))) (sDrop (eMt "list" appF (eOp dgF (eVar 2) (eVar 3)) (aCons (eOp modF (eOp addF (eVar 5) (eVar 1)) (eVar 1)) aNil))) (sIf (bVal (eChain leF ltF (eC (.int 0)) (eVar 5) (eVar 1))) (sDrop (eExt (eOp dgF (eVar 2) (eVar 3)) (oRep (eFz (oLst (aCons (eVar 5) aNil))) (eCall intAnyF (aCons (eOr (eOp (eqH not) (eOp ixF (eVar 0) (eC (.int 0))) (eC (.str "grid"))) (eOp (eqH id) (eOp fdvF (eVar 5) (eOp ixF (eVar 0) (eC (.int 1)))) (eOp fdvF (eVar 3) (eOp ixF (eVar 0) (eC (.int 1)))))) aNil))))) sSkip)))
def lp__law_beside_2 : SM :=
  (sIf (bVal (eChain leF ltF (eC (.int 0)) (eVar 5) (eVar 1))) (sDrop (eMt "list" appF (eOp dgF (eVar 2) (eVar 3)) (aCons (eVar 5) aNil))) sSkip)
def lp__law_beside_3 : SM :=
  (sSeq (sDPutM (eVar 2) (eVar 3) (ePtr (oLst aNil)))
    (sSeq (sFor (iVal (eFz (oLst (aCons (eUn negF (eC (.int 1))) (aCons (eC (.int 1)) aNil))))) (gVar 4) lp__law_beside_1)
    (sSeq (sFor (iVal (eIf (bVal (eOp (eqH id) (eOp ixF (eVar 0) (eC (.int 0))) (eC (.str "grid")))) (eFz (oLst (aCons (eOp subF (eVar 3) (eOp ixF (eVar 0) (eC (.int 1)))) (aCons (eOp addF (eVar 3) (eOp ixF (eVar 0) (eC (.int 1)))) aNil)))) (eFz (oLst aNil)))) (gVar 5) lp__law_beside_2)
    (sDPutM (eVar 2) (eVar 3) (eFz (oCall sortF (aCons (eOp dgF (eVar 2) (eVar 3)) aNil)))))))
def b__law_beside : SM :=
  (sSeq (sPar 1 2 (eCall (Ar 1 d__law_size) (aCons (eVar 0) aNil)) eDicP)
    (sSeq (sFor (iCall rng1F (aCons (eVar 1) aNil)) (gVar 3) lp__law_beside_3)
    (sRet (eVar 2))))
def d__law_beside : DM := mkD 6 b__law_beside
def b_need_shape : SM :=
  (sIf (bNot (bVal (eCall (Ar 1 d_is_shape) (aCons (eVar 0) aNil)))) sNo sSkip)
def d_need_shape : DM := mkD 1 b_need_shape
def b_many_places : SM :=
  (sSeq (sDrop (eCall (Ar 1 d_need_shape) (aCons (eVar 0) aNil)))
    (sRet (eIf (bVal (eOp (inF (fun b => if false then !b else b)) (eOp ixF (eVar 0) (eC (.int 0))) (eC (.tup [(.str "row"), (.str "ring")])))) (eOp ixF (eVar 0) (eC (.int 1))) (eOp mulF (eOp ixF (eVar 0) (eC (.int 1))) (eOp ixF (eVar 0) (eC (.int 2)))))))
def d_many_places : DM := mkD 1 b_many_places
def ce_rows_of_1 : EM :=
  (ePtr (oRg2 (eVar 3) (eOp addF (eVar 3) (eVar 2))))
def b_rows_of : SM :=
  (sSeq (sAsg (eCall (Ar 1 d_many_places) (aCons (eVar 0) aNil)) (gVar 1))
    (sSeq (sAsg (eOp ixF (eVar 0) (eC (.int 1))) (gVar 2))
    (sRet (eFz (oLc (iCall rng3F (aCons (eC (.int 0)) (aCons (eVar 1) (aCons (eVar 2) aNil)))) (gVar 3) bYes ce_rows_of_1 (List.map (fun x => x.2) ([("at", 3)] : List (Str × Nat))))))))
def d_rows_of : DM := mkD 4 b_rows_of
def b_need_place : SM :=
  (sIf (bNot (bVal (eCall (Ar 3 d_is_whole) (aCons (eVar 1) (aCons (eC (.int 0)) (aCons (eOp subF (eCall (Ar 1 d_many_places) (aCons (eVar 0) aNil)) (eC (.int 1))) aNil)))))) sNo sSkip)
def d_need_place : DM := mkD 2 b_need_place
def b_are_near : SM :=
  (sSeq (sIf (bVal (eOp (eqH id) (eOp ixF (eVar 0) (eC (.int 0))) (eC (.str "grid")))) (sSeq (sAsg (eCall dvmF (aCons (eVar 1) (aCons (eOp ixF (eVar 0) (eC (.int 1))) aNil))) (gTwo 3 4))
    (sSeq (sAsg (eCall dvmF (aCons (eVar 2) (aCons (eOp ixF (eVar 0) (eC (.int 1))) aNil))) (gTwo 5 6))
    (sRet (eOp (eqH id) (eOp addF (eCall absF (aCons (eOp subF (eVar 3) (eVar 5)) aNil)) (eCall absF (aCons (eOp subF (eVar 4) (eVar 6)) aNil))) (eC (.int 1)))))) sSkip)
    (sSeq (sAsg (eCall absF (aCons (eOp subF (eVar 1) (eVar 2)) aNil)) (gVar 7))
    (sRet (eOr (eOp (eqH id) (eVar 7) (eC (.int 1))) (eAnd (eOp (eqH id) (eOp ixF (eVar 0) (eC (.int 0))) (eC (.str "ring"))) (eAnd (eOp geF (eOp ixF (eVar 0) (eC (.int 1))) (eC (.int 3))) (eOp (eqH id) (eVar 7) (eOp subF (eOp ixF (eVar 0) (eC (.int 1))) (eC (.int 1))))))))))
def d_are_near : DM := mkD 8 b_are_near
def ce_nears_1 : EM :=
  (eVar 2)
def ct_nears_1 : BM :=
  (bVal (eCall (Ar 3 d_are_near) (aCons (eVar 0) (aCons (eVar 1) (aCons (eVar 2) aNil)))))
def b_nears : SM :=
  (sSeq (sDrop (eCall (Ar 2 d_need_place) (aCons (eVar 0) (aCons (eVar 1) aNil))))
    (sRet (ePtr (oLc (iCall rng1F (aCons (eCall (Ar 1 d_many_places) (aCons (eVar 0) aNil)) aNil)) (gVar 2) ct_nears_1 ce_nears_1 (List.map (fun x => x.2) ([("other", 2)] : List (Str × Nat)))))))
def d_nears : DM := mkD 3 b_nears
def b__law_whole : SM :=
  (sRet (eAnd (eUn (isiF ["int"]) (eVar 0)) (eNot (eUn (isiF ["bool"]) (eVar 0)))))
def d__law_whole : DM := mkD 1 b__law_whole
def ce__law_is_shape_1 : EM :=
  (eVar 1)
def ct__law_is_shape_1 : BM :=
  (bOr (bNot (bVal (eCall (Ar 1 d__law_whole) (aCons (eVar 1) aNil)))) (bNot (bVal (eChain leF leF (eC (.int 1)) (eVar 1) (eC (.int 12))))))
def b__law_is_shape : SM :=
  (sSeq (sIf (bOr (bNot (bVal (eUn (isiF ["tuple"]) (eVar 0)))) (bOr (bVal (eOp (inF (fun b => if true then !b else b)) (eCall lenF (aCons (eVar 0) aNil)) (eTup (aCons (eC (.int 2)) (aCons (eC (.int 3)) aNil))))) (bNot (bVal (eUn (isiF ["str"]) (eOp ixF (eVar 0) (eC (.int 0)))))))) (sRet (eC (.bl false))) sSkip)
    (sSeq (sIf (bVal (eOp (eqH not) (eFz (oLc (iVal (eCut (eVar 0) (qSome (eC (.int 1))) qNone)) (gVar 1) ct__law_is_shape_1 ce__law_is_shape_1 (List.map (fun x => x.2) ([("_law_number", 1)] : List (Str × Nat))))) (eFz (oLst aNil)))) (sRet (eC (.bl false))) sSkip)
    (sSeq (sIf (bVal (eOp (eqH id) (eCall lenF (aCons (eVar 0) aNil)) (eC (.int 2)))) (sRet (eOp (inF (fun b => if false then !b else b)) (eOp ixF (eVar 0) (eC (.int 0))) (eTup (aCons (eC (.str "row")) (aCons (eC (.str "ring")) aNil))))) sSkip)
    (sRet (eAnd (eOp (eqH id) (eOp ixF (eVar 0) (eC (.int 0))) (eC (.str "grid"))) (eOp ltF (eOp mulF (eOp ixF (eVar 0) (eC (.int 1))) (eOp ixF (eVar 0) (eC (.int 2)))) (eC (.int 13))))))))
def d__law_is_shape : DM := mkD 2 b__law_is_shape
def b_near : SM :=
  (sSeq (sDrop (eCall (Ar 2 d_need_place) (aCons (eVar 0) (aCons (eVar 1) aNil))))
    (sSeq (sDrop (eCall (Ar 2 d_need_place) (aCons (eVar 0) (aCons (eVar 2) aNil))))
    (sRet (eCall (Ar 3 d_are_near) (aCons (eVar 0) (aCons (eVar 1) (aCons (eVar 2) aNil)))))))
def d_near : DM := mkD 3 b_near
def ce__law_right_1 : EM :=
  (eVar 9)
def ct__law_right_1 : BM :=
  (bVal (eOp (eqH id) (eOp fdvF (eVar 9) (eVar 6)) (eVar 13)))
def ce__law_right_2 : EM :=
  (eFz (oLc (iCall rng1F (aCons (eVar 5) aNil)) (gVar 9) ct__law_right_1 ce__law_right_1 (List.map (fun x => x.2) ([("_law_here", 9)] : List (Str × Nat)))))
def lp__law_right_1 : SM :=
  (sSeq (sAsg (eCall (Ar 3 d_near) (aCons (eVar 1) (aCons (eVar 9) (aCons (eVar 11) aNil)))) (gVar 3))
    (sIf (bOr (bNot (bVal (eUn (isiF ["bool"]) (eVar 3)))) (bVal (eOp (eqH not) (eVar 3) (eOp (inF (fun b => if false then !b else b)) (eVar 11) (eOp dgF (eVar 4) (eVar 9)))))) (sRet (eC (.bl false))) sSkip))
def lp__law_right_2 : SM :=
  (sSeq (sAsg (eCallK 0 2 gd_nears_0_place_shape d_nears aNil (aCons (eVar 9) (aCons (eVar 1) aNil))) (gVar 10))
    (sSeq (sIf (bVal (eOp (eqH not) (eVar 10) (eOp dgF (eVar 4) (eVar 9)))) (sRet (eC (.bl false))) sSkip)
    (sSeq (sDrop (eMt "list" appF (eVar 10) (aCons (eC (.int 99)) aNil)))
    (sFor (iCall rng1F (aCons (eVar 5) aNil)) (gVar 11) lp__law_right_1))))
def lp__law_right_3 : SM :=
  (sDrop (eM0 "list" clrF (eVar 12)))
def lp__law_right_4 : SM :=
  (sSeq (sIf (bOr (bVal (eOp (eqH not) (eCall reprH (aCons (eCall (Ar 1 d_many_places) (aCons (eVar 1) aNil)) aNil)) (eCall reprH (aCons (eVar 5) aNil)))) (bVal (eOp (eqH not) (eCall (Ar 1 d_rows_of) (aCons (eVar 1) aNil)) (eVar 7)))) (sRet (eC (.bl false))) sSkip)
    (sSeq (sFor (iCall rng1F (aCons (eVar 5) aNil)) (gVar 9) lp__law_right_2)
    (sFor (iVal (eCall (Ar 1 d_rows_of) (aCons (eVar 1) aNil))) (gVar 12) lp__law_right_3)))
def is__law_right_1 : SM :=
  (sSeq (sAsg (eTup (aCons (eCall (Ar 1 d__law_beside) (aCons (eVar 1) aNil)) (aCons (eCall (Ar 1 d__law_size) (aCons (eVar 1) aNil)) aNil))) (gTwo 4 5))
    (sSeq (sAsg (eOp ixF (eVar 1) (eC (.int 1))) (gVar 6))
    (sSeq (sAsg (eFz (oLc (iCall rng1F (aCons (eOp fdvF (eVar 5) (eVar 6)) aNil)) (gVar 13) bYes ce__law_right_2 (List.map (fun x => x.2) ([("_law_k", 13)] : List (Str × Nat))))) (gVar 7))
    (sSeq (sFor (iCall rng1F (aCons (eC (.int 2)) aNil)) (gVar 8) lp__law_right_4)
    (sRet (eC (.bl true)))))))
def lp__law_right_5 : SM :=
  (sSeq (sAsg (eCall (Ar 1 d_is_shape) (aCons (eVar 2) aNil)) (gVar 3))
    (sIf (bOr (bNot (bVal (eUn (isiF ["bool"]) (eVar 3)))) (bVal (eOp (eqH not) (eVar 3) (eCall (Ar 1 d__law_is_shape) (aCons (eVar 2) aNil))))) (sRet (eC (.bl false))) sSkip))
def b__law_right : SM :=
  (sSeq (sAsg (eCall (Ar 1 d__law_shape) (aCons (eVar 0) aNil)) (gVar 1))
    (sSeq (sFor (iVal (eFz (oLst (aCons (eVar 1) (aCons (eFz (oCall lstOfF (aCons (eVar 1) aNil))) (aCons (eCall (Ar 2 d__law_odd) (aCons (eVar 0) (aCons (eVar 1) aNil))) (aCons (eCall (Ar 2 d__law_odd) (aCons (eVar 0) (aCons (eVar 1) aNil))) (aCons (eCall (Ar 1 d__law_any) (aCons (eVar 0) aNil)) (aCons (eTup aNil) aNil))))))))) (gVar 2) lp__law_right_5)
    (sIso [1] is__law_right_1)))
def d__law_right : DM := mkD 14 b__law_right
def b__law_bag : SM :=
  (sRet (ePtr (oLst (aCons (eCall max2F (aCons (eC (.int 0)) (aCons (eOp subF (eVar 0) (eOp powF (eC (.int 10)) (eC (.int 18)))) aNil))) (aCons (eOp modF (eVar 0) (eC (.int 2147483629))) (aCons (eC (.int 0)) aNil))))))
def d__law_bag : DM := mkD 1 b__law_bag
def b__law_cell : SM :=
  (sSeq (sIf (bVal (eOp ltF (eVar 1) (eCall lenF (aCons (eVar 0) aNil)))) (sRet (eOp ixF (eVar 0) (eVar 1))) sSkip)
    (sRet (eOp addF (eOp mulF (eC (.int 48611)) (eVar 1)) (eC (.int 41)))))
def d__law_cell : DM := mkD 2 b__law_cell
def lp_law_1 : SM :=
  (sIf (bNot (bVal (eCall (Ar 1 d__law_right) (aCons (eCall (Ar 1 d__law_bag) (aCons (eCall (Ar 2 d__law_cell) (aCons (eVar 0) (aCons (eVar 1) aNil))) aNil)) aNil)))) (sRet (eC (.bl false))) sSkip)
def b_law : SM :=
  (sSeq (sFor (iCall rng1F (aCons (eCall max2F (aCons (eC (.int 3)) (aCons (eCall min2F (aCons (eC (.int 12)) (aCons (eCall lenF (aCons (eVar 0) aNil)) aNil))) aNil))) aNil)) (gVar 1) lp_law_1)
    (sRet (eC (.bl true))))
def d_law : DM := mkD 2 b_law
/-! ### what the top has left -/
structure Txt (K : Fr) (mg : Str → Option Value) : Prop where
  n_list : mg "list" = none
  n_range : mg "range" = none
  n_len : mg "len" = none
  n_tuple : mg "tuple" = none
  n_isinstance : mg "isinstance" = none
  n_int : mg "int" = none
  n_bool : mg "bool" = none
  n_str : mg "str" = none
  n_all : mg "all" = none
  n_sorted : mg "sorted" = none
  n_divmod : mg "divmod" = none
  n_abs : mg "abs" = none
  n_repr : mg "repr" = none
  n_max : mg "max" = none
  n_min : mg "min" = none
  c_MOST_PLACES : ∃ t, mg "MOST_PLACES" = some (.int 12 t)
  c_LINES : ∃ a, mg "LINES" = some (.ref a) ∧ ∀ q n H, Dt K q n H (.ref a) (.tup [(.str "row"), (.str "ring")])
abbrev FnP (K : Fr) (x : Str) (st : Stmt) (f : Addr) (fd : FuncData) : Prop := FunD K x x (defArgs st) (defBody st) (defScope st) [] [] f fd
section
variable {P : Program} {w : World} {K : Fr} {mg : Str → Option Value} {base : Heap} {cl : Cl}
theorem sc__law_take : FnScope ["_law_bag_here", "_law_many", "_law_digit", "_law_number"] ["_law_bag_here", "_law_many"] (defScope s__law_take) := ⟨rfl, rfl, rfl, by decide +kernel, rfl, by decide +kernel, by decide +kernel⟩
theorem ok__law_take (T : Txt K mg) {f : Addr} {fd : FuncData} (F : FunD K "_law_take" "_law_take" (defArgs s__law_take) (defBody s__law_take) (defScope s__law_take) [] [] f fd) (hf : mg "_law_take" = some (.ref f)) : OkA P w K mg base cl "_law_take" 1 ["_law_bag_here", "_law_many"] d__law_take f fd := by
  refine okf_mk (k := 0) F hf sc__law_take (fun _ _ _ _ _ _ us hl => match us, hl with | [_, _], _ => rfl) fun cdv A outer s H E hr => ?_
  have hx : Passes (L2.CX P w) (cxOf (L2.CX P w) P w K mg base ["_law_bag_here", "_law_many", "_law_digit", "_law_number"] "_law_take" (defScope s__law_take) f cdv A outer s H E) E := passes_call (takes_of rfl rfl rfl rfl) fun _ _ _ _ z => z
  have hp : PassesOwn (model P w) (cxOf (L2.CX P w) P w K mg base ["_law_bag_here", "_law_many", "_law_digit", "_law_number"] "_law_take" (defScope s__law_take) f cdv A outer s H E).A (cxOf (L2.CX P w) P w K mg base ["_law_bag_here", "_law_many", "_law_digit", "_law_number"] "_law_take" (defScope s__law_take) f cdv A outer s H E).env (cxOf (L2.CX P w) P w K mg base ["_law_bag_here", "_law_many", "_law_digit", "_law_number"] "_law_take" (defScope s__law_take) f cdv A outer s H E).xe := passes_of rfl
  exact (ss_cons (st_if (et_cmp op_gt (by rfl) cmpE (ee_ix (ee_var 0) ee_int) ee_int) (ss_cons (st_set 2 sc__law_take.nd (ee_op op_mod modE (ee_ix (ee_var 0) ee_int) (ee_var 1)))
    (ss_cons (st_asg (ee_op op_fdivW fdvE (ee_ix (ee_var 0) ee_int) (ee_var 1)) (eg_sub (cl := cl) (E := E) (ee_var 0) ee_int))
    (ss_one (st_ret (ee_var 2))))) ss_nil)
    (ss_cons (st_asg (ee_op op_addU addE (ee_ix (ee_var 0) ee_int) ee_int) (eg_sub (cl := cl) (E := E) (ee_var 0) ee_int))
    (ss_cons (st_set 3 sc__law_take.nd (ee_op op_mod modE (ee_op op_pow powE (ee_op op_addU addE (ee_op op_addU addE (ee_ix (ee_var 0) ee_int) (ee_op op_mulU mulE ee_int (ee_ix (ee_var 0) ee_int))) ee_int) ee_int) ee_int))
    (ss_cons (st_set 3 sc__law_take.nd (ee_op op_mod modE (ee_op op_pow powE (ee_op op_addU addE (ee_var 3) (ee_op op_mulU mulE ee_int (ee_ix (ee_var 0) ee_int))) ee_int) ee_int))
    (ss_one (st_ret (ee_op op_mod modE (ee_op op_fdivW fdvE (ee_var 3) ee_int) (ee_var 1))))))))
theorem sc__law_shape : FnScope ["_law_bag_here", "_law_pick", "_law_size_here", "_law_wide"] ["_law_bag_here"] (defScope s__law_shape) := ⟨rfl, rfl, rfl, by decide +kernel, rfl, by decide +kernel, by decide +kernel⟩
theorem ok__law_shape (T : Txt K mg) {f : Addr} {fd : FuncData} (F : FunD K "_law_shape" "_law_shape" (defArgs s__law_shape) (defBody s__law_shape) (defScope s__law_shape) [] [] f fd) (hf : mg "_law_shape" = some (.ref f)) (h__law_take : Okf P w K mg base cl "_law_take" 1 ["_law_bag_here", "_law_many"] d__law_take) : OkA P w K mg base cl "_law_shape" 2 ["_law_bag_here"] d__law_shape f fd := by
  refine okf_mk (k := 1) F hf sc__law_shape (fun _ _ _ _ _ _ us hl => match us, hl with | [_], _ => rfl) fun cdv A outer s H E hr => ?_
  have hx : Passes (L2.CX P w) (cxOf (L2.CX P w) P w K mg base ["_law_bag_here", "_law_pick", "_law_size_here", "_law_wide"] "_law_shape" (defScope s__law_shape) f cdv A outer s H E) E := passes_call (takes_of rfl rfl rfl rfl) fun _ _ _ _ z => z
  have hp : PassesOwn (model P w) (cxOf (L2.CX P w) P w K mg base ["_law_bag_here", "_law_pick", "_law_size_here", "_law_wide"] "_law_shape" (defScope s__law_shape) f cdv A outer s H E).A (cxOf (L2.CX P w) P w K mg base ["_law_bag_here", "_law_pick", "_law_size_here", "_law_wide"] "_law_shape" (defScope s__law_shape) f cdv A outer s H E).env (cxOf (L2.CX P w) P w K mg base ["_law_bag_here", "_law_pick", "_law_size_here", "_law_wide"] "_law_shape" (defScope s__law_shape) f cdv A outer s H E).xe := passes_of rfl
  exact (ss_cons (st_par 1 2 rfl sc__law_shape.nd (ee_call h__law_take (hr.mono (by decide)) hx (ea_cons (ee_var 0) (ea_cons ee_int ea_nil))) (ee_op op_addU addE ee_int (ee_call h__law_take (hr.mono (by decide)) hx (ea_cons (ee_var 0) (ea_cons ee_int ea_nil)))))
    (ss_cons (st_if (et_cmp op_lt (by rfl) cmpE (ee_var 1) ee_int) (ss_one (st_ret (ee_tup (ea_cons (ee_ix (ee_fz (eo_lst (ea_cons ee_str (ea_cons ee_str ea_nil)))) (ee_var 1)) (ea_cons (ee_var 2) ea_nil))))) ss_nil)
    (ss_cons (st_set 3 sc__law_shape.nd (ee_ix (ee_fz (eo_lst (ea_cons ee_int (ea_cons ee_int (ea_cons ee_int (ea_cons ee_int (ea_cons ee_int (ea_cons ee_int (ea_cons ee_int ea_nil))))))))) (ee_call h__law_take (hr.mono (by decide)) hx (ea_cons (ee_var 0) (ea_cons ee_int ea_nil)))))
    (ss_one (st_ret (ee_tup (ea_cons ee_str (ea_cons (ee_var 3) (ea_cons (ee_op op_addU addE ee_int (ee_call h__law_take (hr.mono (by decide)) hx (ea_cons (ee_var 0) (ea_cons (ee_op op_fdivW fdvE ee_int (ee_var 3)) ea_nil)))) ea_nil)))))))))
theorem sc__law_odd : FnScope ["_law_bag_here", "_law_form", "_law_numbers", "_law_words", "_law_found", "_law_turn", "_law_at", "_law_some"] ["_law_bag_here", "_law_form"] (defScope s__law_odd) := ⟨rfl, rfl, rfl, by decide +kernel, rfl, by decide +kernel, by decide +kernel⟩
theorem ok__law_odd (T : Txt K mg) {f : Addr} {fd : FuncData} (F : FunD K "_law_odd" "_law_odd" (defArgs s__law_odd) (defBody s__law_odd) (defScope s__law_odd) [] [] f fd) (hf : mg "_law_odd" = some (.ref f)) (h__law_take : Okf P w K mg base cl "_law_take" 1 ["_law_bag_here", "_law_many"] d__law_take) : OkA P w K mg base cl "_law_odd" 2 ["_law_bag_here", "_law_form"] d__law_odd f fd := by
  refine okf_mk (k := 1) F hf sc__law_odd (fun _ _ _ _ _ _ us hl => match us, hl with | [_, _], _ => rfl) fun cdv A outer s H E hr => ?_
  have hx : Passes (L2.CX P w) (cxOf (L2.CX P w) P w K mg base ["_law_bag_here", "_law_form", "_law_numbers", "_law_words", "_law_found", "_law_turn", "_law_at", "_law_some"] "_law_odd" (defScope s__law_odd) f cdv A outer s H E) E := passes_call (takes_of rfl rfl rfl rfl) fun _ _ _ _ z => z
  have hp : PassesOwn (model P w) (cxOf (L2.CX P w) P w K mg base ["_law_bag_here", "_law_form", "_law_numbers", "_law_words", "_law_found", "_law_turn", "_law_at", "_law_some"] "_law_odd" (defScope s__law_odd) f cdv A outer s H E).A (cxOf (L2.CX P w) P w K mg base ["_law_bag_here", "_law_form", "_law_numbers", "_law_words", "_law_found", "_law_turn", "_law_at", "_law_some"] "_law_odd" (defScope s__law_odd) f cdv A outer s H E).env (cxOf (L2.CX P w) P w K mg base ["_law_bag_here", "_law_form", "_law_numbers", "_law_words", "_law_found", "_law_turn", "_law_at", "_law_some"] "_law_odd" (defScope s__law_odd) f cdv A outer s H E).xe := passes_of rfl
  exact (ss_cons (st_set 2 sc__law_odd.nd (ee_fz (eo_lst (ea_cons ee_int (ea_cons ee_int (ea_cons ee_int (ea_cons ee_int (ea_cons (ee_un un_neg negE ee_int) (ea_cons ee_bl (ea_cons ee_str (ea_cons ee_non (ea_cons ee_int (ea_cons ee_int (ea_cons ee_int (ea_cons (ee_tup (ea_cons ee_int ea_nil)) (ea_cons (ee_op op_pow powE ee_int ee_int) ea_nil))))))))))))))))
    (ss_cons (st_set 3 sc__law_odd.nd (ee_fz (eo_lst (ea_cons ee_str (ea_cons ee_str (ea_cons ee_str (ea_cons ee_str (ea_cons ee_str (ea_cons ee_non (ea_cons ee_int (ea_cons (ee_tup (ea_cons ee_str ea_nil)) ea_nil)))))))))))
    (ss_cons (st_set 4 sc__law_odd.nd (ee_fz (eo_ty call_list_of lstOfO T.n_list b_list (ea_cons (ee_var 1) ea_nil))))
    (ss_cons (st_for hp rfl (ei_rng1 (ea_cons (ee_op op_addU addE ee_int (ee_call h__law_take (hr.mono (by decide)) hx (ea_cons (ee_var 0) (ea_cons ee_int ea_nil)))) ea_nil) (by rfl) T.n_range) (eg_var 5 sc__law_odd.nd) (ss_cons (st_set 6 sc__law_odd.nd (ee_call h__law_take (hr.mono (by decide)) hx (ea_cons (ee_var 0) (ea_cons (ee_op op_addU addE (ee_blt call_lenU lenE T.n_len b_len (ea_cons (ee_var 4) ea_nil)) ee_int) ea_nil))))
    (ss_cons (st_set 7 sc__law_odd.nd (ee_if (et_cmp (op_eqU (by exact hr.units)) (by rfl) eqHE (ee_var 6) ee_int) (ee_var 3) (ee_var 2)))
    (ss_one (st_set 4 sc__law_odd.nd (ee_op op_addU addE (ee_op op_addU addE (ee_cut (ee_var 4) eq_none (eq_some (ee_var 6))) (ee_fz (eo_lst (ea_cons (ee_ix (ee_var 7) (ee_call h__law_take (hr.mono (by decide)) hx (ea_cons (ee_var 0) (ea_cons (ee_blt call_lenU lenE T.n_len b_len (ea_cons (ee_var 7) ea_nil)) ea_nil)))) ea_nil)))) (ee_cut (ee_var 4) (eq_some (ee_op op_addU addE (ee_var 6) (ee_call h__law_take (hr.mono (by decide)) hx (ea_cons (ee_var 0) (ea_cons ee_int ea_nil))))) eq_none)))))))
    (ss_one (st_ret (ee_ix (ee_fz (eo_lst (ea_cons (ee_ty call_tuple_of tupOfE T.n_tuple b_tuple (ea_cons (ee_var 4) ea_nil)) (ea_cons (ee_ty call_tuple_of tupOfE T.n_tuple b_tuple (ea_cons (ee_var 4) ea_nil)) (ea_cons (ee_var 4) (ea_cons (ee_ty call_tuple_of tupOfE T.n_tuple b_tuple (ea_cons (ee_cut (ee_var 4) eq_none (eq_some ee_int)) ea_nil)) ea_nil)))))) (ee_call h__law_take (hr.mono (by decide)) hx (ea_cons (ee_var 0) (ea_cons ee_int ea_nil))))))))))
theorem sc__law_any : FnScope ["_law_bag_here", "_law_some"] ["_law_bag_here"] (defScope s__law_any) := ⟨rfl, rfl, rfl, by decide +kernel, rfl, by decide +kernel, by decide +kernel⟩
theorem ok__law_any (T : Txt K mg) {f : Addr} {fd : FuncData} (F : FunD K "_law_any" "_law_any" (defArgs s__law_any) (defBody s__law_any) (defScope s__law_any) [] [] f fd) (hf : mg "_law_any" = some (.ref f)) (h__law_take : Okf P w K mg base cl "_law_take" 1 ["_law_bag_here", "_law_many"] d__law_take) : OkA P w K mg base cl "_law_any" 2 ["_law_bag_here"] d__law_any f fd := by
  refine okf_mk (k := 1) F hf sc__law_any (fun _ _ _ _ _ _ us hl => match us, hl with | [_], _ => rfl) fun cdv A outer s H E hr => ?_
  have hx : Passes (L2.CX P w) (cxOf (L2.CX P w) P w K mg base ["_law_bag_here", "_law_some"] "_law_any" (defScope s__law_any) f cdv A outer s H E) E := passes_call (takes_of rfl rfl rfl rfl) fun _ _ _ _ z => z
  have hp : PassesOwn (model P w) (cxOf (L2.CX P w) P w K mg base ["_law_bag_here", "_law_some"] "_law_any" (defScope s__law_any) f cdv A outer s H E).A (cxOf (L2.CX P w) P w K mg base ["_law_bag_here", "_law_some"] "_law_any" (defScope s__law_any) f cdv A outer s H E).env (cxOf (L2.CX P w) P w K mg base ["_law_bag_here", "_law_some"] "_law_any" (defScope s__law_any) f cdv A outer s H E).xe := passes_of rfl
  exact (ss_cons (st_set 1 sc__law_any.nd (ee_fz (eo_lst (ea_cons ee_non (ea_cons ee_bl (ea_cons ee_bl (ea_cons (ee_op op_subC subE ee_int ee_int) (ea_cons (ee_op op_pow powE ee_int ee_int) (ea_cons ee_str (ea_cons ee_str (ea_cons ee_str (ea_cons (ee_fz (eo_lst ea_nil)) (ea_cons (ee_fz (eo_lst (ea_cons ee_str ea_nil))) (ea_cons (ee_tup (ea_cons ee_str ea_nil)) (ea_cons (ee_tup ea_nil) (ea_cons ee_dic0 (ea_cons (ee_dic1 ee_str ee_int) (ea_cons (ee_fz (eo_lst (ea_cons (ee_fz (eo_lst (ea_cons ee_int ea_nil))) ea_nil))) ea_nil))))))))))))))))))
    (ss_one (st_ret (ee_ix (ee_var 1) (ee_call h__law_take (hr.mono (by decide)) hx (ea_cons (ee_var 0) (ea_cons ee_int ea_nil)))))))
theorem sc_is_whole : FnScope ["thing", "low", "high"] ["thing", "low", "high"] (defScope s_is_whole) := ⟨rfl, rfl, rfl, by decide +kernel, rfl, by decide +kernel, by decide +kernel⟩
theorem ok_is_whole (T : Txt K mg) {f : Addr} {fd : FuncData} (F : FunD K "is_whole" "is_whole" (defArgs s_is_whole) (defBody s_is_whole) (defScope s_is_whole) [] [] f fd) (hf : mg "is_whole" = some (.ref f)) : OkA P w K mg base cl "is_whole" 1 ["thing", "low", "high"] d_is_whole f fd := by
  refine okf_mk (k := 0) F hf sc_is_whole (fun _ _ _ _ _ _ us hl => match us, hl with | [_, _, _], _ => rfl) fun cdv A outer s H E hr => ?_
  have hx : Passes (L2.CX P w) (cxOf (L2.CX P w) P w K mg base ["thing", "low", "high"] "is_whole" (defScope s_is_whole) f cdv A outer s H E) E := passes_call (takes_of rfl rfl rfl rfl) fun _ _ _ _ z => z
  have hp : PassesOwn (model P w) (cxOf (L2.CX P w) P w K mg base ["thing", "low", "high"] "is_whole" (defScope s_is_whole) f cdv A outer s H E).A (cxOf (L2.CX P w) P w K mg base ["thing", "low", "high"] "is_whole" (defScope s_is_whole) f cdv A outer s H E).env (cxOf (L2.CX P w) P w K mg base ["thing", "low", "high"] "is_whole" (defScope s_is_whole) f cdv A outer s H E).xe := passes_of rfl
  exact (ss_one (st_ret (ee_and (ee_isi (ee_var 0) (by rfl) T.n_isinstance b_isi (by rfl) T.n_int b_int (by rfl) (by decide) (by decide)) (ee_and (ee_not (ee_isi (ee_var 0) (by rfl) T.n_isinstance b_isi (by rfl) T.n_bool b_bool (by rfl) (by decide) (by decide))) (ee_one (ee_chain op_le op_le cmpE cmpE (ee_var 1) (ee_var 0) (ee_var 2)))))))
theorem sc_is_shape : FnScope ["thing", "number"] ["thing"] (defScope s_is_shape) := ⟨rfl, rfl, rfl, by decide +kernel, rfl, by decide +kernel, by decide +kernel⟩
theorem ok_is_shape (T : Txt K mg) {f : Addr} {fd : FuncData} (F : FunD K "is_shape" "is_shape" (defArgs s_is_shape) (defBody s_is_shape) (defScope s_is_shape) [] [] f fd) (hf : mg "is_shape" = some (.ref f)) (h_is_whole : Okf P w K mg base cl "is_whole" 1 ["thing", "low", "high"] d_is_whole) : OkA P w K mg base cl "is_shape" 2 ["thing"] d_is_shape f fd := by
  refine okf_mk (k := 1) F hf sc_is_shape (fun _ _ _ _ _ _ us hl => match us, hl with | [_], _ => rfl) fun cdv A outer s H E hr => ?_
  have hx : Passes (L2.CX P w) (cxOf (L2.CX P w) P w K mg base ["thing", "number"] "is_shape" (defScope s_is_shape) f cdv A outer s H E) E := passes_call (takes_of rfl rfl rfl rfl) fun _ _ _ _ z => z
  have hp : PassesOwn (model P w) (cxOf (L2.CX P w) P w K mg base ["thing", "number"] "is_shape" (defScope s_is_shape) f cdv A outer s H E).A (cxOf (L2.CX P w) P w K mg base ["thing", "number"] "is_shape" (defScope s_is_shape) f cdv A outer s H E).env (cxOf (L2.CX P w) P w K mg base ["thing", "number"] "is_shape" (defScope s_is_shape) f cdv A outer s H E).xe := passes_of rfl
  exact (ss_cons (st_if (et_w (ew_or (et_not (et_val (ee_isi (ee_var 0) (by rfl) T.n_isinstance b_isi (by rfl) T.n_tuple b_tuple (by rfl) (by decide) (by decide)))) (ew_or (et_cmp op_lt (by rfl) cmpE (ee_blt call_lenU lenE T.n_len b_len (ea_cons (ee_var 0) ea_nil)) ee_int) (ew_or1 (et_not (et_val (ee_isi (ee_ix (ee_var 0) ee_int) (by rfl) T.n_isinstance b_isi (by rfl) T.n_str b_str (by rfl) (by decide) (by decide)))))))) (ss_one (st_ret ee_bl)) ss_nil)
    (ss_cons (st_if (et_not (et_val (ee_blt (cr_all rfl) allE T.n_all b_all (ea_cons (ee_fz (eo_lc (own := [("number", 1)]) (ix := [1]) (by decide) rfl sc_is_shape.nd (ei_val (ee_cut (ee_var 0) (eq_some ee_int) eq_none)) (blkOk_by (N := ["thing", "number"]) (sc := defScope s_is_shape) (by decide +kernel)) (fun _ _ _ _ _ => by exact (eg_var 1 sc_is_shape.nd)) (fun _ _ _ _ _ => by exact ets_nil) (fun _ _ _ _ _ => by exact (ee_call h_is_whole (hr.mono (by decide)) passL (ea_cons (ee_var 1) (ea_cons ee_int (ea_cons (ee_gint T.c_MOST_PLACES) ea_nil))))))) ea_nil)))) (ss_one (st_ret ee_bl)) ss_nil)
    (ss_cons (st_if (et_cmp op_inU (by rfl) (inE (neg := false)) (ee_ix (ee_var 0) ee_int) (ee_gtup T.c_LINES)) (ss_one (st_ret (ee_cmp (op_eqU (by exact hr.units)) (by rfl) eqHE (ee_blt call_lenU lenE T.n_len b_len (ea_cons (ee_var 0) ea_nil)) ee_int))) ss_nil)
    (ss_one (st_ret (ee_and (ee_cmp (op_eqU (by exact hr.units)) (by rfl) eqHE (ee_ix (ee_var 0) ee_int) ee_str) (ee_and (ee_cmp (op_eqU (by exact hr.units)) (by rfl) eqHE (ee_blt call_lenU lenE T.n_len b_len (ea_cons (ee_var 0) ea_nil)) ee_int) (ee_one (ee_cmp op_le (by rfl) cmpE (ee_op op_mulU mulE (ee_ix (ee_var 0) ee_int) (ee_ix (ee_var 0) ee_int)) (ee_gint T.c_MOST_PLACES))))))))))
theorem sc__law_size : FnScope ["_law_form"] ["_law_form"] (defScope s__law_size) := ⟨rfl, rfl, rfl, by decide +kernel, rfl, by decide +kernel, by decide +kernel⟩
theorem ok__law_size (T : Txt K mg) {f : Addr} {fd : FuncData} (F : FunD K "_law_size" "_law_size" (defArgs s__law_size) (defBody s__law_size) (defScope s__law_size) [] [] f fd) (hf : mg "_law_size" = some (.ref f)) : OkA P w K mg base cl "_law_size" 1 ["_law_form"] d__law_size f fd := by
  refine okf_mk (k := 0) F hf sc__law_size (fun _ _ _ _ _ _ us hl => match us, hl with | [_], _ => rfl) fun cdv A outer s H E hr => ?_
  have hx : Passes (L2.CX P w) (cxOf (L2.CX P w) P w K mg base ["_law_form"] "_law_size" (defScope s__law_size) f cdv A outer s H E) E := passes_call (takes_of rfl rfl rfl rfl) fun _ _ _ _ z => z
  have hp : PassesOwn (model P w) (cxOf (L2.CX P w) P w K mg base ["_law_form"] "_law_size" (defScope s__law_size) f cdv A outer s H E).A (cxOf (L2.CX P w) P w K mg base ["_law_form"] "_law_size" (defScope s__law_size) f cdv A outer s H E).env (cxOf (L2.CX P w) P w K mg base ["_law_form"] "_law_size" (defScope s__law_size) f cdv A outer s H E).xe := passes_of rfl
  exact (ss_one (st_ret (ee_if (et_cmp (op_eqU (by exact hr.units)) (by rfl) eqHE (ee_ix (ee_var 0) ee_int) ee_str) (ee_op op_mulU mulE (ee_ix (ee_var 0) ee_int) (ee_ix (ee_var 0) ee_int)) (ee_ix (ee_var 0) ee_int))))
theorem sc__law_beside : FnScope ["_law_form", "_law_size_here", "_law_found", "_law_here", "_law_step", "_law_other"] ["_law_form"] (defScope s__law_beside) := ⟨rfl, rfl, rfl, by decide +kernel, rfl, by decide +kernel, by decide +kernel⟩
theorem ok__law_beside (T : Txt K mg) {f : Addr} {fd : FuncData} (F : FunD K "_law_beside" "_law_beside" (defArgs s__law_beside) (defBody s__law_beside) (defScope s__law_beside) [] [] f fd) (hf : mg "_law_beside" = some (.ref f)) (h__law_size : Okf P w K mg base cl "_law_size" 1 ["_law_form"] d__law_size) : OkA P w K mg base cl "_law_beside" 2 ["_law_form"] d__law_beside f fd := by
  refine okf_mk (k := 1) F hf sc__law_beside (fun _ _ _ _ _ _ us hl => match us, hl with | [_], _ => rfl) fun cdv A outer s H E hr => ?_
  have hx : Passes (L2.CX P w) (cxOf (L2.CX P w) P w K mg base ["_law_form", "_law_size_here", "_law_found", "_law_here", "_law_step", "_law_other"] "_law_beside" (defScope s__law_beside) f cdv A outer s H E) E := passes_call (takes_of rfl rfl rfl rfl) fun _ _ _ _ z => z
  have hp : PassesOwn (model P w) (cxOf (L2.CX P w) P w K mg base ["_law_form", "_law_size_here", "_law_found", "_law_here", "_law_step", "_law_other"] "_law_beside" (defScope s__law_beside) f cdv A outer s H E).A (cxOf (L2.CX P w) P w K mg base ["_law_form", "_law_size_here", "_law_found", "_law_here", "_law_step", "_law_other"] "_law_beside" (defScope s__law_beside) f cdv A outer s H E).env (cxOf (L2.CX P w) P w K mg base ["_law_form", "_law_size_here", "_law_found", "_law_here", "_law_step", "_law_other"] "_law_beside" (defScope s__law_beside) f cdv A outer s H E).xe := passes_of rfl
  exact (ss_cons (st_par 1 2 rfl sc__law_beside.nd (ee_call h__law_size (hr.mono (by decide)) hx (ea_cons (ee_var 0) ea_nil)) ee_dicP)
    (ss_cons (st_for hp rfl (ei_rng1 (ea_cons (ee_var 1) ea_nil) (by rfl) T.n_range) (eg_var 3 sc__law_beside.nd) (ss_cons (st_dput (by exact hr.units1) (ee_var 2) (ee_var 3) (ee_ptr (eo_lst ea_nil)))
    (ss_cons (st_for hp rfl (ei_val (ee_fz (eo_lst (ea_cons (ee_un un_neg negE ee_int) (ea_cons ee_int ea_nil))))) (eg_var 4 sc__law_beside.nd) (ss_cons (st_set 5 sc__law_beside.nd (ee_op op_addU addE (ee_var 3) (ee_var 4)))
    (ss_one (st_if (et_w (ew_and (et_cmp (op_eqU (by exact hr.units)) (by rfl) eqHE (ee_ix (ee_var 0) ee_int) ee_str) (ew_and1 (et_cmp op_gt (by rfl) cmpE (ee_var 1) ee_int)))) (ss_one (st_drop (ee_append (ee_dget (by exact hr.units1) (ee_var 2) (ee_var 3)) (ea_cons (ee_op op_mod modE (ee_op op_addU addE (ee_var 5) (ee_var 1)) (ee_var 1)) ea_nil)))) (ss_one (st_if (et_chain op_le op_lt cmpE cmpE ee_int (ee_var 5) (ee_var 1)) (ss_one (st_drop (ee_extend (ee_dget (by exact hr.units1) (ee_var 2) (ee_var 3)) (eo_rep (ee_fz (eo_lst (ea_cons (ee_var 5) ea_nil))) (ee_ty cr_int intAnyE T.n_int b_int (ea_cons (ee_or (ee_cmp (op_neU (by exact hr.units)) (by rfl) neHE (ee_ix (ee_var 0) ee_int) ee_str) (ee_one (ee_cmp (op_eqU (by exact hr.units)) (by rfl) eqHE (ee_op op_fdivW fdvE (ee_var 5) (ee_ix (ee_var 0) ee_int)) (ee_op op_fdivW fdvE (ee_var 3) (ee_ix (ee_var 0) ee_int))))) ea_nil)))))) ss_nil))))))
    (ss_cons (st_for hp rfl (ei_val (ee_if (et_cmp (op_eqU (by exact hr.units)) (by rfl) eqHE (ee_ix (ee_var 0) ee_int) ee_str) (ee_fz (eo_lst (ea_cons (ee_op op_subC subE (ee_var 3) (ee_ix (ee_var 0) ee_int)) (ea_cons (ee_op op_addU addE (ee_var 3) (ee_ix (ee_var 0) ee_int)) ea_nil)))) (ee_fz (eo_lst ea_nil)))) (eg_var 5 sc__law_beside.nd) (ss_one (st_if (et_chain op_le op_lt cmpE cmpE ee_int (ee_var 5) (ee_var 1)) (ss_one (st_drop (ee_append (ee_dget (by exact hr.units1) (ee_var 2) (ee_var 3)) (ea_cons (ee_var 5) ea_nil)))) ss_nil)))
    (ss_one (st_dput (by exact hr.units1) (ee_var 2) (ee_var 3) (ee_fz (eo_blt cr_sorted sortO T.n_sorted b_sorted (ea_cons (ee_dget (by exact hr.units1) (ee_var 2) (ee_var 3)) ea_nil)))))))))
    (ss_one (st_ret (ee_var 2)))))
theorem sc_need_shape : FnScope ["thing"] ["thing"] (defScope s_need_shape) := ⟨rfl, rfl, rfl, by decide +kernel, rfl, by decide +kernel, by decide +kernel⟩
theorem ok_need_shape (T : Txt K mg) {f : Addr} {fd : FuncData} (F : FunD K "need_shape" "need_shape" (defArgs s_need_shape) (defBody s_need_shape) (defScope s_need_shape) [] [] f fd) (hf : mg "need_shape" = some (.ref f)) (h_is_shape : Okf P w K mg base cl "is_shape" 2 ["thing"] d_is_shape) : OkA P w K mg base cl "need_shape" 3 ["thing"] d_need_shape f fd := by
  refine okf_mk (k := 2) F hf sc_need_shape (fun _ _ _ _ _ _ us hl => match us, hl with | [_], _ => rfl) fun cdv A outer s H E hr => ?_
  have hx : Passes (L2.CX P w) (cxOf (L2.CX P w) P w K mg base ["thing"] "need_shape" (defScope s_need_shape) f cdv A outer s H E) E := passes_call (takes_of rfl rfl rfl rfl) fun _ _ _ _ z => z
  have hp : PassesOwn (model P w) (cxOf (L2.CX P w) P w K mg base ["thing"] "need_shape" (defScope s_need_shape) f cdv A outer s H E).A (cxOf (L2.CX P w) P w K mg base ["thing"] "need_shape" (defScope s_need_shape) f cdv A outer s H E).env (cxOf (L2.CX P w) P w K mg base ["thing"] "need_shape" (defScope s_need_shape) f cdv A outer s H E).xe := passes_of rfl
  exact (ss_one (st_if (et_not (et_val (ee_call h_is_shape (hr.mono (by decide)) hx (ea_cons (ee_var 0) ea_nil)))) (ss_one st_no) ss_nil))
theorem sc_many_places : FnScope ["shape"] ["shape"] (defScope s_many_places) := ⟨rfl, rfl, rfl, by decide +kernel, rfl, by decide +kernel, by decide +kernel⟩
theorem ok_many_places (T : Txt K mg) {f : Addr} {fd : FuncData} (F : FunD K "many_places" "many_places" (defArgs s_many_places) (defBody s_many_places) (defScope s_many_places) [] [] f fd) (hf : mg "many_places" = some (.ref f)) (h_need_shape : Okf P w K mg base cl "need_shape" 3 ["thing"] d_need_shape) : OkA P w K mg base cl "many_places" 4 ["shape"] d_many_places f fd := by
  refine okf_mk (k := 3) F hf sc_many_places (fun _ _ _ _ _ _ us hl => match us, hl with | [_], _ => rfl) fun cdv A outer s H E hr => ?_
  have hx : Passes (L2.CX P w) (cxOf (L2.CX P w) P w K mg base ["shape"] "many_places" (defScope s_many_places) f cdv A outer s H E) E := passes_call (takes_of rfl rfl rfl rfl) fun _ _ _ _ z => z
  have hp : PassesOwn (model P w) (cxOf (L2.CX P w) P w K mg base ["shape"] "many_places" (defScope s_many_places) f cdv A outer s H E).A (cxOf (L2.CX P w) P w K mg base ["shape"] "many_places" (defScope s_many_places) f cdv A outer s H E).env (cxOf (L2.CX P w) P w K mg base ["shape"] "many_places" (defScope s_many_places) f cdv A outer s H E).xe := passes_of rfl
  exact (ss_cons (st_drop (ee_call h_need_shape (hr.mono (by decide)) hx (ea_cons (ee_var 0) ea_nil)))
    (ss_one (st_ret (ee_if (et_cmp op_inU (by rfl) (inE (neg := false)) (ee_ix (ee_var 0) ee_int) (ee_gtup T.c_LINES)) (ee_ix (ee_var 0) ee_int) (ee_op op_mulU mulE (ee_ix (ee_var 0) ee_int) (ee_ix (ee_var 0) ee_int))))))
theorem sc_rows_of : FnScope ["shape", "many", "wide", "at"] ["shape"] (defScope s_rows_of) := ⟨rfl, rfl, rfl, by decide +kernel, rfl, by decide +kernel, by decide +kernel⟩
theorem ok_rows_of (T : Txt K mg) {f : Addr} {fd : FuncData} (F : FunD K "rows_of" "rows_of" (defArgs s_rows_of) (defBody s_rows_of) (defScope s_rows_of) [] [] f fd) (hf : mg "rows_of" = some (.ref f)) (h_many_places : Okf P w K mg base cl "many_places" 4 ["shape"] d_many_places) : OkA P w K mg base cl "rows_of" 5 ["shape"] d_rows_of f fd := by
  refine okf_mk (k := 4) F hf sc_rows_of (fun _ _ _ _ _ _ us hl => match us, hl with | [_], _ => rfl) fun cdv A outer s H E hr => ?_
  have hx : Passes (L2.CX P w) (cxOf (L2.CX P w) P w K mg base ["shape", "many", "wide", "at"] "rows_of" (defScope s_rows_of) f cdv A outer s H E) E := passes_call (takes_of rfl rfl rfl rfl) fun _ _ _ _ z => z
  have hp : PassesOwn (model P w) (cxOf (L2.CX P w) P w K mg base ["shape", "many", "wide", "at"] "rows_of" (defScope s_rows_of) f cdv A outer s H E).A (cxOf (L2.CX P w) P w K mg base ["shape", "many", "wide", "at"] "rows_of" (defScope s_rows_of) f cdv A outer s H E).env (cxOf (L2.CX P w) P w K mg base ["shape", "many", "wide", "at"] "rows_of" (defScope s_rows_of) f cdv A outer s H E).xe := passes_of rfl
  exact (ss_cons (st_set 1 sc_rows_of.nd (ee_call h_many_places (hr.mono (by decide)) hx (ea_cons (ee_var 0) ea_nil)))
    (ss_cons (st_set 2 sc_rows_of.nd (ee_ix (ee_var 0) ee_int))
    (ss_one (st_ret (ee_fz (eo_lc (own := [("at", 3)]) (ix := [3]) (by decide) rfl sc_rows_of.nd (ei_rng3 (ea_cons ee_int (ea_cons (ee_var 1) (ea_cons (ee_var 2) ea_nil))) (by rfl) T.n_range) (blkOk_by (N := ["shape", "many", "wide", "at"]) (sc := defScope s_rows_of) (by decide +kernel)) (fun _ _ _ _ _ => by exact (eg_var 3 sc_rows_of.nd)) (fun _ _ _ _ _ => by exact ets_nil) (fun _ _ _ _ _ => by exact (ee_ptr (eo_listRg rfl T.n_list T.n_range (ee_var 3) (ee_op op_addU addE (ee_var 3) (ee_var 2)))))))))))
theorem sc_need_place : FnScope ["shape", "place"] ["shape", "place"] (defScope s_need_place) := ⟨rfl, rfl, rfl, by decide +kernel, rfl, by decide +kernel, by decide +kernel⟩
theorem ok_need_place (T : Txt K mg) {f : Addr} {fd : FuncData} (F : FunD K "need_place" "need_place" (defArgs s_need_place) (defBody s_need_place) (defScope s_need_place) [] [] f fd) (hf : mg "need_place" = some (.ref f)) (h_is_whole : Okf P w K mg base cl "is_whole" 1 ["thing", "low", "high"] d_is_whole) (h_many_places : Okf P w K mg base cl "many_places" 4 ["shape"] d_many_places) : OkA P w K mg base cl "need_place" 5 ["shape", "place"] d_need_place f fd := by
  refine okf_mk (k := 4) F hf sc_need_place (fun _ _ _ _ _ _ us hl => match us, hl with | [_, _], _ => rfl) fun cdv A outer s H E hr => ?_
  have hx : Passes (L2.CX P w) (cxOf (L2.CX P w) P w K mg base ["shape", "place"] "need_place" (defScope s_need_place) f cdv A outer s H E) E := passes_call (takes_of rfl rfl rfl rfl) fun _ _ _ _ z => z
  have hp : PassesOwn (model P w) (cxOf (L2.CX P w) P w K mg base ["shape", "place"] "need_place" (defScope s_need_place) f cdv A outer s H E).A (cxOf (L2.CX P w) P w K mg base ["shape", "place"] "need_place" (defScope s_need_place) f cdv A outer s H E).env (cxOf (L2.CX P w) P w K mg base ["shape", "place"] "need_place" (defScope s_need_place) f cdv A outer s H E).xe := passes_of rfl
  exact (ss_one (st_if (et_not (et_val (ee_call h_is_whole (hr.mono (by decide)) hx (ea_cons (ee_var 1) (ea_cons ee_int (ea_cons (ee_op op_subC subE (ee_call h_many_places (hr.mono (by decide)) hx (ea_cons (ee_var 0) ea_nil)) ee_int) ea_nil)))))) (ss_one st_no) ss_nil))
theorem sc_are_near : FnScope ["shape", "one", "other", "high", "low", "other_high", "other_low", "apart"] ["shape", "one", "other"] (defScope s_are_near) := ⟨rfl, rfl, rfl, by decide +kernel, rfl, by decide +kernel, by decide +kernel⟩
theorem ok_are_near (T : Txt K mg) {f : Addr} {fd : FuncData} (F : FunD K "are_near" "are_near" (defArgs s_are_near) (defBody s_are_near) (defScope s_are_near) [] [] f fd) (hf : mg "are_near" = some (.ref f)) : OkA P w K mg base cl "are_near" 1 ["shape", "one", "other"] d_are_near f fd := by
  refine okf_mk (k := 0) F hf sc_are_near (fun _ _ _ _ _ _ us hl => match us, hl with | [_, _, _], _ => rfl) fun cdv A outer s H E hr => ?_
  have hx : Passes (L2.CX P w) (cxOf (L2.CX P w) P w K mg base ["shape", "one", "other", "high", "low", "other_high", "other_low", "apart"] "are_near" (defScope s_are_near) f cdv A outer s H E) E := passes_call (takes_of rfl rfl rfl rfl) fun _ _ _ _ z => z
  have hp : PassesOwn (model P w) (cxOf (L2.CX P w) P w K mg base ["shape", "one", "other", "high", "low", "other_high", "other_low", "apart"] "are_near" (defScope s_are_near) f cdv A outer s H E).A (cxOf (L2.CX P w) P w K mg base ["shape", "one", "other", "high", "low", "other_high", "other_low", "apart"] "are_near" (defScope s_are_near) f cdv A outer s H E).env (cxOf (L2.CX P w) P w K mg base ["shape", "one", "other", "high", "low", "other_high", "other_low", "apart"] "are_near" (defScope s_are_near) f cdv A outer s H E).xe := passes_of rfl
  exact (ss_cons (st_if (et_cmp (op_eqU (by exact hr.units)) (by rfl) eqHE (ee_ix (ee_var 0) ee_int) ee_str) (ss_cons (st_asg (ee_blt call_divmod dvmE T.n_divmod b_divmod (ea_cons (ee_var 1) (ea_cons (ee_ix (ee_var 0) ee_int) ea_nil))) (eg_two 3 4 rfl sc_are_near.nd))
    (ss_cons (st_asg (ee_blt call_divmod dvmE T.n_divmod b_divmod (ea_cons (ee_var 2) (ea_cons (ee_ix (ee_var 0) ee_int) ea_nil))) (eg_two 5 6 rfl sc_are_near.nd))
    (ss_one (st_ret (ee_cmp (op_eqU (by exact hr.units)) (by rfl) eqHE (ee_op op_addU addE (ee_blt call_abs absE T.n_abs b_abs (ea_cons (ee_op op_subC subE (ee_var 3) (ee_var 5)) ea_nil)) (ee_blt call_abs absE T.n_abs b_abs (ea_cons (ee_op op_subC subE (ee_var 4) (ee_var 6)) ea_nil))) ee_int))))) ss_nil)
    (ss_cons (st_set 7 sc_are_near.nd (ee_blt call_abs absE T.n_abs b_abs (ea_cons (ee_op op_subC subE (ee_var 1) (ee_var 2)) ea_nil)))
    (ss_one (st_ret (ee_or (ee_cmp (op_eqU (by exact hr.units)) (by rfl) eqHE (ee_var 7) ee_int) (ee_one (ee_and (ee_cmp (op_eqU (by exact hr.units)) (by rfl) eqHE (ee_ix (ee_var 0) ee_int) ee_str) (ee_and (ee_cmp op_ge (by rfl) cmpE (ee_ix (ee_var 0) ee_int) ee_int) (ee_one (ee_cmp (op_eqU (by exact hr.units)) (by rfl) eqHE (ee_var 7) (ee_op op_subC subE (ee_ix (ee_var 0) ee_int) ee_int)))))))))))
theorem sc_nears : FnScope ["shape", "place", "other"] ["shape", "place"] (defScope s_nears) := ⟨rfl, rfl, rfl, by decide +kernel, rfl, by decide +kernel, by decide +kernel⟩
theorem ok_nears (T : Txt K mg) {f : Addr} {fd : FuncData} (F : FunD K "nears" "nears" (defArgs s_nears) (defBody s_nears) (defScope s_nears) [] [] f fd) (hf : mg "nears" = some (.ref f)) (h_need_place : Okf P w K mg base cl "need_place" 5 ["shape", "place"] d_need_place) (h_many_places : Okf P w K mg base cl "many_places" 4 ["shape"] d_many_places) (h_are_near : Okf P w K mg base cl "are_near" 1 ["shape", "one", "other"] d_are_near) : OkA P w K mg base cl "nears" 6 ["shape", "place"] d_nears f fd := by
  refine okf_mk (k := 5) F hf sc_nears (fun _ _ _ _ _ _ us hl => match us, hl with | [_, _], _ => rfl) fun cdv A outer s H E hr => ?_
  have hx : Passes (L2.CX P w) (cxOf (L2.CX P w) P w K mg base ["shape", "place", "other"] "nears" (defScope s_nears) f cdv A outer s H E) E := passes_call (takes_of rfl rfl rfl rfl) fun _ _ _ _ z => z
  have hp : PassesOwn (model P w) (cxOf (L2.CX P w) P w K mg base ["shape", "place", "other"] "nears" (defScope s_nears) f cdv A outer s H E).A (cxOf (L2.CX P w) P w K mg base ["shape", "place", "other"] "nears" (defScope s_nears) f cdv A outer s H E).env (cxOf (L2.CX P w) P w K mg base ["shape", "place", "other"] "nears" (defScope s_nears) f cdv A outer s H E).xe := passes_of rfl
  exact (ss_cons (st_drop (ee_call h_need_place (hr.mono (by decide)) hx (ea_cons (ee_var 0) (ea_cons (ee_var 1) ea_nil))))
    (ss_one (st_ret (ee_ptr (eo_lc (own := [("other", 2)]) (ix := [2]) (by decide) rfl sc_nears.nd (ei_rng1 (ea_cons (ee_call h_many_places (hr.mono (by decide)) hx (ea_cons (ee_var 0) ea_nil)) ea_nil) (by rfl) T.n_range) (blkOk_by (N := ["shape", "place", "other"]) (sc := defScope s_nears) (by decide +kernel)) (fun _ _ _ _ _ => by exact (eg_var 2 sc_nears.nd)) (fun _ _ _ _ _ => by exact (ets_one (et_val (ee_call h_are_near (hr.mono (by decide)) passL (ea_cons (ee_var 0) (ea_cons (ee_var 1) (ea_cons (ee_var 2) ea_nil))))))) (fun _ _ _ _ _ => by exact (ee_var 2)))))))
theorem sc__law_whole : FnScope ["_law_thing"] ["_law_thing"] (defScope s__law_whole) := ⟨rfl, rfl, rfl, by decide +kernel, rfl, by decide +kernel, by decide +kernel⟩
theorem ok__law_whole (T : Txt K mg) {f : Addr} {fd : FuncData} (F : FunD K "_law_whole" "_law_whole" (defArgs s__law_whole) (defBody s__law_whole) (defScope s__law_whole) [] [] f fd) (hf : mg "_law_whole" = some (.ref f)) : OkA P w K mg base cl "_law_whole" 1 ["_law_thing"] d__law_whole f fd := by
  refine okf_mk (k := 0) F hf sc__law_whole (fun _ _ _ _ _ _ us hl => match us, hl with | [_], _ => rfl) fun cdv A outer s H E hr => ?_
  have hx : Passes (L2.CX P w) (cxOf (L2.CX P w) P w K mg base ["_law_thing"] "_law_whole" (defScope s__law_whole) f cdv A outer s H E) E := passes_call (takes_of rfl rfl rfl rfl) fun _ _ _ _ z => z
  have hp : PassesOwn (model P w) (cxOf (L2.CX P w) P w K mg base ["_law_thing"] "_law_whole" (defScope s__law_whole) f cdv A outer s H E).A (cxOf (L2.CX P w) P w K mg base ["_law_thing"] "_law_whole" (defScope s__law_whole) f cdv A outer s H E).env (cxOf (L2.CX P w) P w K mg base ["_law_thing"] "_law_whole" (defScope s__law_whole) f cdv A outer s H E).xe := passes_of rfl
  exact (ss_one (st_ret (ee_and (ee_isi (ee_var 0) (by rfl) T.n_isinstance b_isi (by rfl) T.n_int b_int (by rfl) (by decide) (by decide)) (ee_one (ee_not (ee_isi (ee_var 0) (by rfl) T.n_isinstance b_isi (by rfl) T.n_bool b_bool (by rfl) (by decide) (by decide)))))))
theorem sc__law_is_shape : FnScope ["_law_thing", "_law_number"] ["_law_thing"] (defScope s__law_is_shape) := ⟨rfl, rfl, rfl, by decide +kernel, rfl, by decide +kernel, by decide +kernel⟩
theorem ok__law_is_shape (T : Txt K mg) {f : Addr} {fd : FuncData} (F : FunD K "_law_is_shape" "_law_is_shape" (defArgs s__law_is_shape) (defBody s__law_is_shape) (defScope s__law_is_shape) [] [] f fd) (hf : mg "_law_is_shape" = some (.ref f)) (h__law_whole : Okf P w K mg base cl "_law_whole" 1 ["_law_thing"] d__law_whole) : OkA P w K mg base cl "_law_is_shape" 2 ["_law_thing"] d__law_is_shape f fd := by
  refine okf_mk (k := 1) F hf sc__law_is_shape (fun _ _ _ _ _ _ us hl => match us, hl with | [_], _ => rfl) fun cdv A outer s H E hr => ?_
  have hx : Passes (L2.CX P w) (cxOf (L2.CX P w) P w K mg base ["_law_thing", "_law_number"] "_law_is_shape" (defScope s__law_is_shape) f cdv A outer s H E) E := passes_call (takes_of rfl rfl rfl rfl) fun _ _ _ _ z => z
  have hp : PassesOwn (model P w) (cxOf (L2.CX P w) P w K mg base ["_law_thing", "_law_number"] "_law_is_shape" (defScope s__law_is_shape) f cdv A outer s H E).A (cxOf (L2.CX P w) P w K mg base ["_law_thing", "_law_number"] "_law_is_shape" (defScope s__law_is_shape) f cdv A outer s H E).env (cxOf (L2.CX P w) P w K mg base ["_law_thing", "_law_number"] "_law_is_shape" (defScope s__law_is_shape) f cdv A outer s H E).xe := passes_of rfl
  exact (ss_cons (st_if (et_w (ew_or (et_not (et_val (ee_isi (ee_var 0) (by rfl) T.n_isinstance b_isi (by rfl) T.n_tuple b_tuple (by rfl) (by decide) (by decide)))) (ew_or (et_cmp op_notInU (by rfl) (inE (neg := true)) (ee_blt call_lenU lenE T.n_len b_len (ea_cons (ee_var 0) ea_nil)) (ee_tup (ea_cons ee_int (ea_cons ee_int ea_nil)))) (ew_or1 (et_not (et_val (ee_isi (ee_ix (ee_var 0) ee_int) (by rfl) T.n_isinstance b_isi (by rfl) T.n_str b_str (by rfl) (by decide) (by decide)))))))) (ss_one (st_ret ee_bl)) ss_nil)
    (ss_cons (st_if (et_cmp (op_neU (by exact hr.units)) (by rfl) neHE (ee_fz (eo_lc (own := [("_law_number", 1)]) (ix := [1]) (by decide) rfl sc__law_is_shape.nd (ei_val (ee_cut (ee_var 0) (eq_some ee_int) eq_none)) (blkOk_by (N := ["_law_thing", "_law_number"]) (sc := defScope s__law_is_shape) (by decide +kernel)) (fun _ _ _ _ _ => by exact (eg_var 1 sc__law_is_shape.nd)) (fun _ _ _ _ _ => by exact (ets_one (et_w (ew_or (et_not (et_val (ee_call h__law_whole (hr.mono (by decide)) passL (ea_cons (ee_var 1) ea_nil)))) (ew_or1 (et_not (et_chain op_le op_le cmpE cmpE ee_int (ee_var 1) ee_int))))))) (fun _ _ _ _ _ => by exact (ee_var 1)))) (ee_fz (eo_lst ea_nil))) (ss_one (st_ret ee_bl)) ss_nil)
    (ss_cons (st_if (et_cmp (op_eqU (by exact hr.units)) (by rfl) eqHE (ee_blt call_lenU lenE T.n_len b_len (ea_cons (ee_var 0) ea_nil)) ee_int) (ss_one (st_ret (ee_cmp op_inU (by rfl) (inE (neg := false)) (ee_ix (ee_var 0) ee_int) (ee_tup (ea_cons ee_str (ea_cons ee_str ea_nil)))))) ss_nil)
    (ss_one (st_ret (ee_and (ee_cmp (op_eqU (by exact hr.units)) (by rfl) eqHE (ee_ix (ee_var 0) ee_int) ee_str) (ee_one (ee_cmp op_lt (by rfl) cmpE (ee_op op_mulU mulE (ee_ix (ee_var 0) ee_int) (ee_ix (ee_var 0) ee_int)) ee_int))))))))
theorem sc_near : FnScope ["shape", "one", "other"] ["shape", "one", "other"] (defScope s_near) := ⟨rfl, rfl, rfl, by decide +kernel, rfl, by decide +kernel, by decide +kernel⟩
theorem ok_near (T : Txt K mg) {f : Addr} {fd : FuncData} (F : FunD K "near" "near" (defArgs s_near) (defBody s_near) (defScope s_near) [] [] f fd) (hf : mg "near" = some (.ref f)) (h_need_place : Okf P w K mg base cl "need_place" 5 ["shape", "place"] d_need_place) (h_are_near : Okf P w K mg base cl "are_near" 1 ["shape", "one", "other"] d_are_near) : OkA P w K mg base cl "near" 6 ["shape", "one", "other"] d_near f fd := by
  refine okf_mk (k := 5) F hf sc_near (fun _ _ _ _ _ _ us hl => match us, hl with | [_, _, _], _ => rfl) fun cdv A outer s H E hr => ?_
  have hx : Passes (L2.CX P w) (cxOf (L2.CX P w) P w K mg base ["shape", "one", "other"] "near" (defScope s_near) f cdv A outer s H E) E := passes_call (takes_of rfl rfl rfl rfl) fun _ _ _ _ z => z
  have hp : PassesOwn (model P w) (cxOf (L2.CX P w) P w K mg base ["shape", "one", "other"] "near" (defScope s_near) f cdv A outer s H E).A (cxOf (L2.CX P w) P w K mg base ["shape", "one", "other"] "near" (defScope s_near) f cdv A outer s H E).env (cxOf (L2.CX P w) P w K mg base ["shape", "one", "other"] "near" (defScope s_near) f cdv A outer s H E).xe := passes_of rfl
  exact (ss_cons (st_drop (ee_call h_need_place (hr.mono (by decide)) hx (ea_cons (ee_var 0) (ea_cons (ee_var 1) ea_nil))))
    (ss_cons (st_drop (ee_call h_need_place (hr.mono (by decide)) hx (ea_cons (ee_var 0) (ea_cons (ee_var 2) ea_nil))))
    (ss_one (st_ret (ee_call h_are_near (hr.mono (by decide)) hx (ea_cons (ee_var 0) (ea_cons (ee_var 1) (ea_cons (ee_var 2) ea_nil))))))))
theorem sc__law_right : FnScope ["_law_bag_here", "_law_form", "_law_thing", "_law_found", "_law_due", "_law_size_here", "_law_wide", "_law_rows", "_law_turn", "_law_here", "_law_told", "_law_other", "_law_row", "_law_k"] ["_law_bag_here"] (defScope s__law_right) := ⟨rfl, rfl, rfl, by decide +kernel, rfl, by decide +kernel, by decide +kernel⟩
theorem ok__law_right (T : Txt K mg) {f : Addr} {fd : FuncData} (F : FunD K "_law_right" "_law_right" (defArgs s__law_right) (defBody s__law_right) (defScope s__law_right) [] [] f fd) (hf : mg "_law_right" = some (.ref f)) (h__law_beside : Okf P w K mg base cl "_law_beside" 2 ["_law_form"] d__law_beside) (h__law_size : Okf P w K mg base cl "_law_size" 1 ["_law_form"] d__law_size) (h_many_places : Okf P w K mg base cl "many_places" 4 ["shape"] d_many_places) (h_rows_of : Okf P w K mg base cl "rows_of" 5 ["shape"] d_rows_of) (h_near : Okf P w K mg base cl "near" 6 ["shape", "one", "other"] d_near) (h__law_any : Okf P w K mg base cl "_law_any" 2 ["_law_bag_here"] d__law_any) (h__law_odd : Okf P w K mg base cl "_law_odd" 2 ["_law_bag_here", "_law_form"] d__law_odd) (h_is_shape : Okf P w K mg base cl "is_shape" 2 ["thing"] d_is_shape) (h__law_is_shape : Okf P w K mg base cl "_law_is_shape" 2 ["_law_thing"] d__law_is_shape) (h__law_shape : Okf P w K mg base cl "_law_shape" 2 ["_law_bag_here"] d__law_shape) (k_nears_0_place_shape : Okk P w K mg base cl "nears" 6 ["shape", "place"] d_nears 0 ["place", "shape"] gd_nears_0_place_shape) : OkA P w K mg base cl "_law_right" 7 ["_law_bag_here"] d__law_right f fd := by
  refine okf_mk (k := 6) F hf sc__law_right (fun _ _ _ _ _ _ us hl => match us, hl with | [_], _ => rfl) fun cdv A outer s H E hr => ?_
  have hx : Passes (L2.CX P w) (cxOf (L2.CX P w) P w K mg base ["_law_bag_here", "_law_form", "_law_thing", "_law_found", "_law_due", "_law_size_here", "_law_wide", "_law_rows", "_law_turn", "_law_here", "_law_told", "_law_other", "_law_row", "_law_k"] "_law_right" (defScope s__law_right) f cdv A outer s H E) E := passes_call (takes_of rfl rfl rfl rfl) fun _ _ _ _ z => z
  have hp : PassesOwn (model P w) (cxOf (L2.CX P w) P w K mg base ["_law_bag_here", "_law_form", "_law_thing", "_law_found", "_law_due", "_law_size_here", "_law_wide", "_law_rows", "_law_turn", "_law_here", "_law_told", "_law_other", "_law_row", "_law_k"] "_law_right" (defScope s__law_right) f cdv A outer s H E).A (cxOf (L2.CX P w) P w K mg base ["_law_bag_here", "_law_form", "_law_thing", "_law_found", "_law_due", "_law_size_here", "_law_wide", "_law_rows", "_law_turn", "_law_here", "_law_told", "_law_other", "_law_row", "_law_k"] "_law_right" (defScope s__law_right) f cdv A outer s H E).env (cxOf (L2.CX P w) P w K mg base ["_law_bag_here", "_law_form", "_law_thing", "_law_found", "_law_due", "_law_size_here", "_law_wide", "_law_rows", "_law_turn", "_law_here", "_law_told", "_law_other", "_law_row", "_law_k"] "_law_right" (defScope s__law_right) f cdv A outer s H E).xe := passes_of rfl
  exact (ss_cons (st_set 1 sc__law_right.nd (ee_call h__law_shape (hr.mono (by decide)) hx (ea_cons (ee_var 0) ea_nil)))
    (ss_cons (st_for hp rfl (ei_val (ee_fz (eo_lst (ea_cons (ee_var 1) (ea_cons (ee_fz (eo_ty call_list_of lstOfO T.n_list b_list (ea_cons (ee_var 1) ea_nil))) (ea_cons (ee_call h__law_odd (hr.mono (by decide)) hx (ea_cons (ee_var 0) (ea_cons (ee_var 1) ea_nil))) (ea_cons (ee_call h__law_odd (hr.mono (by decide)) hx (ea_cons (ee_var 0) (ea_cons (ee_var 1) ea_nil))) (ea_cons (ee_call h__law_any (hr.mono (by decide)) hx (ea_cons (ee_var 0) ea_nil)) (ea_cons (ee_tup ea_nil) ea_nil))))))))) (eg_var 2 sc__law_right.nd) (ss_cons (st_set 3 sc__law_right.nd (ee_call h_is_shape (hr.mono (by decide)) hx (ea_cons (ee_var 2) ea_nil)))
    (ss_one (st_if (et_w (ew_or (et_not (et_val (ee_isi (ee_var 3) (by rfl) T.n_isinstance b_isi (by rfl) T.n_bool b_bool (by rfl) (by decide) (by decide)))) (ew_or1 (et_cmp (op_neU (by exact hr.units)) (by rfl) neHE (ee_var 3) (ee_call h__law_is_shape (hr.mono (by decide)) hx (ea_cons (ee_var 2) ea_nil)))))) (ss_one (st_ret ee_bl)) ss_nil))))
    (ss_iso [1] (ss_cons (st_asg (ee_tup (ea_cons (ee_call h__law_beside (hr.mono (by decide)) hx (ea_cons (ee_var 1) ea_nil)) (ea_cons (ee_call h__law_size (hr.mono (by decide)) hx (ea_cons (ee_var 1) ea_nil)) ea_nil))) (eg_two 4 5 rfl sc__law_right.nd))
    (ss_cons (st_set 6 sc__law_right.nd (ee_ix (ee_var 1) ee_int))
    (ss_cons (st_setLc 7 (own := [("_law_k", 13)]) (ix := [13]) (by decide) rfl sc__law_right.nd (ei_rng1 (ea_cons (ee_op op_fdivW fdvE (ee_var 5) (ee_var 6)) ea_nil) (by rfl) T.n_range) (blkOk_by (N := ["_law_bag_here", "_law_form", "_law_thing", "_law_found", "_law_due", "_law_size_here", "_law_wide", "_law_rows", "_law_turn", "_law_here", "_law_told", "_law_other", "_law_row", "_law_k"]) (sc := defScope s__law_right) (by decide +kernel)) (fun _ _ _ _ _ => by exact (eg_var 13 sc__law_right.nd)) (fun _ _ _ _ _ => by exact ets_nil) (fun _ _ _ _ _ => by exact (ee_fz (eo_lc (own := [("_law_here", 9)]) (ix := [9]) (by decide) rfl sc__law_right.nd (ei_rng1 (ea_cons (ee_var 5) ea_nil) (by rfl) T.n_range) (by exact blkOk_by (N := ["_law_bag_here", "_law_form", "_law_thing", "_law_found", "_law_due", "_law_size_here", "_law_wide", "_law_rows", "_law_turn", "_law_here", "_law_told", "_law_other", "_law_row", "_law_k"]) (by kernel_rfl)) (fun _ _ _ _ _ => by exact (eg_var 9 sc__law_right.nd)) (fun _ _ _ _ _ => by exact (ets_one (et_cmp (op_eqU (by exact hr.units)) (by rfl) eqHE (ee_op op_fdivW fdvE (ee_var 9) (ee_var 6)) (ee_var 13)))) (fun _ _ _ _ _ => by exact (ee_var 9))))) (sw_true rfl rfl rfl (by decide +kernel)))
    (ss_cons (st_for hp rfl (ei_rng1 (ea_cons ee_int ea_nil) (by rfl) T.n_range) (eg_var 8 sc__law_right.nd) (ss_cons (st_if (et_w (ew_or (et_cmp (op_neU (by exact hr.units)) (by rfl) neHE (ee_blt (cr_repr hr) reprHE T.n_repr b_repr (ea_cons (ee_call h_many_places (hr.mono (by decide)) hx (ea_cons (ee_var 1) ea_nil)) ea_nil)) (ee_blt (cr_repr hr) reprHE T.n_repr b_repr (ea_cons (ee_var 5) ea_nil))) (ew_or1 (et_cmp (op_neU (by exact hr.units)) (by rfl) neHE (ee_call h_rows_of (hr.mono (by decide)) hx (ea_cons (ee_var 1) ea_nil)) (ee_var 7))))) (ss_one (st_ret ee_bl)) ss_nil)
    (ss_cons (st_for hp rfl (ei_rng1 (ea_cons (ee_var 5) ea_nil) (by rfl) T.n_range) (eg_var 9 sc__law_right.nd) (ss_cons (st_set 10 sc__law_right.nd (ee_callK0 k_nears_0_place_shape gl_nears_0_place_shape (hr.mono (by decide)) hx (ek_cons (ee_var 9) (ek_cons (ee_var 1) ek_nil))))
    (ss_cons (st_if (et_cmp (op_neU (by exact hr.units)) (by rfl) neHE (ee_var 10) (ee_dget (by exact hr.units1) (ee_var 4) (ee_var 9))) (ss_one (st_ret ee_bl)) ss_nil)
    (ss_cons (st_drop (ee_append (ee_var 10) (ea_cons ee_int ea_nil)))
    (ss_one (st_for hp rfl (ei_rng1 (ea_cons (ee_var 5) ea_nil) (by rfl) T.n_range) (eg_var 11 sc__law_right.nd) (ss_cons (st_set 3 sc__law_right.nd (ee_call h_near (hr.mono (by decide)) hx (ea_cons (ee_var 1) (ea_cons (ee_var 9) (ea_cons (ee_var 11) ea_nil)))))
    (ss_one (st_if (et_w (ew_or (et_not (et_val (ee_isi (ee_var 3) (by rfl) T.n_isinstance b_isi (by rfl) T.n_bool b_bool (by rfl) (by decide) (by decide)))) (ew_or1 (et_cmp (op_neU (by exact hr.units)) (by rfl) neHE (ee_var 3) (ee_cmp op_inU (by rfl) (inE (neg := false)) (ee_var 11) (ee_dget (by exact hr.units1) (ee_var 4) (ee_var 9))))))) (ss_one (st_ret ee_bl)) ss_nil)))))))))
    (ss_one (st_for hp rfl (ei_val (ee_call h_rows_of (hr.mono (by decide)) hx (ea_cons (ee_var 1) ea_nil))) (eg_var 12 sc__law_right.nd) (ss_one (st_drop (ee_clear (ee_var 12)))))))))
    (ss_one (st_ret ee_bl)))))))))
theorem sc__law_bag : FnScope ["_law_cell_here"] ["_law_cell_here"] (defScope s__law_bag) := ⟨rfl, rfl, rfl, by decide +kernel, rfl, by decide +kernel, by decide +kernel⟩
theorem ok__law_bag (T : Txt K mg) {f : Addr} {fd : FuncData} (F : FunD K "_law_bag" "_law_bag" (defArgs s__law_bag) (defBody s__law_bag) (defScope s__law_bag) [] [] f fd) (hf : mg "_law_bag" = some (.ref f)) : OkA P w K mg base cl "_law_bag" 1 ["_law_cell_here"] d__law_bag f fd := by
  refine okf_mk (k := 0) F hf sc__law_bag (fun _ _ _ _ _ _ us hl => match us, hl with | [_], _ => rfl) fun cdv A outer s H E hr => ?_
  have hx : Passes (L2.CX P w) (cxOf (L2.CX P w) P w K mg base ["_law_cell_here"] "_law_bag" (defScope s__law_bag) f cdv A outer s H E) E := passes_call (takes_of rfl rfl rfl rfl) fun _ _ _ _ z => z
  have hp : PassesOwn (model P w) (cxOf (L2.CX P w) P w K mg base ["_law_cell_here"] "_law_bag" (defScope s__law_bag) f cdv A outer s H E).A (cxOf (L2.CX P w) P w K mg base ["_law_cell_here"] "_law_bag" (defScope s__law_bag) f cdv A outer s H E).env (cxOf (L2.CX P w) P w K mg base ["_law_cell_here"] "_law_bag" (defScope s__law_bag) f cdv A outer s H E).xe := passes_of rfl
  exact (ss_one (st_ret (ee_ptr (eo_lst (ea_cons (ee_blt (call_max2 rfl) max2E T.n_max b_max (ea_cons ee_int (ea_cons (ee_op op_subC subE (ee_var 0) (ee_op op_pow powE ee_int ee_int)) ea_nil))) (ea_cons (ee_op op_mod modE (ee_var 0) ee_int) (ea_cons ee_int ea_nil)))))))
theorem sc__law_cell : FnScope ["_law_script", "_law_k"] ["_law_script", "_law_k"] (defScope s__law_cell) := ⟨rfl, rfl, rfl, by decide +kernel, rfl, by decide +kernel, by decide +kernel⟩
theorem ok__law_cell (T : Txt K mg) {f : Addr} {fd : FuncData} (F : FunD K "_law_cell" "_law_cell" (defArgs s__law_cell) (defBody s__law_cell) (defScope s__law_cell) [] [] f fd) (hf : mg "_law_cell" = some (.ref f)) : OkA P w K mg base cl "_law_cell" 1 ["_law_script", "_law_k"] d__law_cell f fd := by
  refine okf_mk (k := 0) F hf sc__law_cell (fun _ _ _ _ _ _ us hl => match us, hl with | [_, _], _ => rfl) fun cdv A outer s H E hr => ?_
  have hx : Passes (L2.CX P w) (cxOf (L2.CX P w) P w K mg base ["_law_script", "_law_k"] "_law_cell" (defScope s__law_cell) f cdv A outer s H E) E := passes_call (takes_of rfl rfl rfl rfl) fun _ _ _ _ z => z
  have hp : PassesOwn (model P w) (cxOf (L2.CX P w) P w K mg base ["_law_script", "_law_k"] "_law_cell" (defScope s__law_cell) f cdv A outer s H E).A (cxOf (L2.CX P w) P w K mg base ["_law_script", "_law_k"] "_law_cell" (defScope s__law_cell) f cdv A outer s H E).env (cxOf (L2.CX P w) P w K mg base ["_law_script", "_law_k"] "_law_cell" (defScope s__law_cell) f cdv A outer s H E).xe := passes_of rfl
  exact (ss_cons (st_if (et_cmp op_lt (by rfl) cmpE (ee_var 1) (ee_blt call_lenU lenE T.n_len b_len (ea_cons (ee_var 0) ea_nil))) (ss_one (st_ret (ee_ix (ee_var 0) (ee_var 1)))) ss_nil)
    (ss_one (st_ret (ee_op op_addU addE (ee_op op_mulU mulE ee_int (ee_var 1)) ee_int))))
theorem sc_law : FnScope ["_law_script", "_law_k"] ["_law_script"] (defScope s_law) := ⟨rfl, rfl, rfl, by decide +kernel, rfl, by decide +kernel, by decide +kernel⟩
theorem ok_law (T : Txt K mg) {f : Addr} {fd : FuncData} (F : FunD K "law" "law" (defArgs s_law) (defBody s_law) (defScope s_law) [] [] f fd) (hf : mg "law" = some (.ref f)) (h__law_right : Okf P w K mg base cl "_law_right" 7 ["_law_bag_here"] d__law_right) (h__law_bag : Okf P w K mg base cl "_law_bag" 1 ["_law_cell_here"] d__law_bag) (h__law_cell : Okf P w K mg base cl "_law_cell" 1 ["_law_script", "_law_k"] d__law_cell) : OkA P w K mg base cl "law" 8 ["_law_script"] d_law f fd := by
  refine okf_mk (k := 7) F hf sc_law (fun _ _ _ _ _ _ us hl => match us, hl with | [_], _ => rfl) fun cdv A outer s H E hr => ?_
  have hx : Passes (L2.CX P w) (cxOf (L2.CX P w) P w K mg base ["_law_script", "_law_k"] "law" (defScope s_law) f cdv A outer s H E) E := passes_call (takes_of rfl rfl rfl rfl) fun _ _ _ _ z => z
  have hp : PassesOwn (model P w) (cxOf (L2.CX P w) P w K mg base ["_law_script", "_law_k"] "law" (defScope s_law) f cdv A outer s H E).A (cxOf (L2.CX P w) P w K mg base ["_law_script", "_law_k"] "law" (defScope s_law) f cdv A outer s H E).env (cxOf (L2.CX P w) P w K mg base ["_law_script", "_law_k"] "law" (defScope s_law) f cdv A outer s H E).xe := passes_of rfl
  exact (ss_cons (st_for hp rfl (ei_rng1 (ea_cons (ee_blt (call_max2 rfl) max2E T.n_max b_max (ea_cons ee_int (ea_cons (ee_blt (call_min2 rfl) min2E T.n_min b_min (ea_cons ee_int (ea_cons (ee_blt call_lenU lenE T.n_len b_len (ea_cons (ee_var 0) ea_nil)) ea_nil))) ea_nil))) ea_nil) (by rfl) T.n_range) (eg_var 1 sc_law.nd) (ss_one (st_if (et_not (et_val (ee_call h__law_right (hr.mono (by decide)) hx (ea_cons (ee_call h__law_bag (hr.mono (by decide)) hx (ea_cons (ee_call h__law_cell (hr.mono (by decide)) hx (ea_cons (ee_var 0) (ea_cons (ee_var 1) ea_nil))) ea_nil)) ea_nil)))) (ss_one (st_ret ee_bl)) ss_nil)))
    (ss_one (st_ret ee_bl)))
end
end W04

set_option Elab.async false
set_option linter.all false
set_option maxRecDepth 100000
set_option maxHeartbeats 4000000
namespace W04
open PySem L2 U
/-- a bag of draws stands at n, at most c were mixed -/
def Bag (n : Nat) (c : Nat) (S : ST) : Prop := ∃ (a b : Int) (k : Nat), stL S n = some [.int a, .int b, .int k] ∧ 0 ≤ a ∧ 0 ≤ b ∧ b < 2147483629 ∧ k ≤ c
theorem take_ok {n c : Nat} {S : ST} {m : Int} (B : Bag n c S) (hc : c < 1000) (hm : 0 < m) (hm2 : m.natAbs.log2 < 9000) : ∃ r S', d__law_take [.ptr n, .int m] S = some (.ok (.int r), S') ∧ 0 ≤ r ∧ r < m ∧ Bag n (c + 1) S' := by
  obtain ⟨a, b, k, hs, ha, hb, hb2, hk⟩ := B
  have hn := stL_lt hs
  have a0 : atI [D.int a, D.int b, D.int k] 0 = some (.int a) := rfl
  have a1 : ∀ x : D, atI [D.int a, D.int b, x] 1 = some (.int b) := fun _ => rfl
  have a2 : ∀ x : D, atI [D.int a, D.int b, x] 2 = some x := fun _ => rfl
  have x0 : ixN 3 0 = some 0 := rfl
  have x2 : ixN 3 2 = some 2 := rfl
  by_cases h : 0 < a
  · refine ⟨a % m, S.set n (.lst [.int (a / m), .int b, .int k]), ?_, Int.emod_nonneg _ (by omega), Int.emod_lt_of_pos _ hm, ⟨a / m, b, k, stL_set hn, Int.ediv_nonneg ha (by omega), hb, hb2, by omega⟩⟩
    simp (config := { decide := true }) only [bd_1, bd_2, bs_1, bs_2, sq_1, sq_2, sq_3, sq_4, sq_5, vr_1, ga_1, lcE_1, sSeq_e, sAsg_e, cAsg_1, sRet_e, cRt_1, sDrop_e, cDr_1, sIf_e, cIf_t, cIf_f, sSkip_e, sBrk_e, sCnt_e, sPar_e, cPar_1, cPar2_1, sFor_e, cFor_1, gVar_e, eVar_e, eC_e, eOp_e, cOp_1, eUn_e, aNil_e, aCons_e, cA_1, cA2_1, eCall_e, oCall_e, iCall_e, iVal_e, toB_1, bVal_e, bAnd_e, cAnd_1, bOr_e, cOr_1, bNot_e, cNot_1, eAnd_e, cEAnd_1, cEAnd2_1, eOr_e, cEOr_1, cEOr2_1, eNot_e, cENot_1, cENot2_1, eIf_e, cEIf_1, eChain_e, cCh_1, cCh1_1, cCh2_1, cCh3_1, eTup_e, cTup_1, oLst_e, cLst_1, eFz_e, cFz_1, ePtr_e, cPtr_1, oLc_e, cLc_1, eSh_e, itF_1, itF_2, itF_3, addF_1, addF_2, addF_3, intF_1, subF_1, modF_1, fdvF_1, powF_1, mulF_1, mulF_2, negF_1, ltF_1, leF_1, gtF_1, geF_1, atE_1, ixF_1, ixF_2, ixF_3, pxE_1, ixF_4, plE_1, lenF_4, eMt_e, cMt_1, eCut_e, cCut_1, cCut2_1, qNone_e, qSome_e, toI_1, cutF_1, cutF_2, cutF_3, cutF_4, eCallK_e, cK_1, cK2_1, eDic0_e, oCat_e, cCat_1, cCat2_1, cCat3_1, lsT_1, lsT_2, rcv_p, apE_1, appF_1, stL_app, set_app, stL_0, stL_k, stL_c, stL_s, set_0, set_k, shE_1, shF_1, lenF_1, lenF_2, lenF_3, absF_1, intOfF_1, intOfF_2, rng1F_1, rng2F_1, Ar_e, mkD_e, fin_1, fin_2, fin_3, few_e, tupOfF_1, tupOfF_2, tupOfF_3, lstOfF_1, lstOfF_2, lstOfF_3, isF_1, gStar_1, cIf_1, Option.isSome_some, List.length_map, List.length_append, List.append_assoc, Nat.add_assoc, slots, wpD, List.map_cons, List.map_nil, List.cons_append, List.nil_append, List.length_cons, List.length_nil, List.replicate, List.set_cons_succ, List.set_cons_zero, List.getElem?_cons_zero, List.getElem?_cons_succ, if_true, if_false, ite_true, ite_false, reduceIte, Nat.reduceAdd, Nat.reduceSub, Nat.reduceLeDiff, Nat.zero_add, Nat.sub_zero, Nat.sub_self, Bool.not_true, Bool.not_false, Bool.false_eq_true, decide_true, decide_false, Bool.true_and, Bool.and_true, Bool.or_true, Bool.true_or, Bool.false_and, Bool.and_false, Bool.or_false, Bool.false_or, decide_eq_true_eq, id_eq, Int.reduceLT, Int.reduceLE, Int.reduceNeg, Int.reduceAdd, Int.reduceSub, Int.reduceMul, Int.reduceMod, Int.reduceDiv, Int.reducePow, Int.reduceToNat, and_self, true_and, and_true, gStar_1, eqF_int, isiF_tup, isiF_lst, isiF_int, isiF_str, isiF_bl, at_0, gSet_e, seO_1, seI_1, lenF_5, addF_4, sxE_1, ixF_5, itF_4, max2F_e, min2F_e, eM1_c, cM1_1, oM1_c, cN1_1, intAnyF_b, intAnyF_s, strOfF_1, eqF_str, eqH_int, eqH_str, dvmF_1, gTwo_1, eIf_e, d__law_take, b__law_take, hs, a0, h, hm, hm2, seE_1, x0]
  · have e1 : ((k : Int) + 1) = ((k + 1 : Nat) : Int) := by omega
    have p1 : (b + 7919 * ((k + 1 : Nat) : Int) + 41).natAbs < 18446744073709551616 := by omega
    generalize hu : (b + 7919 * ((k + 1 : Nat) : Int) + 41) ^ 5 % 2147483647 = u
    have u1 : 0 ≤ u := by rw [← hu]; exact Int.emod_nonneg _ (by decide)
    have u2 : u < 2147483647 := by rw [← hu]; exact Int.emod_lt_of_pos _ (by decide)
    have p2 : (u + 104729 * ((k + 1 : Nat) : Int)).natAbs < 18446744073709551616 := by omega
    have q1 : -18446744073709551616 < ((k + 1 : Nat) : Int) := by omega
    have q2 : ((k + 1 : Nat) : Int) < 18446744073709551616 := by omega
    refine ⟨(u + 104729 * ((k + 1 : Nat) : Int)) ^ 3 % 2147483587 / 16 % m, S.set n (.lst [.int a, .int b, .int ((k + 1 : Nat) : Int)]), ?_, Int.emod_nonneg _ (by omega), Int.emod_lt_of_pos _ hm, ⟨a, b, k + 1, stL_set hn, ha, hb, hb2, by omega⟩⟩
    simp (config := { decide := true }) only [bd_1, bd_2, bs_1, bs_2, sq_1, sq_2, sq_3, sq_4, sq_5, vr_1, ga_1, lcE_1, sSeq_e, sAsg_e, cAsg_1, sRet_e, cRt_1, sDrop_e, cDr_1, sIf_e, cIf_t, cIf_f, sSkip_e, sBrk_e, sCnt_e, sPar_e, cPar_1, cPar2_1, sFor_e, cFor_1, gVar_e, eVar_e, eC_e, eOp_e, cOp_1, eUn_e, aNil_e, aCons_e, cA_1, cA2_1, eCall_e, oCall_e, iCall_e, iVal_e, toB_1, bVal_e, bAnd_e, cAnd_1, bOr_e, cOr_1, bNot_e, cNot_1, eAnd_e, cEAnd_1, cEAnd2_1, eOr_e, cEOr_1, cEOr2_1, eNot_e, cENot_1, cENot2_1, eIf_e, cEIf_1, eChain_e, cCh_1, cCh1_1, cCh2_1, cCh3_1, eTup_e, cTup_1, oLst_e, cLst_1, eFz_e, cFz_1, ePtr_e, cPtr_1, oLc_e, cLc_1, eSh_e, itF_1, itF_2, itF_3, addF_1, addF_2, addF_3, intF_1, subF_1, modF_1, fdvF_1, powF_1, mulF_1, mulF_2, negF_1, ltF_1, leF_1, gtF_1, geF_1, atE_1, ixF_1, ixF_2, ixF_3, pxE_1, ixF_4, plE_1, lenF_4, eMt_e, cMt_1, eCut_e, cCut_1, cCut2_1, qNone_e, qSome_e, toI_1, cutF_1, cutF_2, cutF_3, cutF_4, eCallK_e, cK_1, cK2_1, eDic0_e, oCat_e, cCat_1, cCat2_1, cCat3_1, lsT_1, lsT_2, rcv_p, apE_1, appF_1, stL_app, set_app, stL_0, stL_k, stL_c, stL_s, set_0, set_k, shE_1, shF_1, lenF_1, lenF_2, lenF_3, absF_1, intOfF_1, intOfF_2, rng1F_1, rng2F_1, Ar_e, mkD_e, fin_1, fin_2, fin_3, few_e, tupOfF_1, tupOfF_2, tupOfF_3, lstOfF_1, lstOfF_2, lstOfF_3, isF_1, gStar_1, cIf_1, Option.isSome_some, List.length_map, List.length_append, List.append_assoc, Nat.add_assoc, slots, wpD, List.map_cons, List.map_nil, List.cons_append, List.nil_append, List.length_cons, List.length_nil, List.replicate, List.set_cons_succ, List.set_cons_zero, List.getElem?_cons_zero, List.getElem?_cons_succ, if_true, if_false, ite_true, ite_false, reduceIte, Nat.reduceAdd, Nat.reduceSub, Nat.reduceLeDiff, Nat.zero_add, Nat.sub_zero, Nat.sub_self, Bool.not_true, Bool.not_false, Bool.false_eq_true, decide_true, decide_false, Bool.true_and, Bool.and_true, Bool.or_true, Bool.true_or, Bool.false_and, Bool.and_false, Bool.or_false, Bool.false_or, decide_eq_true_eq, id_eq, Int.reduceLT, Int.reduceLE, Int.reduceNeg, Int.reduceAdd, Int.reduceSub, Int.reduceMul, Int.reduceMod, Int.reduceDiv, Int.reducePow, Int.reduceToNat, and_self, true_and, and_true, gStar_1, eqF_int, isiF_tup, isiF_lst, isiF_int, isiF_str, isiF_bl, at_0, gSet_e, seO_1, seI_1, lenF_5, addF_4, sxE_1, ixF_5, itF_4, max2F_e, min2F_e, eM1_c, cM1_1, oM1_c, cN1_1, intAnyF_b, intAnyF_s, strOfF_1, eqF_str, eqH_int, eqH_str, dvmF_1, gTwo_1, eIf_e, d__law_take, b__law_take, hs, a0, a1, a2, h, hm, hm2, seE_1, x0, x2, e1, stL_set hn, p1, p2, hu, q1, q2]
/-! the shapes -/
/-- a form: kind 0 a row, 1 a ring, 2 a grid -/
inductive Form : D → Prop
  | row (n : Nat) (h1 : 1 ≤ n) (h2 : n ≤ 12) : Form (.tup [.str "row", .int n])
  | ring (n : Nat) (h1 : 1 ≤ n) (h2 : n ≤ 12) : Form (.tup [.str "ring", .int n])
  | grid (w h : Nat) (h1 : 1 ≤ w) (h2 : 1 ≤ h) (h3 : w * h ≤ 12) : Form (.tup [.str "grid", .int w, .int h])
theorem shape_ok {n c : Nat} {S : ST} (B : Bag n c S) (hc : c < 900) : ∃ d S' c', d__law_shape [.ptr n] S = some (.ok d, S') ∧ Form d ∧ Bag n c' S' ∧ c' ≤ c + 4 := by
  obtain ⟨r1, S1, e1, l1, h1, B⟩ := take_ok (m := 4) B (by omega) (by decide) (by decide)
  obtain ⟨r2, S2, e2, l2, h2, B⟩ := take_ok (m := 12) B (by omega) (by decide) (by decide)
  by_cases hp : r1 < 2
  · obtain ⟨k, rfl⟩ := Int.eq_ofNat_of_zero_le l2
    rcases (show r1 = 0 ∨ r1 = 1 by omega) with rfl | rfl
    · refine ⟨_, S2, _, ?_, Form.row (1 + k) (by omega) (by omega), B, by omega⟩
      have a0 : atI [D.str "row", D.str "ring"] 0 = some (.str "row") := rfl
      simp (config := { decide := true }) only [bd_1, bd_2, bs_1, bs_2, sq_1, sq_2, sq_3, sq_4, sq_5, vr_1, ga_1, lcE_1, sSeq_e, sAsg_e, cAsg_1, sRet_e, cRt_1, sDrop_e, cDr_1, sIf_e, cIf_t, cIf_f, sSkip_e, sBrk_e, sCnt_e, sPar_e, cPar_1, cPar2_1, sFor_e, cFor_1, gVar_e, eVar_e, eC_e, eOp_e, cOp_1, eUn_e, aNil_e, aCons_e, cA_1, cA2_1, eCall_e, oCall_e, iCall_e, iVal_e, toB_1, bVal_e, bAnd_e, cAnd_1, bOr_e, cOr_1, bNot_e, cNot_1, eAnd_e, cEAnd_1, cEAnd2_1, eOr_e, cEOr_1, cEOr2_1, eNot_e, cENot_1, cENot2_1, eIf_e, cEIf_1, eChain_e, cCh_1, cCh1_1, cCh2_1, cCh3_1, eTup_e, cTup_1, oLst_e, cLst_1, eFz_e, cFz_1, ePtr_e, cPtr_1, oLc_e, cLc_1, eSh_e, itF_1, itF_2, itF_3, addF_1, addF_2, addF_3, intF_1, subF_1, modF_1, fdvF_1, powF_1, mulF_1, mulF_2, negF_1, ltF_1, leF_1, gtF_1, geF_1, atE_1, ixF_1, ixF_2, ixF_3, pxE_1, ixF_4, plE_1, lenF_4, eMt_e, cMt_1, eCut_e, cCut_1, cCut2_1, qNone_e, qSome_e, toI_1, cutF_1, cutF_2, cutF_3, cutF_4, eCallK_e, cK_1, cK2_1, eDic0_e, oCat_e, cCat_1, cCat2_1, cCat3_1, lsT_1, lsT_2, rcv_p, apE_1, appF_1, stL_app, set_app, stL_0, stL_k, stL_c, stL_s, set_0, set_k, shE_1, shF_1, lenF_1, lenF_2, lenF_3, absF_1, intOfF_1, intOfF_2, rng1F_1, rng2F_1, Ar_e, mkD_e, fin_1, fin_2, fin_3, few_e, tupOfF_1, tupOfF_2, tupOfF_3, lstOfF_1, lstOfF_2, lstOfF_3, isF_1, gStar_1, cIf_1, Option.isSome_some, List.length_map, List.length_append, List.append_assoc, Nat.add_assoc, slots, wpD, List.map_cons, List.map_nil, List.cons_append, List.nil_append, List.length_cons, List.length_nil, List.replicate, List.set_cons_succ, List.set_cons_zero, List.getElem?_cons_zero, List.getElem?_cons_succ, if_true, if_false, ite_true, ite_false, reduceIte, Nat.reduceAdd, Nat.reduceSub, Nat.reduceLeDiff, Nat.zero_add, Nat.sub_zero, Nat.sub_self, Bool.not_true, Bool.not_false, Bool.false_eq_true, decide_true, decide_false, Bool.true_and, Bool.and_true, Bool.or_true, Bool.true_or, Bool.false_and, Bool.and_false, Bool.or_false, Bool.false_or, decide_eq_true_eq, id_eq, Int.reduceLT, Int.reduceLE, Int.reduceNeg, Int.reduceAdd, Int.reduceSub, Int.reduceMul, Int.reduceMod, Int.reduceDiv, Int.reducePow, Int.reduceToNat, and_self, true_and, and_true, gStar_1, eqF_int, isiF_tup, isiF_lst, isiF_int, isiF_str, isiF_bl, at_0, gSet_e, seO_1, seI_1, lenF_5, addF_4, sxE_1, ixF_5, itF_4, max2F_e, min2F_e, eM1_c, cM1_1, oM1_c, cN1_1, intAnyF_b, intAnyF_s, strOfF_1, eqF_str, eqH_int, eqH_str, dvmF_1, gTwo_1, eIf_e, d__law_shape, b__law_shape, e1, e2, a0]
      simp
    · refine ⟨_, S2, _, ?_, Form.ring (1 + k) (by omega) (by omega), B, by omega⟩
      have a0 : atI [D.str "row", D.str "ring"] 1 = some (.str "ring") := rfl
      simp (config := { decide := true }) only [bd_1, bd_2, bs_1, bs_2, sq_1, sq_2, sq_3, sq_4, sq_5, vr_1, ga_1, lcE_1, sSeq_e, sAsg_e, cAsg_1, sRet_e, cRt_1, sDrop_e, cDr_1, sIf_e, cIf_t, cIf_f, sSkip_e, sBrk_e, sCnt_e, sPar_e, cPar_1, cPar2_1, sFor_e, cFor_1, gVar_e, eVar_e, eC_e, eOp_e, cOp_1, eUn_e, aNil_e, aCons_e, cA_1, cA2_1, eCall_e, oCall_e, iCall_e, iVal_e, toB_1, bVal_e, bAnd_e, cAnd_1, bOr_e, cOr_1, bNot_e, cNot_1, eAnd_e, cEAnd_1, cEAnd2_1, eOr_e, cEOr_1, cEOr2_1, eNot_e, cENot_1, cENot2_1, eIf_e, cEIf_1, eChain_e, cCh_1, cCh1_1, cCh2_1, cCh3_1, eTup_e, cTup_1, oLst_e, cLst_1, eFz_e, cFz_1, ePtr_e, cPtr_1, oLc_e, cLc_1, eSh_e, itF_1, itF_2, itF_3, addF_1, addF_2, addF_3, intF_1, subF_1, modF_1, fdvF_1, powF_1, mulF_1, mulF_2, negF_1, ltF_1, leF_1, gtF_1, geF_1, atE_1, ixF_1, ixF_2, ixF_3, pxE_1, ixF_4, plE_1, lenF_4, eMt_e, cMt_1, eCut_e, cCut_1, cCut2_1, qNone_e, qSome_e, toI_1, cutF_1, cutF_2, cutF_3, cutF_4, eCallK_e, cK_1, cK2_1, eDic0_e, oCat_e, cCat_1, cCat2_1, cCat3_1, lsT_1, lsT_2, rcv_p, apE_1, appF_1, stL_app, set_app, stL_0, stL_k, stL_c, stL_s, set_0, set_k, shE_1, shF_1, lenF_1, lenF_2, lenF_3, absF_1, intOfF_1, intOfF_2, rng1F_1, rng2F_1, Ar_e, mkD_e, fin_1, fin_2, fin_3, few_e, tupOfF_1, tupOfF_2, tupOfF_3, lstOfF_1, lstOfF_2, lstOfF_3, isF_1, gStar_1, cIf_1, Option.isSome_some, List.length_map, List.length_append, List.append_assoc, Nat.add_assoc, slots, wpD, List.map_cons, List.map_nil, List.cons_append, List.nil_append, List.length_cons, List.length_nil, List.replicate, List.set_cons_succ, List.set_cons_zero, List.getElem?_cons_zero, List.getElem?_cons_succ, if_true, if_false, ite_true, ite_false, reduceIte, Nat.reduceAdd, Nat.reduceSub, Nat.reduceLeDiff, Nat.zero_add, Nat.sub_zero, Nat.sub_self, Bool.not_true, Bool.not_false, Bool.false_eq_true, decide_true, decide_false, Bool.true_and, Bool.and_true, Bool.or_true, Bool.true_or, Bool.false_and, Bool.and_false, Bool.or_false, Bool.false_or, decide_eq_true_eq, id_eq, Int.reduceLT, Int.reduceLE, Int.reduceNeg, Int.reduceAdd, Int.reduceSub, Int.reduceMul, Int.reduceMod, Int.reduceDiv, Int.reducePow, Int.reduceToNat, and_self, true_and, and_true, gStar_1, eqF_int, isiF_tup, isiF_lst, isiF_int, isiF_str, isiF_bl, at_0, gSet_e, seO_1, seI_1, lenF_5, addF_4, sxE_1, ixF_5, itF_4, max2F_e, min2F_e, eM1_c, cM1_1, oM1_c, cN1_1, intAnyF_b, intAnyF_s, strOfF_1, eqF_str, eqH_int, eqH_str, dvmF_1, gTwo_1, eIf_e, d__law_shape, b__law_shape, e1, e2, a0]
      simp
  · obtain ⟨r3, S3, e3, l3, h3, B⟩ := take_ok (m := 7) B (by omega) (by decide) (by decide)
    obtain ⟨x, hx, ax⟩ := at_mem (xs := [D.int 1, .int 2, .int 3, .int 4, .int 6, .int 12, .int 5]) l3 (by simpa using h3)
    obtain ⟨w, rfl, w1, w2⟩ : ∃ w : Nat, x = .int w ∧ 1 ≤ w ∧ w ≤ 12 := by
      simp only [List.mem_cons, List.not_mem_nil, or_false] at hx
      rcases hx with rfl | rfl | rfl | rfl | rfl | rfl | rfl
      · exact ⟨1, rfl, by decide, by decide⟩
      · exact ⟨2, rfl, by decide, by decide⟩
      · exact ⟨3, rfl, by decide, by decide⟩
      · exact ⟨4, rfl, by decide, by decide⟩
      · exact ⟨6, rfl, by decide, by decide⟩
      · exact ⟨12, rfl, by decide, by decide⟩
      · exact ⟨5, rfl, by decide, by decide⟩
    have q1 : (0 : Int) < 12 / (w : Int) := by
      have : w = 1 ∨ w = 2 ∨ w = 3 ∨ w = 4 ∨ w = 5 ∨ w = 6 ∨ w = 7 ∨ w = 8 ∨ w = 9 ∨ w = 10 ∨ w = 11 ∨ w = 12 := by omega
      rcases this with rfl | rfl | rfl | rfl | rfl | rfl | rfl | rfl | rfl | rfl | rfl | rfl <;> decide
    obtain ⟨r4, S4, e4, l4, h4, B⟩ := take_ok (m := 12 / (w : Int)) B (by omega) q1 (by
      have : w = 1 ∨ w = 2 ∨ w = 3 ∨ w = 4 ∨ w = 5 ∨ w = 6 ∨ w = 7 ∨ w = 8 ∨ w = 9 ∨ w = 10 ∨ w = 11 ∨ w = 12 := by omega
      rcases this with rfl | rfl | rfl | rfl | rfl | rfl | rfl | rfl | rfl | rfl | rfl | rfl <;> decide)
    obtain ⟨k, rfl⟩ := Int.eq_ofNat_of_zero_le l4
    refine ⟨_, S4, _, ?_, Form.grid w (1 + k) w1 (by omega) ?_, B, by omega⟩
    · have g1 : (0 : Int) < w := by omega
      have g2 : (w : Int).natAbs.log2 < 9000 := by
        rw [Int.natAbs_natCast]
        exact Nat.lt_of_le_of_lt (Nat.log2_le_self w) (by omega)
      simp (config := { decide := true }) only [bd_1, bd_2, bs_1, bs_2, sq_1, sq_2, sq_3, sq_4, sq_5, vr_1, ga_1, lcE_1, sSeq_e, sAsg_e, cAsg_1, sRet_e, cRt_1, sDrop_e, cDr_1, sIf_e, cIf_t, cIf_f, sSkip_e, sBrk_e, sCnt_e, sPar_e, cPar_1, cPar2_1, sFor_e, cFor_1, gVar_e, eVar_e, eC_e, eOp_e, cOp_1, eUn_e, aNil_e, aCons_e, cA_1, cA2_1, eCall_e, oCall_e, iCall_e, iVal_e, toB_1, bVal_e, bAnd_e, cAnd_1, bOr_e, cOr_1, bNot_e, cNot_1, eAnd_e, cEAnd_1, cEAnd2_1, eOr_e, cEOr_1, cEOr2_1, eNot_e, cENot_1, cENot2_1, eIf_e, cEIf_1, eChain_e, cCh_1, cCh1_1, cCh2_1, cCh3_1, eTup_e, cTup_1, oLst_e, cLst_1, eFz_e, cFz_1, ePtr_e, cPtr_1, oLc_e, cLc_1, eSh_e, itF_1, itF_2, itF_3, addF_1, addF_2, addF_3, intF_1, subF_1, modF_1, fdvF_1, powF_1, mulF_1, mulF_2, negF_1, ltF_1, leF_1, gtF_1, geF_1, atE_1, ixF_1, ixF_2, ixF_3, pxE_1, ixF_4, plE_1, lenF_4, eMt_e, cMt_1, eCut_e, cCut_1, cCut2_1, qNone_e, qSome_e, toI_1, cutF_1, cutF_2, cutF_3, cutF_4, eCallK_e, cK_1, cK2_1, eDic0_e, oCat_e, cCat_1, cCat2_1, cCat3_1, lsT_1, lsT_2, rcv_p, apE_1, appF_1, stL_app, set_app, stL_0, stL_k, stL_c, stL_s, set_0, set_k, shE_1, shF_1, lenF_1, lenF_2, lenF_3, absF_1, intOfF_1, intOfF_2, rng1F_1, rng2F_1, Ar_e, mkD_e, fin_1, fin_2, fin_3, few_e, tupOfF_1, tupOfF_2, tupOfF_3, lstOfF_1, lstOfF_2, lstOfF_3, isF_1, gStar_1, cIf_1, Option.isSome_some, List.length_map, List.length_append, List.append_assoc, Nat.add_assoc, slots, wpD, List.map_cons, List.map_nil, List.cons_append, List.nil_append, List.length_cons, List.length_nil, List.replicate, List.set_cons_succ, List.set_cons_zero, List.getElem?_cons_zero, List.getElem?_cons_succ, if_true, if_false, ite_true, ite_false, reduceIte, Nat.reduceAdd, Nat.reduceSub, Nat.reduceLeDiff, Nat.zero_add, Nat.sub_zero, Nat.sub_self, Bool.not_true, Bool.not_false, Bool.false_eq_true, decide_true, decide_false, Bool.true_and, Bool.and_true, Bool.or_true, Bool.true_or, Bool.false_and, Bool.and_false, Bool.or_false, Bool.false_or, decide_eq_true_eq, id_eq, Int.reduceLT, Int.reduceLE, Int.reduceNeg, Int.reduceAdd, Int.reduceSub, Int.reduceMul, Int.reduceMod, Int.reduceDiv, Int.reducePow, Int.reduceToNat, and_self, true_and, and_true, gStar_1, eqF_int, isiF_tup, isiF_lst, isiF_int, isiF_str, isiF_bl, at_0, gSet_e, seO_1, seI_1, lenF_5, addF_4, sxE_1, ixF_5, itF_4, max2F_e, min2F_e, eM1_c, cM1_1, oM1_c, cN1_1, intAnyF_b, intAnyF_s, strOfF_1, eqF_str, eqH_int, eqH_str, dvmF_1, gTwo_1, eIf_e, d__law_shape, b__law_shape, e1, e2, hp, e3, ax, e4, g1, g2]
      simp
    · have : w = 1 ∨ w = 2 ∨ w = 3 ∨ w = 4 ∨ w = 5 ∨ w = 6 ∨ w = 7 ∨ w = 8 ∨ w = 9 ∨ w = 10 ∨ w = 11 ∨ w = 12 := by omega
      rcases this with rfl | rfl | rfl | rfl | rfl | rfl | rfl | rfl | rfl | rfl | rfl | rfl <;> omega
end W04

set_option Elab.async false
set_option linter.all false
set_option maxRecDepth 100000
set_option maxHeartbeats 4000000
namespace W04
open PySem L2 U
/-- whether a thing is a whole number from 1 to 12 -/
def wh : D → Bool
  | .int i => decide (1 ≤ i) && decide (i ≤ 12)
  | _ => false
/-- things that stand in shapes: their kind is told, and they are read -/
def Item (d : D) : Prop := (∃ i, d = .int i) ∨ ∃ (t : String) (p : PyData), (∀ T, tyD T d = some t) ∧ (t ≠ "int" ∧ (t ≠ "bool" → t ≠ "int")) ∧ (∀ T, pyF T 11 d = some p) ∧ SeqAt.shaped p = true ∧ p.depth ≤ 60 ∧ ∀ i, d ≠ .int i
theorem whole_int (x lo hi : Int) (S : ST) : d_is_whole [.int x, .int lo, .int hi] S = some (.ok (.bl (decide (lo ≤ x) && decide (x ≤ hi))), S) := by
  by_cases h : lo ≤ x
  · simp (config := { decide := true }) only [bd_1, bd_2, bs_1, bs_2, sq_1, sq_2, sq_3, sq_4, sq_5, vr_1, ga_1, lcE_1, sSeq_e, sAsg_e, cAsg_1, sRet_e, cRt_1, sDrop_e, cDr_1, sIf_e, cIf_t, cIf_f, sSkip_e, sBrk_e, sCnt_e, sPar_e, cPar_1, cPar2_1, sFor_e, cFor_1, gVar_e, eVar_e, eC_e, eOp_e, cOp_1, eUn_e, aNil_e, aCons_e, cA_1, cA2_1, eCall_e, oCall_e, iCall_e, iVal_e, toB_1, bVal_e, bAnd_e, cAnd_1, bOr_e, cOr_1, bNot_e, cNot_1, eAnd_e, cEAnd_1, cEAnd2_1, eOr_e, cEOr_1, cEOr2_1, eNot_e, cENot_1, cENot2_1, eIf_e, cEIf_1, eChain_e, cCh_1, cCh1_1, cCh2_1, cCh3_1, eTup_e, cTup_1, oLst_e, cLst_1, eFz_e, cFz_1, ePtr_e, cPtr_1, oLc_e, cLc_1, eSh_e, itF_1, itF_2, itF_3, addF_1, addF_2, addF_3, intF_1, subF_1, modF_1, fdvF_1, powF_1, mulF_1, mulF_2, negF_1, ltF_1, leF_1, gtF_1, geF_1, atE_1, ixF_1, ixF_2, ixF_3, pxE_1, ixF_4, plE_1, lenF_4, eMt_e, cMt_1, eCut_e, cCut_1, cCut2_1, qNone_e, qSome_e, toI_1, cutF_1, cutF_2, cutF_3, cutF_4, eCallK_e, cK_1, cK2_1, eDic0_e, oCat_e, cCat_1, cCat2_1, cCat3_1, lsT_1, lsT_2, rcv_p, apE_1, appF_1, stL_app, set_app, stL_0, stL_k, stL_c, stL_s, set_0, set_k, shE_1, shF_1, lenF_1, lenF_2, lenF_3, absF_1, intOfF_1, intOfF_2, rng1F_1, rng2F_1, Ar_e, mkD_e, fin_1, fin_2, fin_3, few_e, tupOfF_1, tupOfF_2, tupOfF_3, lstOfF_1, lstOfF_2, lstOfF_3, isF_1, gStar_1, cIf_1, Option.isSome_some, List.length_map, List.length_append, List.append_assoc, Nat.add_assoc, slots, wpD, List.map_cons, List.map_nil, List.cons_append, List.nil_append, List.length_cons, List.length_nil, List.replicate, List.set_cons_succ, List.set_cons_zero, List.getElem?_cons_zero, List.getElem?_cons_succ, if_true, if_false, ite_true, ite_false, reduceIte, Nat.reduceAdd, Nat.reduceSub, Nat.reduceLeDiff, Nat.zero_add, Nat.sub_zero, Nat.sub_self, Bool.not_true, Bool.not_false, Bool.false_eq_true, decide_true, decide_false, Bool.true_and, Bool.and_true, Bool.or_true, Bool.true_or, Bool.false_and, Bool.and_false, Bool.or_false, Bool.false_or, decide_eq_true_eq, id_eq, Int.reduceLT, Int.reduceLE, Int.reduceNeg, Int.reduceAdd, Int.reduceSub, Int.reduceMul, Int.reduceMod, Int.reduceDiv, Int.reducePow, Int.reduceToNat, and_self, true_and, and_true, gStar_1, eqF_int, isiF_tup, isiF_lst, isiF_int, isiF_str, isiF_bl, at_0, gSet_e, seO_1, seI_1, lenF_5, addF_4, sxE_1, ixF_5, itF_4, max2F_e, min2F_e, eM1_c, cM1_1, oM1_c, cN1_1, intAnyF_b, intAnyF_s, strOfF_1, eqF_str, eqH_int, eqH_str, dvmF_1, gTwo_1, eIf_e, d_is_whole, b_is_whole, isaB, h]
  · simp (config := { decide := true }) only [bd_1, bd_2, bs_1, bs_2, sq_1, sq_2, sq_3, sq_4, sq_5, vr_1, ga_1, lcE_1, sSeq_e, sAsg_e, cAsg_1, sRet_e, cRt_1, sDrop_e, cDr_1, sIf_e, cIf_t, cIf_f, sSkip_e, sBrk_e, sCnt_e, sPar_e, cPar_1, cPar2_1, sFor_e, cFor_1, gVar_e, eVar_e, eC_e, eOp_e, cOp_1, eUn_e, aNil_e, aCons_e, cA_1, cA2_1, eCall_e, oCall_e, iCall_e, iVal_e, toB_1, bVal_e, bAnd_e, cAnd_1, bOr_e, cOr_1, bNot_e, cNot_1, eAnd_e, cEAnd_1, cEAnd2_1, eOr_e, cEOr_1, cEOr2_1, eNot_e, cENot_1, cENot2_1, eIf_e, cEIf_1, eChain_e, cCh_1, cCh1_1, cCh2_1, cCh3_1, eTup_e, cTup_1, oLst_e, cLst_1, eFz_e, cFz_1, ePtr_e, cPtr_1, oLc_e, cLc_1, eSh_e, itF_1, itF_2, itF_3, addF_1, addF_2, addF_3, intF_1, subF_1, modF_1, fdvF_1, powF_1, mulF_1, mulF_2, negF_1, ltF_1, leF_1, gtF_1, geF_1, atE_1, ixF_1, ixF_2, ixF_3, pxE_1, ixF_4, plE_1, lenF_4, eMt_e, cMt_1, eCut_e, cCut_1, cCut2_1, qNone_e, qSome_e, toI_1, cutF_1, cutF_2, cutF_3, cutF_4, eCallK_e, cK_1, cK2_1, eDic0_e, oCat_e, cCat_1, cCat2_1, cCat3_1, lsT_1, lsT_2, rcv_p, apE_1, appF_1, stL_app, set_app, stL_0, stL_k, stL_c, stL_s, set_0, set_k, shE_1, shF_1, lenF_1, lenF_2, lenF_3, absF_1, intOfF_1, intOfF_2, rng1F_1, rng2F_1, Ar_e, mkD_e, fin_1, fin_2, fin_3, few_e, tupOfF_1, tupOfF_2, tupOfF_3, lstOfF_1, lstOfF_2, lstOfF_3, isF_1, gStar_1, cIf_1, Option.isSome_some, List.length_map, List.length_append, List.append_assoc, Nat.add_assoc, slots, wpD, List.map_cons, List.map_nil, List.cons_append, List.nil_append, List.length_cons, List.length_nil, List.replicate, List.set_cons_succ, List.set_cons_zero, List.getElem?_cons_zero, List.getElem?_cons_succ, if_true, if_false, ite_true, ite_false, reduceIte, Nat.reduceAdd, Nat.reduceSub, Nat.reduceLeDiff, Nat.zero_add, Nat.sub_zero, Nat.sub_self, Bool.not_true, Bool.not_false, Bool.false_eq_true, decide_true, decide_false, Bool.true_and, Bool.and_true, Bool.or_true, Bool.true_or, Bool.false_and, Bool.and_false, Bool.or_false, Bool.false_or, decide_eq_true_eq, id_eq, Int.reduceLT, Int.reduceLE, Int.reduceNeg, Int.reduceAdd, Int.reduceSub, Int.reduceMul, Int.reduceMod, Int.reduceDiv, Int.reducePow, Int.reduceToNat, and_self, true_and, and_true, gStar_1, eqF_int, isiF_tup, isiF_lst, isiF_int, isiF_str, isiF_bl, at_0, gSet_e, seO_1, seI_1, lenF_5, addF_4, sxE_1, ixF_5, itF_4, max2F_e, min2F_e, eM1_c, cM1_1, oM1_c, cN1_1, intAnyF_b, intAnyF_s, strOfF_1, eqF_str, eqH_int, eqH_str, dvmF_1, gTwo_1, eIf_e, d_is_whole, b_is_whole, isaB, h]
theorem whole_item {d : D} (h : Item d) (S : ST) : d_is_whole [d, .int 1, .int 12] S = some (.ok (.bl (wh d)), S) := by
  rcases h with ⟨i, rfl⟩ | ⟨t, p, ht, hn, _, _, _, hi⟩
  · exact whole_int i 1 12 S
  · have e : wh d = false := by
      unfold wh
      split
      · exact absurd rfl (hi _)
      · rfl
    rw [e]
    by_cases hb : t = "bool"
    · subst hb
      simp (config := { decide := true }) only [bd_1, bd_2, bs_1, bs_2, sq_1, sq_2, sq_3, sq_4, sq_5, vr_1, ga_1, lcE_1, sSeq_e, sAsg_e, cAsg_1, sRet_e, cRt_1, sDrop_e, cDr_1, sIf_e, cIf_t, cIf_f, sSkip_e, sBrk_e, sCnt_e, sPar_e, cPar_1, cPar2_1, sFor_e, cFor_1, gVar_e, eVar_e, eC_e, eOp_e, cOp_1, eUn_e, aNil_e, aCons_e, cA_1, cA2_1, eCall_e, oCall_e, iCall_e, iVal_e, toB_1, bVal_e, bAnd_e, cAnd_1, bOr_e, cOr_1, bNot_e, cNot_1, eAnd_e, cEAnd_1, cEAnd2_1, eOr_e, cEOr_1, cEOr2_1, eNot_e, cENot_1, cENot2_1, eIf_e, cEIf_1, eChain_e, cCh_1, cCh1_1, cCh2_1, cCh3_1, eTup_e, cTup_1, oLst_e, cLst_1, eFz_e, cFz_1, ePtr_e, cPtr_1, oLc_e, cLc_1, eSh_e, itF_1, itF_2, itF_3, addF_1, addF_2, addF_3, intF_1, subF_1, modF_1, fdvF_1, powF_1, mulF_1, mulF_2, negF_1, ltF_1, leF_1, gtF_1, geF_1, atE_1, ixF_1, ixF_2, ixF_3, pxE_1, ixF_4, plE_1, lenF_4, eMt_e, cMt_1, eCut_e, cCut_1, cCut2_1, qNone_e, qSome_e, toI_1, cutF_1, cutF_2, cutF_3, cutF_4, eCallK_e, cK_1, cK2_1, eDic0_e, oCat_e, cCat_1, cCat2_1, cCat3_1, lsT_1, lsT_2, rcv_p, apE_1, appF_1, stL_app, set_app, stL_0, stL_k, stL_c, stL_s, set_0, set_k, shE_1, shF_1, lenF_1, lenF_2, lenF_3, absF_1, intOfF_1, intOfF_2, rng1F_1, rng2F_1, Ar_e, mkD_e, fin_1, fin_2, fin_3, few_e, tupOfF_1, tupOfF_2, tupOfF_3, lstOfF_1, lstOfF_2, lstOfF_3, isF_1, gStar_1, cIf_1, Option.isSome_some, List.length_map, List.length_append, List.append_assoc, Nat.add_assoc, slots, wpD, List.map_cons, List.map_nil, List.cons_append, List.nil_append, List.length_cons, List.length_nil, List.replicate, List.set_cons_succ, List.set_cons_zero, List.getElem?_cons_zero, List.getElem?_cons_succ, if_true, if_false, ite_true, ite_false, reduceIte, Nat.reduceAdd, Nat.reduceSub, Nat.reduceLeDiff, Nat.zero_add, Nat.sub_zero, Nat.sub_self, Bool.not_true, Bool.not_false, Bool.false_eq_true, decide_true, decide_false, Bool.true_and, Bool.and_true, Bool.or_true, Bool.true_or, Bool.false_and, Bool.and_false, Bool.or_false, Bool.false_or, decide_eq_true_eq, id_eq, Int.reduceLT, Int.reduceLE, Int.reduceNeg, Int.reduceAdd, Int.reduceSub, Int.reduceMul, Int.reduceMod, Int.reduceDiv, Int.reducePow, Int.reduceToNat, and_self, true_and, and_true, gStar_1, eqF_int, isiF_tup, isiF_lst, isiF_int, isiF_str, isiF_bl, at_0, gSet_e, seO_1, seI_1, lenF_5, addF_4, sxE_1, ixF_5, itF_4, max2F_e, min2F_e, eM1_c, cM1_1, oM1_c, cN1_1, intAnyF_b, intAnyF_s, strOfF_1, eqF_str, eqH_int, eqH_str, dvmF_1, gTwo_1, eIf_e, d_is_whole, b_is_whole, isiF_1 (ht S), isaB]
    · have q : isaB t "int" = false := by
        unfold isaB
        simp [hn.1, hb]
      simp (config := { decide := true }) only [bd_1, bd_2, bs_1, bs_2, sq_1, sq_2, sq_3, sq_4, sq_5, vr_1, ga_1, lcE_1, sSeq_e, sAsg_e, cAsg_1, sRet_e, cRt_1, sDrop_e, cDr_1, sIf_e, cIf_t, cIf_f, sSkip_e, sBrk_e, sCnt_e, sPar_e, cPar_1, cPar2_1, sFor_e, cFor_1, gVar_e, eVar_e, eC_e, eOp_e, cOp_1, eUn_e, aNil_e, aCons_e, cA_1, cA2_1, eCall_e, oCall_e, iCall_e, iVal_e, toB_1, bVal_e, bAnd_e, cAnd_1, bOr_e, cOr_1, bNot_e, cNot_1, eAnd_e, cEAnd_1, cEAnd2_1, eOr_e, cEOr_1, cEOr2_1, eNot_e, cENot_1, cENot2_1, eIf_e, cEIf_1, eChain_e, cCh_1, cCh1_1, cCh2_1, cCh3_1, eTup_e, cTup_1, oLst_e, cLst_1, eFz_e, cFz_1, ePtr_e, cPtr_1, oLc_e, cLc_1, eSh_e, itF_1, itF_2, itF_3, addF_1, addF_2, addF_3, intF_1, subF_1, modF_1, fdvF_1, powF_1, mulF_1, mulF_2, negF_1, ltF_1, leF_1, gtF_1, geF_1, atE_1, ixF_1, ixF_2, ixF_3, pxE_1, ixF_4, plE_1, lenF_4, eMt_e, cMt_1, eCut_e, cCut_1, cCut2_1, qNone_e, qSome_e, toI_1, cutF_1, cutF_2, cutF_3, cutF_4, eCallK_e, cK_1, cK2_1, eDic0_e, oCat_e, cCat_1, cCat2_1, cCat3_1, lsT_1, lsT_2, rcv_p, apE_1, appF_1, stL_app, set_app, stL_0, stL_k, stL_c, stL_s, set_0, set_k, shE_1, shF_1, lenF_1, lenF_2, lenF_3, absF_1, intOfF_1, intOfF_2, rng1F_1, rng2F_1, Ar_e, mkD_e, fin_1, fin_2, fin_3, few_e, tupOfF_1, tupOfF_2, tupOfF_3, lstOfF_1, lstOfF_2, lstOfF_3, isF_1, gStar_1, cIf_1, Option.isSome_some, List.length_map, List.length_append, List.append_assoc, Nat.add_assoc, slots, wpD, List.map_cons, List.map_nil, List.cons_append, List.nil_append, List.length_cons, List.length_nil, List.replicate, List.set_cons_succ, List.set_cons_zero, List.getElem?_cons_zero, List.getElem?_cons_succ, if_true, if_false, ite_true, ite_false, reduceIte, Nat.reduceAdd, Nat.reduceSub, Nat.reduceLeDiff, Nat.zero_add, Nat.sub_zero, Nat.sub_self, Bool.not_true, Bool.not_false, Bool.false_eq_true, decide_true, decide_false, Bool.true_and, Bool.and_true, Bool.or_true, Bool.true_or, Bool.false_and, Bool.and_false, Bool.or_false, Bool.false_or, decide_eq_true_eq, id_eq, Int.reduceLT, Int.reduceLE, Int.reduceNeg, Int.reduceAdd, Int.reduceSub, Int.reduceMul, Int.reduceMod, Int.reduceDiv, Int.reducePow, Int.reduceToNat, and_self, true_and, and_true, gStar_1, eqF_int, isiF_tup, isiF_lst, isiF_int, isiF_str, isiF_bl, at_0, gSet_e, seO_1, seI_1, lenF_5, addF_4, sxE_1, ixF_5, itF_4, max2F_e, min2F_e, eM1_c, cM1_1, oM1_c, cN1_1, intAnyF_b, intAnyF_s, strOfF_1, eqF_str, eqH_int, eqH_str, dvmF_1, gTwo_1, eIf_e, d_is_whole, b_is_whole, isiF_1 (ht S), q]
def isI : D → Bool
  | .int _ => true
  | _ => false
theorem isI_no {d : D} (h : ∀ i, d ≠ .int i) : isI d = false := by
  unfold isI
  split
  · exact absurd rfl (h _)
  · rfl
theorem lwhole {d : D} (h : Item d) (S : ST) : d__law_whole [d] S = some (.ok (.bl (isI d)), S) := by
  rcases h with ⟨i, rfl⟩ | ⟨t, p, ht, hn, _, _, _, hi⟩
  · have q : (!(isaB "int" "bool")) = true := by decide
    have q2 : isaB "int" "int" = true := by decide
    simp (config := { decide := true }) only [bd_1, bd_2, bs_1, bs_2, sq_1, sq_2, sq_3, sq_4, sq_5, vr_1, ga_1, lcE_1, sSeq_e, sAsg_e, cAsg_1, sRet_e, cRt_1, sDrop_e, cDr_1, sIf_e, cIf_t, cIf_f, sSkip_e, sBrk_e, sCnt_e, sPar_e, cPar_1, cPar2_1, sFor_e, cFor_1, gVar_e, eVar_e, eC_e, eOp_e, cOp_1, eUn_e, aNil_e, aCons_e, cA_1, cA2_1, eCall_e, oCall_e, iCall_e, iVal_e, toB_1, bVal_e, bAnd_e, cAnd_1, bOr_e, cOr_1, bNot_e, cNot_1, eAnd_e, cEAnd_1, cEAnd2_1, eOr_e, cEOr_1, cEOr2_1, eNot_e, cENot_1, cENot2_1, eIf_e, cEIf_1, eChain_e, cCh_1, cCh1_1, cCh2_1, cCh3_1, eTup_e, cTup_1, oLst_e, cLst_1, eFz_e, cFz_1, ePtr_e, cPtr_1, oLc_e, cLc_1, eSh_e, itF_1, itF_2, itF_3, addF_1, addF_2, addF_3, intF_1, subF_1, modF_1, fdvF_1, powF_1, mulF_1, mulF_2, negF_1, ltF_1, leF_1, gtF_1, geF_1, atE_1, ixF_1, ixF_2, ixF_3, pxE_1, ixF_4, plE_1, lenF_4, eMt_e, cMt_1, eCut_e, cCut_1, cCut2_1, qNone_e, qSome_e, toI_1, cutF_1, cutF_2, cutF_3, cutF_4, eCallK_e, cK_1, cK2_1, eDic0_e, oCat_e, cCat_1, cCat2_1, cCat3_1, lsT_1, lsT_2, rcv_p, apE_1, appF_1, stL_app, set_app, stL_0, stL_k, stL_c, stL_s, set_0, set_k, shE_1, shF_1, lenF_1, lenF_2, lenF_3, absF_1, intOfF_1, intOfF_2, rng1F_1, rng2F_1, Ar_e, mkD_e, fin_1, fin_2, fin_3, few_e, tupOfF_1, tupOfF_2, tupOfF_3, lstOfF_1, lstOfF_2, lstOfF_3, isF_1, gStar_1, cIf_1, Option.isSome_some, List.length_map, List.length_append, List.append_assoc, Nat.add_assoc, slots, wpD, List.map_cons, List.map_nil, List.cons_append, List.nil_append, List.length_cons, List.length_nil, List.replicate, List.set_cons_succ, List.set_cons_zero, List.getElem?_cons_zero, List.getElem?_cons_succ, if_true, if_false, ite_true, ite_false, reduceIte, Nat.reduceAdd, Nat.reduceSub, Nat.reduceLeDiff, Nat.zero_add, Nat.sub_zero, Nat.sub_self, Bool.not_true, Bool.not_false, Bool.false_eq_true, decide_true, decide_false, Bool.true_and, Bool.and_true, Bool.or_true, Bool.true_or, Bool.false_and, Bool.and_false, Bool.or_false, Bool.false_or, decide_eq_true_eq, id_eq, Int.reduceLT, Int.reduceLE, Int.reduceNeg, Int.reduceAdd, Int.reduceSub, Int.reduceMul, Int.reduceMod, Int.reduceDiv, Int.reducePow, Int.reduceToNat, and_self, true_and, and_true, gStar_1, eqF_int, isiF_tup, isiF_lst, isiF_int, isiF_str, isiF_bl, at_0, gSet_e, seO_1, seI_1, lenF_5, addF_4, sxE_1, ixF_5, itF_4, max2F_e, min2F_e, eM1_c, cM1_1, oM1_c, cN1_1, intAnyF_b, intAnyF_s, strOfF_1, eqF_str, eqH_int, eqH_str, dvmF_1, gTwo_1, eIf_e, d__law_whole, b__law_whole, q, q2]
    rfl
  · rw [isI_no hi]
    by_cases hb : t = "bool"
    · subst hb
      simp (config := { decide := true }) only [bd_1, bd_2, bs_1, bs_2, sq_1, sq_2, sq_3, sq_4, sq_5, vr_1, ga_1, lcE_1, sSeq_e, sAsg_e, cAsg_1, sRet_e, cRt_1, sDrop_e, cDr_1, sIf_e, cIf_t, cIf_f, sSkip_e, sBrk_e, sCnt_e, sPar_e, cPar_1, cPar2_1, sFor_e, cFor_1, gVar_e, eVar_e, eC_e, eOp_e, cOp_1, eUn_e, aNil_e, aCons_e, cA_1, cA2_1, eCall_e, oCall_e, iCall_e, iVal_e, toB_1, bVal_e, bAnd_e, cAnd_1, bOr_e, cOr_1, bNot_e, cNot_1, eAnd_e, cEAnd_1, cEAnd2_1, eOr_e, cEOr_1, cEOr2_1, eNot_e, cENot_1, cENot2_1, eIf_e, cEIf_1, eChain_e, cCh_1, cCh1_1, cCh2_1, cCh3_1, eTup_e, cTup_1, oLst_e, cLst_1, eFz_e, cFz_1, ePtr_e, cPtr_1, oLc_e, cLc_1, eSh_e, itF_1, itF_2, itF_3, addF_1, addF_2, addF_3, intF_1, subF_1, modF_1, fdvF_1, powF_1, mulF_1, mulF_2, negF_1, ltF_1, leF_1, gtF_1, geF_1, atE_1, ixF_1, ixF_2, ixF_3, pxE_1, ixF_4, plE_1, lenF_4, eMt_e, cMt_1, eCut_e, cCut_1, cCut2_1, qNone_e, qSome_e, toI_1, cutF_1, cutF_2, cutF_3, cutF_4, eCallK_e, cK_1, cK2_1, eDic0_e, oCat_e, cCat_1, cCat2_1, cCat3_1, lsT_1, lsT_2, rcv_p, apE_1, appF_1, stL_app, set_app, stL_0, stL_k, stL_c, stL_s, set_0, set_k, shE_1, shF_1, lenF_1, lenF_2, lenF_3, absF_1, intOfF_1, intOfF_2, rng1F_1, rng2F_1, Ar_e, mkD_e, fin_1, fin_2, fin_3, few_e, tupOfF_1, tupOfF_2, tupOfF_3, lstOfF_1, lstOfF_2, lstOfF_3, isF_1, gStar_1, cIf_1, Option.isSome_some, List.length_map, List.length_append, List.append_assoc, Nat.add_assoc, slots, wpD, List.map_cons, List.map_nil, List.cons_append, List.nil_append, List.length_cons, List.length_nil, List.replicate, List.set_cons_succ, List.set_cons_zero, List.getElem?_cons_zero, List.getElem?_cons_succ, if_true, if_false, ite_true, ite_false, reduceIte, Nat.reduceAdd, Nat.reduceSub, Nat.reduceLeDiff, Nat.zero_add, Nat.sub_zero, Nat.sub_self, Bool.not_true, Bool.not_false, Bool.false_eq_true, decide_true, decide_false, Bool.true_and, Bool.and_true, Bool.or_true, Bool.true_or, Bool.false_and, Bool.and_false, Bool.or_false, Bool.false_or, decide_eq_true_eq, id_eq, Int.reduceLT, Int.reduceLE, Int.reduceNeg, Int.reduceAdd, Int.reduceSub, Int.reduceMul, Int.reduceMod, Int.reduceDiv, Int.reducePow, Int.reduceToNat, and_self, true_and, and_true, gStar_1, eqF_int, isiF_tup, isiF_lst, isiF_int, isiF_str, isiF_bl, at_0, gSet_e, seO_1, seI_1, lenF_5, addF_4, sxE_1, ixF_5, itF_4, max2F_e, min2F_e, eM1_c, cM1_1, oM1_c, cN1_1, intAnyF_b, intAnyF_s, strOfF_1, eqF_str, eqH_int, eqH_str, dvmF_1, gTwo_1, eIf_e, d__law_whole, b__law_whole, isiF_1 (ht S), isaB]
      rfl
    · have q : isaB t "int" = false := by
        unfold isaB
        simp [hn.1, hb]
      simp (config := { decide := true }) only [bd_1, bd_2, bs_1, bs_2, sq_1, sq_2, sq_3, sq_4, sq_5, vr_1, ga_1, lcE_1, sSeq_e, sAsg_e, cAsg_1, sRet_e, cRt_1, sDrop_e, cDr_1, sIf_e, cIf_t, cIf_f, sSkip_e, sBrk_e, sCnt_e, sPar_e, cPar_1, cPar2_1, sFor_e, cFor_1, gVar_e, eVar_e, eC_e, eOp_e, cOp_1, eUn_e, aNil_e, aCons_e, cA_1, cA2_1, eCall_e, oCall_e, iCall_e, iVal_e, toB_1, bVal_e, bAnd_e, cAnd_1, bOr_e, cOr_1, bNot_e, cNot_1, eAnd_e, cEAnd_1, cEAnd2_1, eOr_e, cEOr_1, cEOr2_1, eNot_e, cENot_1, cENot2_1, eIf_e, cEIf_1, eChain_e, cCh_1, cCh1_1, cCh2_1, cCh3_1, eTup_e, cTup_1, oLst_e, cLst_1, eFz_e, cFz_1, ePtr_e, cPtr_1, oLc_e, cLc_1, eSh_e, itF_1, itF_2, itF_3, addF_1, addF_2, addF_3, intF_1, subF_1, modF_1, fdvF_1, powF_1, mulF_1, mulF_2, negF_1, ltF_1, leF_1, gtF_1, geF_1, atE_1, ixF_1, ixF_2, ixF_3, pxE_1, ixF_4, plE_1, lenF_4, eMt_e, cMt_1, eCut_e, cCut_1, cCut2_1, qNone_e, qSome_e, toI_1, cutF_1, cutF_2, cutF_3, cutF_4, eCallK_e, cK_1, cK2_1, eDic0_e, oCat_e, cCat_1, cCat2_1, cCat3_1, lsT_1, lsT_2, rcv_p, apE_1, appF_1, stL_app, set_app, stL_0, stL_k, stL_c, stL_s, set_0, set_k, shE_1, shF_1, lenF_1, lenF_2, lenF_3, absF_1, intOfF_1, intOfF_2, rng1F_1, rng2F_1, Ar_e, mkD_e, fin_1, fin_2, fin_3, few_e, tupOfF_1, tupOfF_2, tupOfF_3, lstOfF_1, lstOfF_2, lstOfF_3, isF_1, gStar_1, cIf_1, Option.isSome_some, List.length_map, List.length_append, List.append_assoc, Nat.add_assoc, slots, wpD, List.map_cons, List.map_nil, List.cons_append, List.nil_append, List.length_cons, List.length_nil, List.replicate, List.set_cons_succ, List.set_cons_zero, List.getElem?_cons_zero, List.getElem?_cons_succ, if_true, if_false, ite_true, ite_false, reduceIte, Nat.reduceAdd, Nat.reduceSub, Nat.reduceLeDiff, Nat.zero_add, Nat.sub_zero, Nat.sub_self, Bool.not_true, Bool.not_false, Bool.false_eq_true, decide_true, decide_false, Bool.true_and, Bool.and_true, Bool.or_true, Bool.true_or, Bool.false_and, Bool.and_false, Bool.or_false, Bool.false_or, decide_eq_true_eq, id_eq, Int.reduceLT, Int.reduceLE, Int.reduceNeg, Int.reduceAdd, Int.reduceSub, Int.reduceMul, Int.reduceMod, Int.reduceDiv, Int.reducePow, Int.reduceToNat, and_self, true_and, and_true, gStar_1, eqF_int, isiF_tup, isiF_lst, isiF_int, isiF_str, isiF_bl, at_0, gSet_e, seO_1, seI_1, lenF_5, addF_4, sxE_1, ixF_5, itF_4, max2F_e, min2F_e, eM1_c, cM1_1, oM1_c, cN1_1, intAnyF_b, intAnyF_s, strOfF_1, eqF_str, eqH_int, eqH_str, dvmF_1, gTwo_1, eIf_e, d__law_whole, b__law_whole, isiF_1 (ht S), q]
theorem ct_item {x : Option D} {d : D} (h : Item d) (S : ST) : ct__law_is_shape_1 [x, some d] S = some (.ok (!wh d), S) := by
  have hl := lwhole h S
  rcases h with ⟨i, rfl⟩ | ⟨t, p, ht, hn, _, _, _, hi⟩
  · have hl : d__law_whole [.int i] S = some (.ok (.bl true), S) := hl
    by_cases h1 : 1 ≤ i
    · by_cases h2 : i ≤ 12
      · have e : wh (.int i) = true := by simp [wh, h1, h2]
        rw [e]
        simp (config := { decide := true }) only [bd_1, bd_2, bs_1, bs_2, sq_1, sq_2, sq_3, sq_4, sq_5, vr_1, ga_1, lcE_1, sSeq_e, sAsg_e, cAsg_1, sRet_e, cRt_1, sDrop_e, cDr_1, sIf_e, cIf_t, cIf_f, sSkip_e, sBrk_e, sCnt_e, sPar_e, cPar_1, cPar2_1, sFor_e, cFor_1, gVar_e, eVar_e, eC_e, eOp_e, cOp_1, eUn_e, aNil_e, aCons_e, cA_1, cA2_1, eCall_e, oCall_e, iCall_e, iVal_e, toB_1, bVal_e, bAnd_e, cAnd_1, bOr_e, cOr_1, bNot_e, cNot_1, eAnd_e, cEAnd_1, cEAnd2_1, eOr_e, cEOr_1, cEOr2_1, eNot_e, cENot_1, cENot2_1, eIf_e, cEIf_1, eChain_e, cCh_1, cCh1_1, cCh2_1, cCh3_1, eTup_e, cTup_1, oLst_e, cLst_1, eFz_e, cFz_1, ePtr_e, cPtr_1, oLc_e, cLc_1, eSh_e, itF_1, itF_2, itF_3, addF_1, addF_2, addF_3, intF_1, subF_1, modF_1, fdvF_1, powF_1, mulF_1, mulF_2, negF_1, ltF_1, leF_1, gtF_1, geF_1, atE_1, ixF_1, ixF_2, ixF_3, pxE_1, ixF_4, plE_1, lenF_4, eMt_e, cMt_1, eCut_e, cCut_1, cCut2_1, qNone_e, qSome_e, toI_1, cutF_1, cutF_2, cutF_3, cutF_4, eCallK_e, cK_1, cK2_1, eDic0_e, oCat_e, cCat_1, cCat2_1, cCat3_1, lsT_1, lsT_2, rcv_p, apE_1, appF_1, stL_app, set_app, stL_0, stL_k, stL_c, stL_s, set_0, set_k, shE_1, shF_1, lenF_1, lenF_2, lenF_3, absF_1, intOfF_1, intOfF_2, rng1F_1, rng2F_1, Ar_e, mkD_e, fin_1, fin_2, fin_3, few_e, tupOfF_1, tupOfF_2, tupOfF_3, lstOfF_1, lstOfF_2, lstOfF_3, isF_1, gStar_1, cIf_1, Option.isSome_some, List.length_map, List.length_append, List.append_assoc, Nat.add_assoc, slots, wpD, List.map_cons, List.map_nil, List.cons_append, List.nil_append, List.length_cons, List.length_nil, List.replicate, List.set_cons_succ, List.set_cons_zero, List.getElem?_cons_zero, List.getElem?_cons_succ, if_true, if_false, ite_true, ite_false, reduceIte, Nat.reduceAdd, Nat.reduceSub, Nat.reduceLeDiff, Nat.zero_add, Nat.sub_zero, Nat.sub_self, Bool.not_true, Bool.not_false, Bool.false_eq_true, decide_true, decide_false, Bool.true_and, Bool.and_true, Bool.or_true, Bool.true_or, Bool.false_and, Bool.and_false, Bool.or_false, Bool.false_or, decide_eq_true_eq, id_eq, Int.reduceLT, Int.reduceLE, Int.reduceNeg, Int.reduceAdd, Int.reduceSub, Int.reduceMul, Int.reduceMod, Int.reduceDiv, Int.reducePow, Int.reduceToNat, and_self, true_and, and_true, gStar_1, eqF_int, isiF_tup, isiF_lst, isiF_int, isiF_str, isiF_bl, at_0, gSet_e, seO_1, seI_1, lenF_5, addF_4, sxE_1, ixF_5, itF_4, max2F_e, min2F_e, eM1_c, cM1_1, oM1_c, cN1_1, intAnyF_b, intAnyF_s, strOfF_1, eqF_str, eqH_int, eqH_str, dvmF_1, gTwo_1, eIf_e, ct__law_is_shape_1, hl, h1, h2]
      · have e : wh (.int i) = false := by simp [wh, h1, h2]
        rw [e]
        simp (config := { decide := true }) only [bd_1, bd_2, bs_1, bs_2, sq_1, sq_2, sq_3, sq_4, sq_5, vr_1, ga_1, lcE_1, sSeq_e, sAsg_e, cAsg_1, sRet_e, cRt_1, sDrop_e, cDr_1, sIf_e, cIf_t, cIf_f, sSkip_e, sBrk_e, sCnt_e, sPar_e, cPar_1, cPar2_1, sFor_e, cFor_1, gVar_e, eVar_e, eC_e, eOp_e, cOp_1, eUn_e, aNil_e, aCons_e, cA_1, cA2_1, eCall_e, oCall_e, iCall_e, iVal_e, toB_1, bVal_e, bAnd_e, cAnd_1, bOr_e, cOr_1, bNot_e, cNot_1, eAnd_e, cEAnd_1, cEAnd2_1, eOr_e, cEOr_1, cEOr2_1, eNot_e, cENot_1, cENot2_1, eIf_e, cEIf_1, eChain_e, cCh_1, cCh1_1, cCh2_1, cCh3_1, eTup_e, cTup_1, oLst_e, cLst_1, eFz_e, cFz_1, ePtr_e, cPtr_1, oLc_e, cLc_1, eSh_e, itF_1, itF_2, itF_3, addF_1, addF_2, addF_3, intF_1, subF_1, modF_1, fdvF_1, powF_1, mulF_1, mulF_2, negF_1, ltF_1, leF_1, gtF_1, geF_1, atE_1, ixF_1, ixF_2, ixF_3, pxE_1, ixF_4, plE_1, lenF_4, eMt_e, cMt_1, eCut_e, cCut_1, cCut2_1, qNone_e, qSome_e, toI_1, cutF_1, cutF_2, cutF_3, cutF_4, eCallK_e, cK_1, cK2_1, eDic0_e, oCat_e, cCat_1, cCat2_1, cCat3_1, lsT_1, lsT_2, rcv_p, apE_1, appF_1, stL_app, set_app, stL_0, stL_k, stL_c, stL_s, set_0, set_k, shE_1, shF_1, lenF_1, lenF_2, lenF_3, absF_1, intOfF_1, intOfF_2, rng1F_1, rng2F_1, Ar_e, mkD_e, fin_1, fin_2, fin_3, few_e, tupOfF_1, tupOfF_2, tupOfF_3, lstOfF_1, lstOfF_2, lstOfF_3, isF_1, gStar_1, cIf_1, Option.isSome_some, List.length_map, List.length_append, List.append_assoc, Nat.add_assoc, slots, wpD, List.map_cons, List.map_nil, List.cons_append, List.nil_append, List.length_cons, List.length_nil, List.replicate, List.set_cons_succ, List.set_cons_zero, List.getElem?_cons_zero, List.getElem?_cons_succ, if_true, if_false, ite_true, ite_false, reduceIte, Nat.reduceAdd, Nat.reduceSub, Nat.reduceLeDiff, Nat.zero_add, Nat.sub_zero, Nat.sub_self, Bool.not_true, Bool.not_false, Bool.false_eq_true, decide_true, decide_false, Bool.true_and, Bool.and_true, Bool.or_true, Bool.true_or, Bool.false_and, Bool.and_false, Bool.or_false, Bool.false_or, decide_eq_true_eq, id_eq, Int.reduceLT, Int.reduceLE, Int.reduceNeg, Int.reduceAdd, Int.reduceSub, Int.reduceMul, Int.reduceMod, Int.reduceDiv, Int.reducePow, Int.reduceToNat, and_self, true_and, and_true, gStar_1, eqF_int, isiF_tup, isiF_lst, isiF_int, isiF_str, isiF_bl, at_0, gSet_e, seO_1, seI_1, lenF_5, addF_4, sxE_1, ixF_5, itF_4, max2F_e, min2F_e, eM1_c, cM1_1, oM1_c, cN1_1, intAnyF_b, intAnyF_s, strOfF_1, eqF_str, eqH_int, eqH_str, dvmF_1, gTwo_1, eIf_e, ct__law_is_shape_1, hl, h1, h2]
    · have e : wh (.int i) = false := by simp [wh, h1]
      rw [e]
      simp (config := { decide := true }) only [bd_1, bd_2, bs_1, bs_2, sq_1, sq_2, sq_3, sq_4, sq_5, vr_1, ga_1, lcE_1, sSeq_e, sAsg_e, cAsg_1, sRet_e, cRt_1, sDrop_e, cDr_1, sIf_e, cIf_t, cIf_f, sSkip_e, sBrk_e, sCnt_e, sPar_e, cPar_1, cPar2_1, sFor_e, cFor_1, gVar_e, eVar_e, eC_e, eOp_e, cOp_1, eUn_e, aNil_e, aCons_e, cA_1, cA2_1, eCall_e, oCall_e, iCall_e, iVal_e, toB_1, bVal_e, bAnd_e, cAnd_1, bOr_e, cOr_1, bNot_e, cNot_1, eAnd_e, cEAnd_1, cEAnd2_1, eOr_e, cEOr_1, cEOr2_1, eNot_e, cENot_1, cENot2_1, eIf_e, cEIf_1, eChain_e, cCh_1, cCh1_1, cCh2_1, cCh3_1, eTup_e, cTup_1, oLst_e, cLst_1, eFz_e, cFz_1, ePtr_e, cPtr_1, oLc_e, cLc_1, eSh_e, itF_1, itF_2, itF_3, addF_1, addF_2, addF_3, intF_1, subF_1, modF_1, fdvF_1, powF_1, mulF_1, mulF_2, negF_1, ltF_1, leF_1, gtF_1, geF_1, atE_1, ixF_1, ixF_2, ixF_3, pxE_1, ixF_4, plE_1, lenF_4, eMt_e, cMt_1, eCut_e, cCut_1, cCut2_1, qNone_e, qSome_e, toI_1, cutF_1, cutF_2, cutF_3, cutF_4, eCallK_e, cK_1, cK2_1, eDic0_e, oCat_e, cCat_1, cCat2_1, cCat3_1, lsT_1, lsT_2, rcv_p, apE_1, appF_1, stL_app, set_app, stL_0, stL_k, stL_c, stL_s, set_0, set_k, shE_1, shF_1, lenF_1, lenF_2, lenF_3, absF_1, intOfF_1, intOfF_2, rng1F_1, rng2F_1, Ar_e, mkD_e, fin_1, fin_2, fin_3, few_e, tupOfF_1, tupOfF_2, tupOfF_3, lstOfF_1, lstOfF_2, lstOfF_3, isF_1, gStar_1, cIf_1, Option.isSome_some, List.length_map, List.length_append, List.append_assoc, Nat.add_assoc, slots, wpD, List.map_cons, List.map_nil, List.cons_append, List.nil_append, List.length_cons, List.length_nil, List.replicate, List.set_cons_succ, List.set_cons_zero, List.getElem?_cons_zero, List.getElem?_cons_succ, if_true, if_false, ite_true, ite_false, reduceIte, Nat.reduceAdd, Nat.reduceSub, Nat.reduceLeDiff, Nat.zero_add, Nat.sub_zero, Nat.sub_self, Bool.not_true, Bool.not_false, Bool.false_eq_true, decide_true, decide_false, Bool.true_and, Bool.and_true, Bool.or_true, Bool.true_or, Bool.false_and, Bool.and_false, Bool.or_false, Bool.false_or, decide_eq_true_eq, id_eq, Int.reduceLT, Int.reduceLE, Int.reduceNeg, Int.reduceAdd, Int.reduceSub, Int.reduceMul, Int.reduceMod, Int.reduceDiv, Int.reducePow, Int.reduceToNat, and_self, true_and, and_true, gStar_1, eqF_int, isiF_tup, isiF_lst, isiF_int, isiF_str, isiF_bl, at_0, gSet_e, seO_1, seI_1, lenF_5, addF_4, sxE_1, ixF_5, itF_4, max2F_e, min2F_e, eM1_c, cM1_1, oM1_c, cN1_1, intAnyF_b, intAnyF_s, strOfF_1, eqF_str, eqH_int, eqH_str, dvmF_1, gTwo_1, eIf_e, ct__law_is_shape_1, hl, h1]
  · have e := isI_no hi
    have e2 : wh d = false := by
      unfold wh
      split
      · exact absurd rfl (hi _)
      · rfl
    rw [e] at hl
    rw [e2]
    simp (config := { decide := true }) only [bd_1, bd_2, bs_1, bs_2, sq_1, sq_2, sq_3, sq_4, sq_5, vr_1, ga_1, lcE_1, sSeq_e, sAsg_e, cAsg_1, sRet_e, cRt_1, sDrop_e, cDr_1, sIf_e, cIf_t, cIf_f, sSkip_e, sBrk_e, sCnt_e, sPar_e, cPar_1, cPar2_1, sFor_e, cFor_1, gVar_e, eVar_e, eC_e, eOp_e, cOp_1, eUn_e, aNil_e, aCons_e, cA_1, cA2_1, eCall_e, oCall_e, iCall_e, iVal_e, toB_1, bVal_e, bAnd_e, cAnd_1, bOr_e, cOr_1, bNot_e, cNot_1, eAnd_e, cEAnd_1, cEAnd2_1, eOr_e, cEOr_1, cEOr2_1, eNot_e, cENot_1, cENot2_1, eIf_e, cEIf_1, eChain_e, cCh_1, cCh1_1, cCh2_1, cCh3_1, eTup_e, cTup_1, oLst_e, cLst_1, eFz_e, cFz_1, ePtr_e, cPtr_1, oLc_e, cLc_1, eSh_e, itF_1, itF_2, itF_3, addF_1, addF_2, addF_3, intF_1, subF_1, modF_1, fdvF_1, powF_1, mulF_1, mulF_2, negF_1, ltF_1, leF_1, gtF_1, geF_1, atE_1, ixF_1, ixF_2, ixF_3, pxE_1, ixF_4, plE_1, lenF_4, eMt_e, cMt_1, eCut_e, cCut_1, cCut2_1, qNone_e, qSome_e, toI_1, cutF_1, cutF_2, cutF_3, cutF_4, eCallK_e, cK_1, cK2_1, eDic0_e, oCat_e, cCat_1, cCat2_1, cCat3_1, lsT_1, lsT_2, rcv_p, apE_1, appF_1, stL_app, set_app, stL_0, stL_k, stL_c, stL_s, set_0, set_k, shE_1, shF_1, lenF_1, lenF_2, lenF_3, absF_1, intOfF_1, intOfF_2, rng1F_1, rng2F_1, Ar_e, mkD_e, fin_1, fin_2, fin_3, few_e, tupOfF_1, tupOfF_2, tupOfF_3, lstOfF_1, lstOfF_2, lstOfF_3, isF_1, gStar_1, cIf_1, Option.isSome_some, List.length_map, List.length_append, List.append_assoc, Nat.add_assoc, slots, wpD, List.map_cons, List.map_nil, List.cons_append, List.nil_append, List.length_cons, List.length_nil, List.replicate, List.set_cons_succ, List.set_cons_zero, List.getElem?_cons_zero, List.getElem?_cons_succ, if_true, if_false, ite_true, ite_false, reduceIte, Nat.reduceAdd, Nat.reduceSub, Nat.reduceLeDiff, Nat.zero_add, Nat.sub_zero, Nat.sub_self, Bool.not_true, Bool.not_false, Bool.false_eq_true, decide_true, decide_false, Bool.true_and, Bool.and_true, Bool.or_true, Bool.true_or, Bool.false_and, Bool.and_false, Bool.or_false, Bool.false_or, decide_eq_true_eq, id_eq, Int.reduceLT, Int.reduceLE, Int.reduceNeg, Int.reduceAdd, Int.reduceSub, Int.reduceMul, Int.reduceMod, Int.reduceDiv, Int.reducePow, Int.reduceToNat, and_self, true_and, and_true, gStar_1, eqF_int, isiF_tup, isiF_lst, isiF_int, isiF_str, isiF_bl, at_0, gSet_e, seO_1, seI_1, lenF_5, addF_4, sxE_1, ixF_5, itF_4, max2F_e, min2F_e, eM1_c, cM1_1, oM1_c, cN1_1, intAnyF_b, intAnyF_s, strOfF_1, eqF_str, eqH_int, eqH_str, dvmF_1, gTwo_1, eIf_e, ct__law_is_shape_1, hl]
theorem cm_is {x : Option D} (S : ST) (ds : List D) (h : ∀ d ∈ ds, Item d) : cmD (gVar 1) bYes ce_is_shape_1 [x, none] ds S = some ((ds.map wh).map D.bl, S) := by
  rw [cm_map (f := fun d => .bl (wh d)) _ fun d hd => ?_]
  · simp
  · refine ⟨_, rfl, ?_⟩
    simp (config := { decide := true }) only [bd_1, bd_2, bs_1, bs_2, sq_1, sq_2, sq_3, sq_4, sq_5, vr_1, ga_1, lcE_1, sSeq_e, sAsg_e, cAsg_1, sRet_e, cRt_1, sDrop_e, cDr_1, sIf_e, cIf_t, cIf_f, sSkip_e, sBrk_e, sCnt_e, sPar_e, cPar_1, cPar2_1, sFor_e, cFor_1, gVar_e, eVar_e, eC_e, eOp_e, cOp_1, eUn_e, aNil_e, aCons_e, cA_1, cA2_1, eCall_e, oCall_e, iCall_e, iVal_e, toB_1, bVal_e, bAnd_e, cAnd_1, bOr_e, cOr_1, bNot_e, cNot_1, eAnd_e, cEAnd_1, cEAnd2_1, eOr_e, cEOr_1, cEOr2_1, eNot_e, cENot_1, cENot2_1, eIf_e, cEIf_1, eChain_e, cCh_1, cCh1_1, cCh2_1, cCh3_1, eTup_e, cTup_1, oLst_e, cLst_1, eFz_e, cFz_1, ePtr_e, cPtr_1, oLc_e, cLc_1, eSh_e, itF_1, itF_2, itF_3, addF_1, addF_2, addF_3, intF_1, subF_1, modF_1, fdvF_1, powF_1, mulF_1, mulF_2, negF_1, ltF_1, leF_1, gtF_1, geF_1, atE_1, ixF_1, ixF_2, ixF_3, pxE_1, ixF_4, plE_1, lenF_4, eMt_e, cMt_1, eCut_e, cCut_1, cCut2_1, qNone_e, qSome_e, toI_1, cutF_1, cutF_2, cutF_3, cutF_4, eCallK_e, cK_1, cK2_1, eDic0_e, oCat_e, cCat_1, cCat2_1, cCat3_1, lsT_1, lsT_2, rcv_p, apE_1, appF_1, stL_app, set_app, stL_0, stL_k, stL_c, stL_s, set_0, set_k, shE_1, shF_1, lenF_1, lenF_2, lenF_3, absF_1, intOfF_1, intOfF_2, rng1F_1, rng2F_1, Ar_e, mkD_e, fin_1, fin_2, fin_3, few_e, tupOfF_1, tupOfF_2, tupOfF_3, lstOfF_1, lstOfF_2, lstOfF_3, isF_1, gStar_1, cIf_1, Option.isSome_some, List.length_map, List.length_append, List.append_assoc, Nat.add_assoc, slots, wpD, List.map_cons, List.map_nil, List.cons_append, List.nil_append, List.length_cons, List.length_nil, List.replicate, List.set_cons_succ, List.set_cons_zero, List.getElem?_cons_zero, List.getElem?_cons_succ, if_true, if_false, ite_true, ite_false, reduceIte, Nat.reduceAdd, Nat.reduceSub, Nat.reduceLeDiff, Nat.zero_add, Nat.sub_zero, Nat.sub_self, Bool.not_true, Bool.not_false, Bool.false_eq_true, decide_true, decide_false, Bool.true_and, Bool.and_true, Bool.or_true, Bool.true_or, Bool.false_and, Bool.and_false, Bool.or_false, Bool.false_or, decide_eq_true_eq, id_eq, Int.reduceLT, Int.reduceLE, Int.reduceNeg, Int.reduceAdd, Int.reduceSub, Int.reduceMul, Int.reduceMod, Int.reduceDiv, Int.reducePow, Int.reduceToNat, and_self, true_and, and_true, gStar_1, eqF_int, isiF_tup, isiF_lst, isiF_int, isiF_str, isiF_bl, at_0, gSet_e, seO_1, seI_1, lenF_5, addF_4, sxE_1, ixF_5, itF_4, max2F_e, min2F_e, eM1_c, cM1_1, oM1_c, cN1_1, intAnyF_b, intAnyF_s, strOfF_1, eqF_str, eqH_int, eqH_str, dvmF_1, gTwo_1, eIf_e, ce_is_shape_1, whole_item (h d hd)]
theorem cm_law {x : Option D} (S : ST) (ds : List D) (h : ∀ d ∈ ds, Item d) : cmD (gVar 1) ct__law_is_shape_1 ce__law_is_shape_1 [x, none] ds S = some (ds.filter fun d => !wh d, S) := by
  rw [cm_sift (f := id) (c := fun d => !wh d) _ fun d hd => ?_]
  · simp
  · refine ⟨_, rfl, ct_item (h d hd) S, ?_⟩
    simp (config := { decide := true }) only [bd_1, bd_2, bs_1, bs_2, sq_1, sq_2, sq_3, sq_4, sq_5, vr_1, ga_1, lcE_1, sSeq_e, sAsg_e, cAsg_1, sRet_e, cRt_1, sDrop_e, cDr_1, sIf_e, cIf_t, cIf_f, sSkip_e, sBrk_e, sCnt_e, sPar_e, cPar_1, cPar2_1, sFor_e, cFor_1, gVar_e, eVar_e, eC_e, eOp_e, cOp_1, eUn_e, aNil_e, aCons_e, cA_1, cA2_1, eCall_e, oCall_e, iCall_e, iVal_e, toB_1, bVal_e, bAnd_e, cAnd_1, bOr_e, cOr_1, bNot_e, cNot_1, eAnd_e, cEAnd_1, cEAnd2_1, eOr_e, cEOr_1, cEOr2_1, eNot_e, cENot_1, cENot2_1, eIf_e, cEIf_1, eChain_e, cCh_1, cCh1_1, cCh2_1, cCh3_1, eTup_e, cTup_1, oLst_e, cLst_1, eFz_e, cFz_1, ePtr_e, cPtr_1, oLc_e, cLc_1, eSh_e, itF_1, itF_2, itF_3, addF_1, addF_2, addF_3, intF_1, subF_1, modF_1, fdvF_1, powF_1, mulF_1, mulF_2, negF_1, ltF_1, leF_1, gtF_1, geF_1, atE_1, ixF_1, ixF_2, ixF_3, pxE_1, ixF_4, plE_1, lenF_4, eMt_e, cMt_1, eCut_e, cCut_1, cCut2_1, qNone_e, qSome_e, toI_1, cutF_1, cutF_2, cutF_3, cutF_4, eCallK_e, cK_1, cK2_1, eDic0_e, oCat_e, cCat_1, cCat2_1, cCat3_1, lsT_1, lsT_2, rcv_p, apE_1, appF_1, stL_app, set_app, stL_0, stL_k, stL_c, stL_s, set_0, set_k, shE_1, shF_1, lenF_1, lenF_2, lenF_3, absF_1, intOfF_1, intOfF_2, rng1F_1, rng2F_1, Ar_e, mkD_e, fin_1, fin_2, fin_3, few_e, tupOfF_1, tupOfF_2, tupOfF_3, lstOfF_1, lstOfF_2, lstOfF_3, isF_1, gStar_1, cIf_1, Option.isSome_some, List.length_map, List.length_append, List.append_assoc, Nat.add_assoc, slots, wpD, List.map_cons, List.map_nil, List.cons_append, List.nil_append, List.length_cons, List.length_nil, List.replicate, List.set_cons_succ, List.set_cons_zero, List.getElem?_cons_zero, List.getElem?_cons_succ, if_true, if_false, ite_true, ite_false, reduceIte, Nat.reduceAdd, Nat.reduceSub, Nat.reduceLeDiff, Nat.zero_add, Nat.sub_zero, Nat.sub_self, Bool.not_true, Bool.not_false, Bool.false_eq_true, decide_true, decide_false, Bool.true_and, Bool.and_true, Bool.or_true, Bool.true_or, Bool.false_and, Bool.and_false, Bool.or_false, Bool.false_or, decide_eq_true_eq, id_eq, Int.reduceLT, Int.reduceLE, Int.reduceNeg, Int.reduceAdd, Int.reduceSub, Int.reduceMul, Int.reduceMod, Int.reduceDiv, Int.reducePow, Int.reduceToNat, and_self, true_and, and_true, gStar_1, eqF_int, isiF_tup, isiF_lst, isiF_int, isiF_str, isiF_bl, at_0, gSet_e, seO_1, seI_1, lenF_5, addF_4, sxE_1, ixF_5, itF_4, max2F_e, min2F_e, eM1_c, cM1_1, oM1_c, cN1_1, intAnyF_b, intAnyF_s, strOfF_1, eqF_str, eqH_int, eqH_str, dvmF_1, gTwo_1, eIf_e, ce__law_is_shape_1]
theorem Item.py {d : D} (h : Item d) : ∃ p, (∀ T, pyF T 11 d = some p) ∧ SeqAt.shaped p = true ∧ p.depth ≤ 60 := by
  rcases h with ⟨i, rfl⟩ | ⟨t, p, _, _, h1, h2, h3, _⟩
  · exact ⟨.int i, fun _ => rfl, rfl, Nat.zero_le _⟩
  · exact ⟨p, h1, h2, h3⟩
theorem mapO_items (S : ST) : ∀ ds : List D, (∀ d ∈ ds, Item d) → ∃ ps, mapO (pyF S 11) ds = some ps ∧ ps.length = ds.length ∧ PyData.canLayAll0 ps = true ∧ PyData.depthAll ps ≤ 60
  | [], _ => ⟨[], rfl, rfl, rfl, Nat.zero_le _⟩
  | d :: ds, h => by
    obtain ⟨p, h1, h2, h3⟩ := (h d (List.mem_cons_self ..)).py
    obtain ⟨ps, e1, e2, e3, e4⟩ := mapO_items S ds fun d hd => h d (List.mem_cons_of_mem _ hd)
    have h2' : (p.canLay0 && decide (p.depth ≤ 64)) = true := h2
    rw [Bool.and_eq_true] at h2'
    refine ⟨p :: ps, by simp only [mapO, h1, e1], by simp [e2], ?_, ?_⟩
    · simp only [PyData.canLayAll0, h2'.1, e3, Bool.and_self]
    · simp only [PyData.depthAll]
      omega
theorem eqH_nil {f : Bool → Bool} {S : ST} {ds : List D} (h : ∀ d ∈ ds, Item d) : eqH f (.lst ds) (.lst []) S = some (.ok (.bl (f ds.isEmpty)), S) := by
  obtain ⟨ps, e1, e2, e3, e4⟩ := mapO_items S ds h
  have e : eqH f (.lst ds) (.lst []) S = eqG f ((mapO (pyF S 11) ds).map .list) (some (.list [])) S := rfl
  rw [e, e1]
  have s1 : SeqAt.shaped (.list ps) = true := by
    show (PyData.canLayAll0 ps && decide (PyData.depthAll ps + 1 ≤ 64)) = true
    rw [e3, decide_eq_true (by omega)]
    rfl
  show (if (SeqAt.shaped (.list ps) && SeqAt.shaped (.list [])) = true then some (Rs.ok (D.bl (f (PyData.eqv (.list ps) (.list [])))), S) else none) = _
  rw [s1, if_pos (show (true && SeqAt.shaped (.list [])) = true from by decide)]
  cases ds with
  | nil =>
    cases ps with
    | nil => rfl
    | cons p ps => simp at e2
  | cons d ds =>
    cases ps with
    | nil => simp at e2
    | cons p ps => rfl
/-! whether a thing is a shape -/
theorem cut1 (d : D) (ds : List D) : cutD (d :: ds) (some 1) none = ds := by
  have e : HT.sIx (d :: ds).length 0 (some 1) = 1 := by simp [HT.sIx]
  have e2 : HT.sIx (d :: ds).length (d :: ds).length none = (d :: ds).length := by simp [HT.sIx]
  unfold cutD
  rw [e, e2]
  simp
def rr (z : Str) : Bool := inV (.str z) [.str "row", .str "ring"]
theorem in_rr (z : Str) (S : ST) : inF (fun b => b) (.str z) (.tup [.str "row", .str "ring"]) S = some (.ok (.bl (rr z)), S) := rfl
theorem rr_grid (z : Str) (h : rr z = true) : ¬ z = Str.ofString "grid" := by
  rintro rfl
  revert h
  decide +kernel
theorem wh_int {d : D} (h : wh d = true) : ∃ i : Int, d = .int i ∧ 1 ≤ i ∧ i ≤ 12 := by
  unfold wh at h
  split at h
  · rename_i i
    simp only [Bool.and_eq_true, decide_eq_true_eq] at h
    exact ⟨i, rfl, h.1, h.2⟩
  · cases h
theorem in23 (n : Int) (S : ST) : inF (fun b => !b) (.int n) (.tup [.int 2, .int 3]) S = some (.ok (.bl (!(inV (.int n) [.int 2, .int 3]))), S) := rfl
theorem tup_len1 {d : D} (S : ST) : d_is_shape [.tup [d]] S = some (.ok (.bl false), S) ∧ d__law_is_shape [.tup [d]] S = some (.ok (.bl false), S) := by
  constructor
  · simp (config := { decide := true }) only [bd_1, bd_2, bs_1, bs_2, sq_1, sq_2, sq_3, sq_4, sq_5, vr_1, ga_1, lcE_1, sSeq_e, sAsg_e, cAsg_1, sRet_e, cRt_1, sDrop_e, cDr_1, sIf_e, cIf_t, cIf_f, sSkip_e, sBrk_e, sCnt_e, sPar_e, cPar_1, cPar2_1, sFor_e, cFor_1, gVar_e, eVar_e, eC_e, eOp_e, cOp_1, eUn_e, aNil_e, aCons_e, cA_1, cA2_1, eCall_e, oCall_e, iCall_e, iVal_e, toB_1, bVal_e, bAnd_e, cAnd_1, bOr_e, cOr_1, bNot_e, cNot_1, eAnd_e, cEAnd_1, cEAnd2_1, eOr_e, cEOr_1, cEOr2_1, eNot_e, cENot_1, cENot2_1, eIf_e, cEIf_1, eChain_e, cCh_1, cCh1_1, cCh2_1, cCh3_1, eTup_e, cTup_1, oLst_e, cLst_1, eFz_e, cFz_1, ePtr_e, cPtr_1, oLc_e, cLc_1, eSh_e, itF_1, itF_2, itF_3, addF_1, addF_2, addF_3, intF_1, subF_1, modF_1, fdvF_1, powF_1, mulF_1, mulF_2, negF_1, ltF_1, leF_1, gtF_1, geF_1, atE_1, ixF_1, ixF_2, ixF_3, pxE_1, ixF_4, plE_1, lenF_4, eMt_e, cMt_1, eCut_e, cCut_1, cCut2_1, qNone_e, qSome_e, toI_1, cutF_1, cutF_2, cutF_3, cutF_4, eCallK_e, cK_1, cK2_1, eDic0_e, oCat_e, cCat_1, cCat2_1, cCat3_1, lsT_1, lsT_2, rcv_p, apE_1, appF_1, stL_app, set_app, stL_0, stL_k, stL_c, stL_s, set_0, set_k, shE_1, shF_1, lenF_1, lenF_2, lenF_3, absF_1, intOfF_1, intOfF_2, rng1F_1, rng2F_1, Ar_e, mkD_e, fin_1, fin_2, fin_3, few_e, tupOfF_1, tupOfF_2, tupOfF_3, lstOfF_1, lstOfF_2, lstOfF_3, isF_1, gStar_1, cIf_1, Option.isSome_some, List.length_map, List.length_append, List.append_assoc, Nat.add_assoc, slots, wpD, List.map_cons, List.map_nil, List.cons_append, List.nil_append, List.length_cons, List.length_nil, List.replicate, List.set_cons_succ, List.set_cons_zero, List.getElem?_cons_zero, List.getElem?_cons_succ, if_true, if_false, ite_true, ite_false, reduceIte, Nat.reduceAdd, Nat.reduceSub, Nat.reduceLeDiff, Nat.zero_add, Nat.sub_zero, Nat.sub_self, Bool.not_true, Bool.not_false, Bool.false_eq_true, decide_true, decide_false, Bool.true_and, Bool.and_true, Bool.or_true, Bool.true_or, Bool.false_and, Bool.and_false, Bool.or_false, Bool.false_or, decide_eq_true_eq, id_eq, Int.reduceLT, Int.reduceLE, Int.reduceNeg, Int.reduceAdd, Int.reduceSub, Int.reduceMul, Int.reduceMod, Int.reduceDiv, Int.reducePow, Int.reduceToNat, and_self, true_and, and_true, gStar_1, eqF_int, isiF_tup, isiF_lst, isiF_int, isiF_str, isiF_bl, at_0, gSet_e, seO_1, seI_1, lenF_5, addF_4, sxE_1, ixF_5, itF_4, max2F_e, min2F_e, eM1_c, cM1_1, oM1_c, cN1_1, intAnyF_b, intAnyF_s, strOfF_1, eqF_str, eqH_int, eqH_str, dvmF_1, gTwo_1, eIf_e, d_is_shape, b_is_shape, isaB]
  · have : inV (.int 1) [.int 2, .int 3] = false := by decide +kernel
    simp (config := { decide := true }) only [bd_1, bd_2, bs_1, bs_2, sq_1, sq_2, sq_3, sq_4, sq_5, vr_1, ga_1, lcE_1, sSeq_e, sAsg_e, cAsg_1, sRet_e, cRt_1, sDrop_e, cDr_1, sIf_e, cIf_t, cIf_f, sSkip_e, sBrk_e, sCnt_e, sPar_e, cPar_1, cPar2_1, sFor_e, cFor_1, gVar_e, eVar_e, eC_e, eOp_e, cOp_1, eUn_e, aNil_e, aCons_e, cA_1, cA2_1, eCall_e, oCall_e, iCall_e, iVal_e, toB_1, bVal_e, bAnd_e, cAnd_1, bOr_e, cOr_1, bNot_e, cNot_1, eAnd_e, cEAnd_1, cEAnd2_1, eOr_e, cEOr_1, cEOr2_1, eNot_e, cENot_1, cENot2_1, eIf_e, cEIf_1, eChain_e, cCh_1, cCh1_1, cCh2_1, cCh3_1, eTup_e, cTup_1, oLst_e, cLst_1, eFz_e, cFz_1, ePtr_e, cPtr_1, oLc_e, cLc_1, eSh_e, itF_1, itF_2, itF_3, addF_1, addF_2, addF_3, intF_1, subF_1, modF_1, fdvF_1, powF_1, mulF_1, mulF_2, negF_1, ltF_1, leF_1, gtF_1, geF_1, atE_1, ixF_1, ixF_2, ixF_3, pxE_1, ixF_4, plE_1, lenF_4, eMt_e, cMt_1, eCut_e, cCut_1, cCut2_1, qNone_e, qSome_e, toI_1, cutF_1, cutF_2, cutF_3, cutF_4, eCallK_e, cK_1, cK2_1, eDic0_e, oCat_e, cCat_1, cCat2_1, cCat3_1, lsT_1, lsT_2, rcv_p, apE_1, appF_1, stL_app, set_app, stL_0, stL_k, stL_c, stL_s, set_0, set_k, shE_1, shF_1, lenF_1, lenF_2, lenF_3, absF_1, intOfF_1, intOfF_2, rng1F_1, rng2F_1, Ar_e, mkD_e, fin_1, fin_2, fin_3, few_e, tupOfF_1, tupOfF_2, tupOfF_3, lstOfF_1, lstOfF_2, lstOfF_3, isF_1, gStar_1, cIf_1, Option.isSome_some, List.length_map, List.length_append, List.append_assoc, Nat.add_assoc, slots, wpD, List.map_cons, List.map_nil, List.cons_append, List.nil_append, List.length_cons, List.length_nil, List.replicate, List.set_cons_succ, List.set_cons_zero, List.getElem?_cons_zero, List.getElem?_cons_succ, if_true, if_false, ite_true, ite_false, reduceIte, Nat.reduceAdd, Nat.reduceSub, Nat.reduceLeDiff, Nat.zero_add, Nat.sub_zero, Nat.sub_self, Bool.not_true, Bool.not_false, Bool.false_eq_true, decide_true, decide_false, Bool.true_and, Bool.and_true, Bool.or_true, Bool.true_or, Bool.false_and, Bool.and_false, Bool.or_false, Bool.false_or, decide_eq_true_eq, id_eq, Int.reduceLT, Int.reduceLE, Int.reduceNeg, Int.reduceAdd, Int.reduceSub, Int.reduceMul, Int.reduceMod, Int.reduceDiv, Int.reducePow, Int.reduceToNat, and_self, true_and, and_true, gStar_1, eqF_int, isiF_tup, isiF_lst, isiF_int, isiF_str, isiF_bl, at_0, gSet_e, seO_1, seI_1, lenF_5, addF_4, sxE_1, ixF_5, itF_4, max2F_e, min2F_e, eM1_c, cM1_1, oM1_c, cN1_1, intAnyF_b, intAnyF_s, strOfF_1, eqF_str, eqH_int, eqH_str, dvmF_1, gTwo_1, eIf_e, d__law_is_shape, b__law_is_shape, isaB, in23, this]
theorem no_str {d : D} {ds : List D} {t : String} (ht : ∀ T, tyD T d = some t) (hs : t ≠ "str") (hl : 1 ≤ ds.length) (S : ST) : d_is_shape [.tup (d :: ds)] S = some (.ok (.bl false), S) ∧ d__law_is_shape [.tup (d :: ds)] S = some (.ok (.bl false), S) := by
  have q : isaB t "str" = false := by unfold isaB; simp [hs]
  have hl2 : ¬ ((ds.length + 1 : Nat) : Int) < 2 := by omega
  constructor
  · simp (config := { decide := true }) only [bd_1, bd_2, bs_1, bs_2, sq_1, sq_2, sq_3, sq_4, sq_5, vr_1, ga_1, lcE_1, sSeq_e, sAsg_e, cAsg_1, sRet_e, cRt_1, sDrop_e, cDr_1, sIf_e, cIf_t, cIf_f, sSkip_e, sBrk_e, sCnt_e, sPar_e, cPar_1, cPar2_1, sFor_e, cFor_1, gVar_e, eVar_e, eC_e, eOp_e, cOp_1, eUn_e, aNil_e, aCons_e, cA_1, cA2_1, eCall_e, oCall_e, iCall_e, iVal_e, toB_1, bVal_e, bAnd_e, cAnd_1, bOr_e, cOr_1, bNot_e, cNot_1, eAnd_e, cEAnd_1, cEAnd2_1, eOr_e, cEOr_1, cEOr2_1, eNot_e, cENot_1, cENot2_1, eIf_e, cEIf_1, eChain_e, cCh_1, cCh1_1, cCh2_1, cCh3_1, eTup_e, cTup_1, oLst_e, cLst_1, eFz_e, cFz_1, ePtr_e, cPtr_1, oLc_e, cLc_1, eSh_e, itF_1, itF_2, itF_3, addF_1, addF_2, addF_3, intF_1, subF_1, modF_1, fdvF_1, powF_1, mulF_1, mulF_2, negF_1, ltF_1, leF_1, gtF_1, geF_1, atE_1, ixF_1, ixF_2, ixF_3, pxE_1, ixF_4, plE_1, lenF_4, eMt_e, cMt_1, eCut_e, cCut_1, cCut2_1, qNone_e, qSome_e, toI_1, cutF_1, cutF_2, cutF_3, cutF_4, eCallK_e, cK_1, cK2_1, eDic0_e, oCat_e, cCat_1, cCat2_1, cCat3_1, lsT_1, lsT_2, rcv_p, apE_1, appF_1, stL_app, set_app, stL_0, stL_k, stL_c, stL_s, set_0, set_k, shE_1, shF_1, lenF_1, lenF_2, lenF_3, absF_1, intOfF_1, intOfF_2, rng1F_1, rng2F_1, Ar_e, mkD_e, fin_1, fin_2, fin_3, few_e, tupOfF_1, tupOfF_2, tupOfF_3, lstOfF_1, lstOfF_2, lstOfF_3, isF_1, gStar_1, cIf_1, Option.isSome_some, List.length_map, List.length_append, List.append_assoc, Nat.add_assoc, slots, wpD, List.map_cons, List.map_nil, List.cons_append, List.nil_append, List.length_cons, List.length_nil, List.replicate, List.set_cons_succ, List.set_cons_zero, List.getElem?_cons_zero, List.getElem?_cons_succ, if_true, if_false, ite_true, ite_false, reduceIte, Nat.reduceAdd, Nat.reduceSub, Nat.reduceLeDiff, Nat.zero_add, Nat.sub_zero, Nat.sub_self, Bool.not_true, Bool.not_false, Bool.false_eq_true, decide_true, decide_false, Bool.true_and, Bool.and_true, Bool.or_true, Bool.true_or, Bool.false_and, Bool.and_false, Bool.or_false, Bool.false_or, decide_eq_true_eq, id_eq, Int.reduceLT, Int.reduceLE, Int.reduceNeg, Int.reduceAdd, Int.reduceSub, Int.reduceMul, Int.reduceMod, Int.reduceDiv, Int.reducePow, Int.reduceToNat, and_self, true_and, and_true, gStar_1, eqF_int, isiF_tup, isiF_lst, isiF_int, isiF_str, isiF_bl, at_0, gSet_e, seO_1, seI_1, lenF_5, addF_4, sxE_1, ixF_5, itF_4, max2F_e, min2F_e, eM1_c, cM1_1, oM1_c, cN1_1, intAnyF_b, intAnyF_s, strOfF_1, eqF_str, eqH_int, eqH_str, dvmF_1, gTwo_1, eIf_e, d_is_shape, b_is_shape, (by decide : isaB "tuple" "tuple" = true), hl2, isiF_1 (ht S), q]
  · cases hv : inV (.int ((ds.length + 1 : Nat) : Int)) [.int 2, .int 3] with
    | true => simp (config := { decide := true }) only [bd_1, bd_2, bs_1, bs_2, sq_1, sq_2, sq_3, sq_4, sq_5, vr_1, ga_1, lcE_1, sSeq_e, sAsg_e, cAsg_1, sRet_e, cRt_1, sDrop_e, cDr_1, sIf_e, cIf_t, cIf_f, sSkip_e, sBrk_e, sCnt_e, sPar_e, cPar_1, cPar2_1, sFor_e, cFor_1, gVar_e, eVar_e, eC_e, eOp_e, cOp_1, eUn_e, aNil_e, aCons_e, cA_1, cA2_1, eCall_e, oCall_e, iCall_e, iVal_e, toB_1, bVal_e, bAnd_e, cAnd_1, bOr_e, cOr_1, bNot_e, cNot_1, eAnd_e, cEAnd_1, cEAnd2_1, eOr_e, cEOr_1, cEOr2_1, eNot_e, cENot_1, cENot2_1, eIf_e, cEIf_1, eChain_e, cCh_1, cCh1_1, cCh2_1, cCh3_1, eTup_e, cTup_1, oLst_e, cLst_1, eFz_e, cFz_1, ePtr_e, cPtr_1, oLc_e, cLc_1, eSh_e, itF_1, itF_2, itF_3, addF_1, addF_2, addF_3, intF_1, subF_1, modF_1, fdvF_1, powF_1, mulF_1, mulF_2, negF_1, ltF_1, leF_1, gtF_1, geF_1, atE_1, ixF_1, ixF_2, ixF_3, pxE_1, ixF_4, plE_1, lenF_4, eMt_e, cMt_1, eCut_e, cCut_1, cCut2_1, qNone_e, qSome_e, toI_1, cutF_1, cutF_2, cutF_3, cutF_4, eCallK_e, cK_1, cK2_1, eDic0_e, oCat_e, cCat_1, cCat2_1, cCat3_1, lsT_1, lsT_2, rcv_p, apE_1, appF_1, stL_app, set_app, stL_0, stL_k, stL_c, stL_s, set_0, set_k, shE_1, shF_1, lenF_1, lenF_2, lenF_3, absF_1, intOfF_1, intOfF_2, rng1F_1, rng2F_1, Ar_e, mkD_e, fin_1, fin_2, fin_3, few_e, tupOfF_1, tupOfF_2, tupOfF_3, lstOfF_1, lstOfF_2, lstOfF_3, isF_1, gStar_1, cIf_1, Option.isSome_some, List.length_map, List.length_append, List.append_assoc, Nat.add_assoc, slots, wpD, List.map_cons, List.map_nil, List.cons_append, List.nil_append, List.length_cons, List.length_nil, List.replicate, List.set_cons_succ, List.set_cons_zero, List.getElem?_cons_zero, List.getElem?_cons_succ, if_true, if_false, ite_true, ite_false, reduceIte, Nat.reduceAdd, Nat.reduceSub, Nat.reduceLeDiff, Nat.zero_add, Nat.sub_zero, Nat.sub_self, Bool.not_true, Bool.not_false, Bool.false_eq_true, decide_true, decide_false, Bool.true_and, Bool.and_true, Bool.or_true, Bool.true_or, Bool.false_and, Bool.and_false, Bool.or_false, Bool.false_or, decide_eq_true_eq, id_eq, Int.reduceLT, Int.reduceLE, Int.reduceNeg, Int.reduceAdd, Int.reduceSub, Int.reduceMul, Int.reduceMod, Int.reduceDiv, Int.reducePow, Int.reduceToNat, and_self, true_and, and_true, gStar_1, eqF_int, isiF_tup, isiF_lst, isiF_int, isiF_str, isiF_bl, at_0, gSet_e, seO_1, seI_1, lenF_5, addF_4, sxE_1, ixF_5, itF_4, max2F_e, min2F_e, eM1_c, cM1_1, oM1_c, cN1_1, intAnyF_b, intAnyF_s, strOfF_1, eqF_str, eqH_int, eqH_str, dvmF_1, gTwo_1, eIf_e, d__law_is_shape, b__law_is_shape, (by decide : isaB "tuple" "tuple" = true), in23, hv, isiF_1 (ht S), q]
    | false => simp (config := { decide := true }) only [bd_1, bd_2, bs_1, bs_2, sq_1, sq_2, sq_3, sq_4, sq_5, vr_1, ga_1, lcE_1, sSeq_e, sAsg_e, cAsg_1, sRet_e, cRt_1, sDrop_e, cDr_1, sIf_e, cIf_t, cIf_f, sSkip_e, sBrk_e, sCnt_e, sPar_e, cPar_1, cPar2_1, sFor_e, cFor_1, gVar_e, eVar_e, eC_e, eOp_e, cOp_1, eUn_e, aNil_e, aCons_e, cA_1, cA2_1, eCall_e, oCall_e, iCall_e, iVal_e, toB_1, bVal_e, bAnd_e, cAnd_1, bOr_e, cOr_1, bNot_e, cNot_1, eAnd_e, cEAnd_1, cEAnd2_1, eOr_e, cEOr_1, cEOr2_1, eNot_e, cENot_1, cENot2_1, eIf_e, cEIf_1, eChain_e, cCh_1, cCh1_1, cCh2_1, cCh3_1, eTup_e, cTup_1, oLst_e, cLst_1, eFz_e, cFz_1, ePtr_e, cPtr_1, oLc_e, cLc_1, eSh_e, itF_1, itF_2, itF_3, addF_1, addF_2, addF_3, intF_1, subF_1, modF_1, fdvF_1, powF_1, mulF_1, mulF_2, negF_1, ltF_1, leF_1, gtF_1, geF_1, atE_1, ixF_1, ixF_2, ixF_3, pxE_1, ixF_4, plE_1, lenF_4, eMt_e, cMt_1, eCut_e, cCut_1, cCut2_1, qNone_e, qSome_e, toI_1, cutF_1, cutF_2, cutF_3, cutF_4, eCallK_e, cK_1, cK2_1, eDic0_e, oCat_e, cCat_1, cCat2_1, cCat3_1, lsT_1, lsT_2, rcv_p, apE_1, appF_1, stL_app, set_app, stL_0, stL_k, stL_c, stL_s, set_0, set_k, shE_1, shF_1, lenF_1, lenF_2, lenF_3, absF_1, intOfF_1, intOfF_2, rng1F_1, rng2F_1, Ar_e, mkD_e, fin_1, fin_2, fin_3, few_e, tupOfF_1, tupOfF_2, tupOfF_3, lstOfF_1, lstOfF_2, lstOfF_3, isF_1, gStar_1, cIf_1, Option.isSome_some, List.length_map, List.length_append, List.append_assoc, Nat.add_assoc, slots, wpD, List.map_cons, List.map_nil, List.cons_append, List.nil_append, List.length_cons, List.length_nil, List.replicate, List.set_cons_succ, List.set_cons_zero, List.getElem?_cons_zero, List.getElem?_cons_succ, if_true, if_false, ite_true, ite_false, reduceIte, Nat.reduceAdd, Nat.reduceSub, Nat.reduceLeDiff, Nat.zero_add, Nat.sub_zero, Nat.sub_self, Bool.not_true, Bool.not_false, Bool.false_eq_true, decide_true, decide_false, Bool.true_and, Bool.and_true, Bool.or_true, Bool.true_or, Bool.false_and, Bool.and_false, Bool.or_false, Bool.false_or, decide_eq_true_eq, id_eq, Int.reduceLT, Int.reduceLE, Int.reduceNeg, Int.reduceAdd, Int.reduceSub, Int.reduceMul, Int.reduceMod, Int.reduceDiv, Int.reducePow, Int.reduceToNat, and_self, true_and, and_true, gStar_1, eqF_int, isiF_tup, isiF_lst, isiF_int, isiF_str, isiF_bl, at_0, gSet_e, seO_1, seI_1, lenF_5, addF_4, sxE_1, ixF_5, itF_4, max2F_e, min2F_e, eM1_c, cM1_1, oM1_c, cN1_1, intAnyF_b, intAnyF_s, strOfF_1, eqF_str, eqH_int, eqH_str, dvmF_1, gTwo_1, eIf_e, d__law_is_shape, b__law_is_shape, (by decide : isaB "tuple" "tuple" = true), in23, hv, isiF_1 (ht S), q]
theorem two_eq (z : Str) (d : D) (h : Item d) (S : ST) : ∃ b, d_is_shape [.tup [.str z, d]] S = some (.ok (.bl b), S) ∧ d__law_is_shape [.tup [.str z, d]] S = some (.ok (.bl b), S) := by
  have hi : ∀ x ∈ [d], Item x := by simpa using h
  have c1 := cut1 (.str z) [d]
  have c2 := cm_is (x := some (.tup [.str z, d])) S [d] hi
  have c3 := cm_law (x := some (.tup [.str z, d])) S [d] hi
  have v2 : inV (.int 2) [.int 2, .int 3] = true := by decide +kernel
  have t1 : isaB "tuple" "tuple" = true := by decide
  have t2 : isaB "str" "str" = true := by decide
  cases hw : wh d with
  | false =>
    have f1 : [d].filter (fun d => !wh d) = [d] := by simp [hw]
    rw [f1] at c3
    refine ⟨false, ?_, ?_⟩
    · simp (config := { decide := true }) only [bd_1, bd_2, bs_1, bs_2, sq_1, sq_2, sq_3, sq_4, sq_5, vr_1, ga_1, lcE_1, sSeq_e, sAsg_e, cAsg_1, sRet_e, cRt_1, sDrop_e, cDr_1, sIf_e, cIf_t, cIf_f, sSkip_e, sBrk_e, sCnt_e, sPar_e, cPar_1, cPar2_1, sFor_e, cFor_1, gVar_e, eVar_e, eC_e, eOp_e, cOp_1, eUn_e, aNil_e, aCons_e, cA_1, cA2_1, eCall_e, oCall_e, iCall_e, iVal_e, toB_1, bVal_e, bAnd_e, cAnd_1, bOr_e, cOr_1, bNot_e, cNot_1, eAnd_e, cEAnd_1, cEAnd2_1, eOr_e, cEOr_1, cEOr2_1, eNot_e, cENot_1, cENot2_1, eIf_e, cEIf_1, eChain_e, cCh_1, cCh1_1, cCh2_1, cCh3_1, eTup_e, cTup_1, oLst_e, cLst_1, eFz_e, cFz_1, ePtr_e, cPtr_1, oLc_e, cLc_1, eSh_e, itF_1, itF_2, itF_3, addF_1, addF_2, addF_3, intF_1, subF_1, modF_1, fdvF_1, powF_1, mulF_1, mulF_2, negF_1, ltF_1, leF_1, gtF_1, geF_1, atE_1, ixF_1, ixF_2, ixF_3, pxE_1, ixF_4, plE_1, lenF_4, eMt_e, cMt_1, eCut_e, cCut_1, cCut2_1, qNone_e, qSome_e, toI_1, cutF_1, cutF_2, cutF_3, cutF_4, eCallK_e, cK_1, cK2_1, eDic0_e, oCat_e, cCat_1, cCat2_1, cCat3_1, lsT_1, lsT_2, rcv_p, apE_1, appF_1, stL_app, set_app, stL_0, stL_k, stL_c, stL_s, set_0, set_k, shE_1, shF_1, lenF_1, lenF_2, lenF_3, absF_1, intOfF_1, intOfF_2, rng1F_1, rng2F_1, Ar_e, mkD_e, fin_1, fin_2, fin_3, few_e, tupOfF_1, tupOfF_2, tupOfF_3, lstOfF_1, lstOfF_2, lstOfF_3, isF_1, gStar_1, cIf_1, Option.isSome_some, List.length_map, List.length_append, List.append_assoc, Nat.add_assoc, slots, wpD, List.map_cons, List.map_nil, List.cons_append, List.nil_append, List.length_cons, List.length_nil, List.replicate, List.set_cons_succ, List.set_cons_zero, List.getElem?_cons_zero, List.getElem?_cons_succ, if_true, if_false, ite_true, ite_false, reduceIte, Nat.reduceAdd, Nat.reduceSub, Nat.reduceLeDiff, Nat.zero_add, Nat.sub_zero, Nat.sub_self, Bool.not_true, Bool.not_false, Bool.false_eq_true, decide_true, decide_false, Bool.true_and, Bool.and_true, Bool.or_true, Bool.true_or, Bool.false_and, Bool.and_false, Bool.or_false, Bool.false_or, decide_eq_true_eq, id_eq, Int.reduceLT, Int.reduceLE, Int.reduceNeg, Int.reduceAdd, Int.reduceSub, Int.reduceMul, Int.reduceMod, Int.reduceDiv, Int.reducePow, Int.reduceToNat, and_self, true_and, and_true, gStar_1, eqF_int, isiF_tup, isiF_lst, isiF_int, isiF_str, isiF_bl, at_0, gSet_e, seO_1, seI_1, lenF_5, addF_4, sxE_1, ixF_5, itF_4, max2F_e, min2F_e, eM1_c, cM1_1, oM1_c, cN1_1, intAnyF_b, intAnyF_s, strOfF_1, eqF_str, eqH_int, eqH_str, dvmF_1, gTwo_1, eIf_e, d_is_shape, b_is_shape, t1, t2, c1, c2, allF, lsS, blDs, hw, List.all]
    · simp (config := { decide := true }) only [bd_1, bd_2, bs_1, bs_2, sq_1, sq_2, sq_3, sq_4, sq_5, vr_1, ga_1, lcE_1, sSeq_e, sAsg_e, cAsg_1, sRet_e, cRt_1, sDrop_e, cDr_1, sIf_e, cIf_t, cIf_f, sSkip_e, sBrk_e, sCnt_e, sPar_e, cPar_1, cPar2_1, sFor_e, cFor_1, gVar_e, eVar_e, eC_e, eOp_e, cOp_1, eUn_e, aNil_e, aCons_e, cA_1, cA2_1, eCall_e, oCall_e, iCall_e, iVal_e, toB_1, bVal_e, bAnd_e, cAnd_1, bOr_e, cOr_1, bNot_e, cNot_1, eAnd_e, cEAnd_1, cEAnd2_1, eOr_e, cEOr_1, cEOr2_1, eNot_e, cENot_1, cENot2_1, eIf_e, cEIf_1, eChain_e, cCh_1, cCh1_1, cCh2_1, cCh3_1, eTup_e, cTup_1, oLst_e, cLst_1, eFz_e, cFz_1, ePtr_e, cPtr_1, oLc_e, cLc_1, eSh_e, itF_1, itF_2, itF_3, addF_1, addF_2, addF_3, intF_1, subF_1, modF_1, fdvF_1, powF_1, mulF_1, mulF_2, negF_1, ltF_1, leF_1, gtF_1, geF_1, atE_1, ixF_1, ixF_2, ixF_3, pxE_1, ixF_4, plE_1, lenF_4, eMt_e, cMt_1, eCut_e, cCut_1, cCut2_1, qNone_e, qSome_e, toI_1, cutF_1, cutF_2, cutF_3, cutF_4, eCallK_e, cK_1, cK2_1, eDic0_e, oCat_e, cCat_1, cCat2_1, cCat3_1, lsT_1, lsT_2, rcv_p, apE_1, appF_1, stL_app, set_app, stL_0, stL_k, stL_c, stL_s, set_0, set_k, shE_1, shF_1, lenF_1, lenF_2, lenF_3, absF_1, intOfF_1, intOfF_2, rng1F_1, rng2F_1, Ar_e, mkD_e, fin_1, fin_2, fin_3, few_e, tupOfF_1, tupOfF_2, tupOfF_3, lstOfF_1, lstOfF_2, lstOfF_3, isF_1, gStar_1, cIf_1, Option.isSome_some, List.length_map, List.length_append, List.append_assoc, Nat.add_assoc, slots, wpD, List.map_cons, List.map_nil, List.cons_append, List.nil_append, List.length_cons, List.length_nil, List.replicate, List.set_cons_succ, List.set_cons_zero, List.getElem?_cons_zero, List.getElem?_cons_succ, if_true, if_false, ite_true, ite_false, reduceIte, Nat.reduceAdd, Nat.reduceSub, Nat.reduceLeDiff, Nat.zero_add, Nat.sub_zero, Nat.sub_self, Bool.not_true, Bool.not_false, Bool.false_eq_true, decide_true, decide_false, Bool.true_and, Bool.and_true, Bool.or_true, Bool.true_or, Bool.false_and, Bool.and_false, Bool.or_false, Bool.false_or, decide_eq_true_eq, id_eq, Int.reduceLT, Int.reduceLE, Int.reduceNeg, Int.reduceAdd, Int.reduceSub, Int.reduceMul, Int.reduceMod, Int.reduceDiv, Int.reducePow, Int.reduceToNat, and_self, true_and, and_true, gStar_1, eqF_int, isiF_tup, isiF_lst, isiF_int, isiF_str, isiF_bl, at_0, gSet_e, seO_1, seI_1, lenF_5, addF_4, sxE_1, ixF_5, itF_4, max2F_e, min2F_e, eM1_c, cM1_1, oM1_c, cN1_1, intAnyF_b, intAnyF_s, strOfF_1, eqF_str, eqH_int, eqH_str, dvmF_1, gTwo_1, eIf_e, d__law_is_shape, b__law_is_shape, t1, t2, in23, v2, c1, c3, eqH_nil hi, List.isEmpty]
  | true =>
    have f1 : [d].filter (fun d => !wh d) = [] := by simp [hw]
    rw [f1] at c3
    have e0 := eqH_nil (f := not) (S := S) (ds := []) (by simp)
    refine ⟨rr z, ?_, ?_⟩
    · cases hr : rr z with
      | true =>
        simp (config := { decide := true }) only [bd_1, bd_2, bs_1, bs_2, sq_1, sq_2, sq_3, sq_4, sq_5, vr_1, ga_1, lcE_1, sSeq_e, sAsg_e, cAsg_1, sRet_e, cRt_1, sDrop_e, cDr_1, sIf_e, cIf_t, cIf_f, sSkip_e, sBrk_e, sCnt_e, sPar_e, cPar_1, cPar2_1, sFor_e, cFor_1, gVar_e, eVar_e, eC_e, eOp_e, cOp_1, eUn_e, aNil_e, aCons_e, cA_1, cA2_1, eCall_e, oCall_e, iCall_e, iVal_e, toB_1, bVal_e, bAnd_e, cAnd_1, bOr_e, cOr_1, bNot_e, cNot_1, eAnd_e, cEAnd_1, cEAnd2_1, eOr_e, cEOr_1, cEOr2_1, eNot_e, cENot_1, cENot2_1, eIf_e, cEIf_1, eChain_e, cCh_1, cCh1_1, cCh2_1, cCh3_1, eTup_e, cTup_1, oLst_e, cLst_1, eFz_e, cFz_1, ePtr_e, cPtr_1, oLc_e, cLc_1, eSh_e, itF_1, itF_2, itF_3, addF_1, addF_2, addF_3, intF_1, subF_1, modF_1, fdvF_1, powF_1, mulF_1, mulF_2, negF_1, ltF_1, leF_1, gtF_1, geF_1, atE_1, ixF_1, ixF_2, ixF_3, pxE_1, ixF_4, plE_1, lenF_4, eMt_e, cMt_1, eCut_e, cCut_1, cCut2_1, qNone_e, qSome_e, toI_1, cutF_1, cutF_2, cutF_3, cutF_4, eCallK_e, cK_1, cK2_1, eDic0_e, oCat_e, cCat_1, cCat2_1, cCat3_1, lsT_1, lsT_2, rcv_p, apE_1, appF_1, stL_app, set_app, stL_0, stL_k, stL_c, stL_s, set_0, set_k, shE_1, shF_1, lenF_1, lenF_2, lenF_3, absF_1, intOfF_1, intOfF_2, rng1F_1, rng2F_1, Ar_e, mkD_e, fin_1, fin_2, fin_3, few_e, tupOfF_1, tupOfF_2, tupOfF_3, lstOfF_1, lstOfF_2, lstOfF_3, isF_1, gStar_1, cIf_1, Option.isSome_some, List.length_map, List.length_append, List.append_assoc, Nat.add_assoc, slots, wpD, List.map_cons, List.map_nil, List.cons_append, List.nil_append, List.length_cons, List.length_nil, List.replicate, List.set_cons_succ, List.set_cons_zero, List.getElem?_cons_zero, List.getElem?_cons_succ, if_true, if_false, ite_true, ite_false, reduceIte, Nat.reduceAdd, Nat.reduceSub, Nat.reduceLeDiff, Nat.zero_add, Nat.sub_zero, Nat.sub_self, Bool.not_true, Bool.not_false, Bool.false_eq_true, decide_true, decide_false, Bool.true_and, Bool.and_true, Bool.or_true, Bool.true_or, Bool.false_and, Bool.and_false, Bool.or_false, Bool.false_or, decide_eq_true_eq, id_eq, Int.reduceLT, Int.reduceLE, Int.reduceNeg, Int.reduceAdd, Int.reduceSub, Int.reduceMul, Int.reduceMod, Int.reduceDiv, Int.reducePow, Int.reduceToNat, and_self, true_and, and_true, gStar_1, eqF_int, isiF_tup, isiF_lst, isiF_int, isiF_str, isiF_bl, at_0, gSet_e, seO_1, seI_1, lenF_5, addF_4, sxE_1, ixF_5, itF_4, max2F_e, min2F_e, eM1_c, cM1_1, oM1_c, cN1_1, intAnyF_b, intAnyF_s, strOfF_1, eqF_str, eqH_int, eqH_str, dvmF_1, gTwo_1, eIf_e, d_is_shape, b_is_shape, t1, t2, c1, c2, allF, lsS, blDs, hw, List.all, in_rr, hr]
        rfl
      | false =>
        by_cases hg : z = Str.ofString "grid"
        · simp (config := { decide := true }) only [bd_1, bd_2, bs_1, bs_2, sq_1, sq_2, sq_3, sq_4, sq_5, vr_1, ga_1, lcE_1, sSeq_e, sAsg_e, cAsg_1, sRet_e, cRt_1, sDrop_e, cDr_1, sIf_e, cIf_t, cIf_f, sSkip_e, sBrk_e, sCnt_e, sPar_e, cPar_1, cPar2_1, sFor_e, cFor_1, gVar_e, eVar_e, eC_e, eOp_e, cOp_1, eUn_e, aNil_e, aCons_e, cA_1, cA2_1, eCall_e, oCall_e, iCall_e, iVal_e, toB_1, bVal_e, bAnd_e, cAnd_1, bOr_e, cOr_1, bNot_e, cNot_1, eAnd_e, cEAnd_1, cEAnd2_1, eOr_e, cEOr_1, cEOr2_1, eNot_e, cENot_1, cENot2_1, eIf_e, cEIf_1, eChain_e, cCh_1, cCh1_1, cCh2_1, cCh3_1, eTup_e, cTup_1, oLst_e, cLst_1, eFz_e, cFz_1, ePtr_e, cPtr_1, oLc_e, cLc_1, eSh_e, itF_1, itF_2, itF_3, addF_1, addF_2, addF_3, intF_1, subF_1, modF_1, fdvF_1, powF_1, mulF_1, mulF_2, negF_1, ltF_1, leF_1, gtF_1, geF_1, atE_1, ixF_1, ixF_2, ixF_3, pxE_1, ixF_4, plE_1, lenF_4, eMt_e, cMt_1, eCut_e, cCut_1, cCut2_1, qNone_e, qSome_e, toI_1, cutF_1, cutF_2, cutF_3, cutF_4, eCallK_e, cK_1, cK2_1, eDic0_e, oCat_e, cCat_1, cCat2_1, cCat3_1, lsT_1, lsT_2, rcv_p, apE_1, appF_1, stL_app, set_app, stL_0, stL_k, stL_c, stL_s, set_0, set_k, shE_1, shF_1, lenF_1, lenF_2, lenF_3, absF_1, intOfF_1, intOfF_2, rng1F_1, rng2F_1, Ar_e, mkD_e, fin_1, fin_2, fin_3, few_e, tupOfF_1, tupOfF_2, tupOfF_3, lstOfF_1, lstOfF_2, lstOfF_3, isF_1, gStar_1, cIf_1, Option.isSome_some, List.length_map, List.length_append, List.append_assoc, Nat.add_assoc, slots, wpD, List.map_cons, List.map_nil, List.cons_append, List.nil_append, List.length_cons, List.length_nil, List.replicate, List.set_cons_succ, List.set_cons_zero, List.getElem?_cons_zero, List.getElem?_cons_succ, if_true, if_false, ite_true, ite_false, reduceIte, Nat.reduceAdd, Nat.reduceSub, Nat.reduceLeDiff, Nat.zero_add, Nat.sub_zero, Nat.sub_self, Bool.not_true, Bool.not_false, Bool.false_eq_true, decide_true, decide_false, Bool.true_and, Bool.and_true, Bool.or_true, Bool.true_or, Bool.false_and, Bool.and_false, Bool.or_false, Bool.false_or, decide_eq_true_eq, id_eq, Int.reduceLT, Int.reduceLE, Int.reduceNeg, Int.reduceAdd, Int.reduceSub, Int.reduceMul, Int.reduceMod, Int.reduceDiv, Int.reducePow, Int.reduceToNat, and_self, true_and, and_true, gStar_1, eqF_int, isiF_tup, isiF_lst, isiF_int, isiF_str, isiF_bl, at_0, gSet_e, seO_1, seI_1, lenF_5, addF_4, sxE_1, ixF_5, itF_4, max2F_e, min2F_e, eM1_c, cM1_1, oM1_c, cN1_1, intAnyF_b, intAnyF_s, strOfF_1, eqF_str, eqH_int, eqH_str, dvmF_1, gTwo_1, eIf_e, d_is_shape, b_is_shape, t1, t2, c1, c2, allF, lsS, blDs, hw, List.all, in_rr, hr, eq_true hg]
        · simp (config := { decide := true }) only [bd_1, bd_2, bs_1, bs_2, sq_1, sq_2, sq_3, sq_4, sq_5, vr_1, ga_1, lcE_1, sSeq_e, sAsg_e, cAsg_1, sRet_e, cRt_1, sDrop_e, cDr_1, sIf_e, cIf_t, cIf_f, sSkip_e, sBrk_e, sCnt_e, sPar_e, cPar_1, cPar2_1, sFor_e, cFor_1, gVar_e, eVar_e, eC_e, eOp_e, cOp_1, eUn_e, aNil_e, aCons_e, cA_1, cA2_1, eCall_e, oCall_e, iCall_e, iVal_e, toB_1, bVal_e, bAnd_e, cAnd_1, bOr_e, cOr_1, bNot_e, cNot_1, eAnd_e, cEAnd_1, cEAnd2_1, eOr_e, cEOr_1, cEOr2_1, eNot_e, cENot_1, cENot2_1, eIf_e, cEIf_1, eChain_e, cCh_1, cCh1_1, cCh2_1, cCh3_1, eTup_e, cTup_1, oLst_e, cLst_1, eFz_e, cFz_1, ePtr_e, cPtr_1, oLc_e, cLc_1, eSh_e, itF_1, itF_2, itF_3, addF_1, addF_2, addF_3, intF_1, subF_1, modF_1, fdvF_1, powF_1, mulF_1, mulF_2, negF_1, ltF_1, leF_1, gtF_1, geF_1, atE_1, ixF_1, ixF_2, ixF_3, pxE_1, ixF_4, plE_1, lenF_4, eMt_e, cMt_1, eCut_e, cCut_1, cCut2_1, qNone_e, qSome_e, toI_1, cutF_1, cutF_2, cutF_3, cutF_4, eCallK_e, cK_1, cK2_1, eDic0_e, oCat_e, cCat_1, cCat2_1, cCat3_1, lsT_1, lsT_2, rcv_p, apE_1, appF_1, stL_app, set_app, stL_0, stL_k, stL_c, stL_s, set_0, set_k, shE_1, shF_1, lenF_1, lenF_2, lenF_3, absF_1, intOfF_1, intOfF_2, rng1F_1, rng2F_1, Ar_e, mkD_e, fin_1, fin_2, fin_3, few_e, tupOfF_1, tupOfF_2, tupOfF_3, lstOfF_1, lstOfF_2, lstOfF_3, isF_1, gStar_1, cIf_1, Option.isSome_some, List.length_map, List.length_append, List.append_assoc, Nat.add_assoc, slots, wpD, List.map_cons, List.map_nil, List.cons_append, List.nil_append, List.length_cons, List.length_nil, List.replicate, List.set_cons_succ, List.set_cons_zero, List.getElem?_cons_zero, List.getElem?_cons_succ, if_true, if_false, ite_true, ite_false, reduceIte, Nat.reduceAdd, Nat.reduceSub, Nat.reduceLeDiff, Nat.zero_add, Nat.sub_zero, Nat.sub_self, Bool.not_true, Bool.not_false, Bool.false_eq_true, decide_true, decide_false, Bool.true_and, Bool.and_true, Bool.or_true, Bool.true_or, Bool.false_and, Bool.and_false, Bool.or_false, Bool.false_or, decide_eq_true_eq, id_eq, Int.reduceLT, Int.reduceLE, Int.reduceNeg, Int.reduceAdd, Int.reduceSub, Int.reduceMul, Int.reduceMod, Int.reduceDiv, Int.reducePow, Int.reduceToNat, and_self, true_and, and_true, gStar_1, eqF_int, isiF_tup, isiF_lst, isiF_int, isiF_str, isiF_bl, at_0, gSet_e, seO_1, seI_1, lenF_5, addF_4, sxE_1, ixF_5, itF_4, max2F_e, min2F_e, eM1_c, cM1_1, oM1_c, cN1_1, intAnyF_b, intAnyF_s, strOfF_1, eqF_str, eqH_int, eqH_str, dvmF_1, gTwo_1, eIf_e, d_is_shape, b_is_shape, t1, t2, c1, c2, allF, lsS, blDs, hw, List.all, in_rr, hr, eq_false hg]
    · simp (config := { decide := true }) only [bd_1, bd_2, bs_1, bs_2, sq_1, sq_2, sq_3, sq_4, sq_5, vr_1, ga_1, lcE_1, sSeq_e, sAsg_e, cAsg_1, sRet_e, cRt_1, sDrop_e, cDr_1, sIf_e, cIf_t, cIf_f, sSkip_e, sBrk_e, sCnt_e, sPar_e, cPar_1, cPar2_1, sFor_e, cFor_1, gVar_e, eVar_e, eC_e, eOp_e, cOp_1, eUn_e, aNil_e, aCons_e, cA_1, cA2_1, eCall_e, oCall_e, iCall_e, iVal_e, toB_1, bVal_e, bAnd_e, cAnd_1, bOr_e, cOr_1, bNot_e, cNot_1, eAnd_e, cEAnd_1, cEAnd2_1, eOr_e, cEOr_1, cEOr2_1, eNot_e, cENot_1, cENot2_1, eIf_e, cEIf_1, eChain_e, cCh_1, cCh1_1, cCh2_1, cCh3_1, eTup_e, cTup_1, oLst_e, cLst_1, eFz_e, cFz_1, ePtr_e, cPtr_1, oLc_e, cLc_1, eSh_e, itF_1, itF_2, itF_3, addF_1, addF_2, addF_3, intF_1, subF_1, modF_1, fdvF_1, powF_1, mulF_1, mulF_2, negF_1, ltF_1, leF_1, gtF_1, geF_1, atE_1, ixF_1, ixF_2, ixF_3, pxE_1, ixF_4, plE_1, lenF_4, eMt_e, cMt_1, eCut_e, cCut_1, cCut2_1, qNone_e, qSome_e, toI_1, cutF_1, cutF_2, cutF_3, cutF_4, eCallK_e, cK_1, cK2_1, eDic0_e, oCat_e, cCat_1, cCat2_1, cCat3_1, lsT_1, lsT_2, rcv_p, apE_1, appF_1, stL_app, set_app, stL_0, stL_k, stL_c, stL_s, set_0, set_k, shE_1, shF_1, lenF_1, lenF_2, lenF_3, absF_1, intOfF_1, intOfF_2, rng1F_1, rng2F_1, Ar_e, mkD_e, fin_1, fin_2, fin_3, few_e, tupOfF_1, tupOfF_2, tupOfF_3, lstOfF_1, lstOfF_2, lstOfF_3, isF_1, gStar_1, cIf_1, Option.isSome_some, List.length_map, List.length_append, List.append_assoc, Nat.add_assoc, slots, wpD, List.map_cons, List.map_nil, List.cons_append, List.nil_append, List.length_cons, List.length_nil, List.replicate, List.set_cons_succ, List.set_cons_zero, List.getElem?_cons_zero, List.getElem?_cons_succ, if_true, if_false, ite_true, ite_false, reduceIte, Nat.reduceAdd, Nat.reduceSub, Nat.reduceLeDiff, Nat.zero_add, Nat.sub_zero, Nat.sub_self, Bool.not_true, Bool.not_false, Bool.false_eq_true, decide_true, decide_false, Bool.true_and, Bool.and_true, Bool.or_true, Bool.true_or, Bool.false_and, Bool.and_false, Bool.or_false, Bool.false_or, decide_eq_true_eq, id_eq, Int.reduceLT, Int.reduceLE, Int.reduceNeg, Int.reduceAdd, Int.reduceSub, Int.reduceMul, Int.reduceMod, Int.reduceDiv, Int.reducePow, Int.reduceToNat, and_self, true_and, and_true, gStar_1, eqF_int, isiF_tup, isiF_lst, isiF_int, isiF_str, isiF_bl, at_0, gSet_e, seO_1, seI_1, lenF_5, addF_4, sxE_1, ixF_5, itF_4, max2F_e, min2F_e, eM1_c, cM1_1, oM1_c, cN1_1, intAnyF_b, intAnyF_s, strOfF_1, eqF_str, eqH_int, eqH_str, dvmF_1, gTwo_1, eIf_e, d__law_is_shape, b__law_is_shape, t1, t2, in23, v2, c1, c3, e0, List.isEmpty, in_rr]
theorem three_eq (z : Str) (d e : D) (hd : Item d) (he : Item e) (S : ST) : ∃ b, d_is_shape [.tup [.str z, d, e]] S = some (.ok (.bl b), S) ∧ d__law_is_shape [.tup [.str z, d, e]] S = some (.ok (.bl b), S) := by
  have hi : ∀ x ∈ [d, e], Item x := by simpa using ⟨hd, he⟩
  have c1 := cut1 (.str z) [d, e]
  have c2 := cm_is (x := some (.tup [.str z, d, e])) S [d, e] hi
  have c3 := cm_law (x := some (.tup [.str z, d, e])) S [d, e] hi
  have v2 : inV (.int 3) [.int 2, .int 3] = true := by decide +kernel
  have t1 : isaB "tuple" "tuple" = true := by decide
  have t2 : isaB "str" "str" = true := by decide
  by_cases hw : wh d = true ∧ wh e = true
  · obtain ⟨hw1, hw2⟩ := hw
    obtain ⟨i, rfl, i1, i2⟩ := wh_int hw1
    obtain ⟨j, rfl, j1, j2⟩ := wh_int hw2
    have f1 : [D.int i, D.int j].filter (fun d => !wh d) = [] := by simp [hw1, hw2]
    rw [f1] at c3
    have e0 := eqH_nil (f := not) (S := S) (ds := []) (by simp)
    have a1 : atI [D.str z, .int i, .int j] 1 = some (.int i) := rfl
    have a2 : atI [D.str z, .int i, .int j] 2 = some (.int j) := rfl
    have m1 : -18446744073709551616 < i := by omega
    have m2 : i < 18446744073709551616 := by omega
    have l3 : (((3 : Nat) : Int) == 2) = false := by decide
    have l4 : (((3 : Nat) : Int) == 3) = true := by decide
    have lt : (i * j < 13) ↔ (i * j ≤ 12) := by omega
    cases hr : rr z with
    | true =>
      have hg := rr_grid z hr
      refine ⟨false, ?_, ?_⟩
      · simp (config := { decide := true }) only [bd_1, bd_2, bs_1, bs_2, sq_1, sq_2, sq_3, sq_4, sq_5, vr_1, ga_1, lcE_1, sSeq_e, sAsg_e, cAsg_1, sRet_e, cRt_1, sDrop_e, cDr_1, sIf_e, cIf_t, cIf_f, sSkip_e, sBrk_e, sCnt_e, sPar_e, cPar_1, cPar2_1, sFor_e, cFor_1, gVar_e, eVar_e, eC_e, eOp_e, cOp_1, eUn_e, aNil_e, aCons_e, cA_1, cA2_1, eCall_e, oCall_e, iCall_e, iVal_e, toB_1, bVal_e, bAnd_e, cAnd_1, bOr_e, cOr_1, bNot_e, cNot_1, eAnd_e, cEAnd_1, cEAnd2_1, eOr_e, cEOr_1, cEOr2_1, eNot_e, cENot_1, cENot2_1, eIf_e, cEIf_1, eChain_e, cCh_1, cCh1_1, cCh2_1, cCh3_1, eTup_e, cTup_1, oLst_e, cLst_1, eFz_e, cFz_1, ePtr_e, cPtr_1, oLc_e, cLc_1, eSh_e, itF_1, itF_2, itF_3, addF_1, addF_2, addF_3, intF_1, subF_1, modF_1, fdvF_1, powF_1, mulF_1, mulF_2, negF_1, ltF_1, leF_1, gtF_1, geF_1, atE_1, ixF_1, ixF_2, ixF_3, pxE_1, ixF_4, plE_1, lenF_4, eMt_e, cMt_1, eCut_e, cCut_1, cCut2_1, qNone_e, qSome_e, toI_1, cutF_1, cutF_2, cutF_3, cutF_4, eCallK_e, cK_1, cK2_1, eDic0_e, oCat_e, cCat_1, cCat2_1, cCat3_1, lsT_1, lsT_2, rcv_p, apE_1, appF_1, stL_app, set_app, stL_0, stL_k, stL_c, stL_s, set_0, set_k, shE_1, shF_1, lenF_1, lenF_2, lenF_3, absF_1, intOfF_1, intOfF_2, rng1F_1, rng2F_1, Ar_e, mkD_e, fin_1, fin_2, fin_3, few_e, tupOfF_1, tupOfF_2, tupOfF_3, lstOfF_1, lstOfF_2, lstOfF_3, isF_1, gStar_1, cIf_1, Option.isSome_some, List.length_map, List.length_append, List.append_assoc, Nat.add_assoc, slots, wpD, List.map_cons, List.map_nil, List.cons_append, List.nil_append, List.length_cons, List.length_nil, List.replicate, List.set_cons_succ, List.set_cons_zero, List.getElem?_cons_zero, List.getElem?_cons_succ, if_true, if_false, ite_true, ite_false, reduceIte, Nat.reduceAdd, Nat.reduceSub, Nat.reduceLeDiff, Nat.zero_add, Nat.sub_zero, Nat.sub_self, Bool.not_true, Bool.not_false, Bool.false_eq_true, decide_true, decide_false, Bool.true_and, Bool.and_true, Bool.or_true, Bool.true_or, Bool.false_and, Bool.and_false, Bool.or_false, Bool.false_or, decide_eq_true_eq, id_eq, Int.reduceLT, Int.reduceLE, Int.reduceNeg, Int.reduceAdd, Int.reduceSub, Int.reduceMul, Int.reduceMod, Int.reduceDiv, Int.reducePow, Int.reduceToNat, and_self, true_and, and_true, gStar_1, eqF_int, isiF_tup, isiF_lst, isiF_int, isiF_str, isiF_bl, at_0, gSet_e, seO_1, seI_1, lenF_5, addF_4, sxE_1, ixF_5, itF_4, max2F_e, min2F_e, eM1_c, cM1_1, oM1_c, cN1_1, intAnyF_b, intAnyF_s, strOfF_1, eqF_str, eqH_int, eqH_str, dvmF_1, gTwo_1, eIf_e, d_is_shape, b_is_shape, t1, t2, c1, c2, allF, lsS, blDs, hw1, hw2, List.all, in_rr, hr, l3]
      · simp (config := { decide := true }) only [bd_1, bd_2, bs_1, bs_2, sq_1, sq_2, sq_3, sq_4, sq_5, vr_1, ga_1, lcE_1, sSeq_e, sAsg_e, cAsg_1, sRet_e, cRt_1, sDrop_e, cDr_1, sIf_e, cIf_t, cIf_f, sSkip_e, sBrk_e, sCnt_e, sPar_e, cPar_1, cPar2_1, sFor_e, cFor_1, gVar_e, eVar_e, eC_e, eOp_e, cOp_1, eUn_e, aNil_e, aCons_e, cA_1, cA2_1, eCall_e, oCall_e, iCall_e, iVal_e, toB_1, bVal_e, bAnd_e, cAnd_1, bOr_e, cOr_1, bNot_e, cNot_1, eAnd_e, cEAnd_1, cEAnd2_1, eOr_e, cEOr_1, cEOr2_1, eNot_e, cENot_1, cENot2_1, eIf_e, cEIf_1, eChain_e, cCh_1, cCh1_1, cCh2_1, cCh3_1, eTup_e, cTup_1, oLst_e, cLst_1, eFz_e, cFz_1, ePtr_e, cPtr_1, oLc_e, cLc_1, eSh_e, itF_1, itF_2, itF_3, addF_1, addF_2, addF_3, intF_1, subF_1, modF_1, fdvF_1, powF_1, mulF_1, mulF_2, negF_1, ltF_1, leF_1, gtF_1, geF_1, atE_1, ixF_1, ixF_2, ixF_3, pxE_1, ixF_4, plE_1, lenF_4, eMt_e, cMt_1, eCut_e, cCut_1, cCut2_1, qNone_e, qSome_e, toI_1, cutF_1, cutF_2, cutF_3, cutF_4, eCallK_e, cK_1, cK2_1, eDic0_e, oCat_e, cCat_1, cCat2_1, cCat3_1, lsT_1, lsT_2, rcv_p, apE_1, appF_1, stL_app, set_app, stL_0, stL_k, stL_c, stL_s, set_0, set_k, shE_1, shF_1, lenF_1, lenF_2, lenF_3, absF_1, intOfF_1, intOfF_2, rng1F_1, rng2F_1, Ar_e, mkD_e, fin_1, fin_2, fin_3, few_e, tupOfF_1, tupOfF_2, tupOfF_3, lstOfF_1, lstOfF_2, lstOfF_3, isF_1, gStar_1, cIf_1, Option.isSome_some, List.length_map, List.length_append, List.append_assoc, Nat.add_assoc, slots, wpD, List.map_cons, List.map_nil, List.cons_append, List.nil_append, List.length_cons, List.length_nil, List.replicate, List.set_cons_succ, List.set_cons_zero, List.getElem?_cons_zero, List.getElem?_cons_succ, if_true, if_false, ite_true, ite_false, reduceIte, Nat.reduceAdd, Nat.reduceSub, Nat.reduceLeDiff, Nat.zero_add, Nat.sub_zero, Nat.sub_self, Bool.not_true, Bool.not_false, Bool.false_eq_true, decide_true, decide_false, Bool.true_and, Bool.and_true, Bool.or_true, Bool.true_or, Bool.false_and, Bool.and_false, Bool.or_false, Bool.false_or, decide_eq_true_eq, id_eq, Int.reduceLT, Int.reduceLE, Int.reduceNeg, Int.reduceAdd, Int.reduceSub, Int.reduceMul, Int.reduceMod, Int.reduceDiv, Int.reducePow, Int.reduceToNat, and_self, true_and, and_true, gStar_1, eqF_int, isiF_tup, isiF_lst, isiF_int, isiF_str, isiF_bl, at_0, gSet_e, seO_1, seI_1, lenF_5, addF_4, sxE_1, ixF_5, itF_4, max2F_e, min2F_e, eM1_c, cM1_1, oM1_c, cN1_1, intAnyF_b, intAnyF_s, strOfF_1, eqF_str, eqH_int, eqH_str, dvmF_1, gTwo_1, eIf_e, d__law_is_shape, b__law_is_shape, t1, t2, in23, v2, c1, c3, e0, List.isEmpty, in_rr, l3, eq_false hg]
    | false =>
      by_cases hg : z = Str.ofString "grid"
      · refine ⟨decide (i * j ≤ 12), ?_, ?_⟩
        · simp (config := { decide := true }) only [bd_1, bd_2, bs_1, bs_2, sq_1, sq_2, sq_3, sq_4, sq_5, vr_1, ga_1, lcE_1, sSeq_e, sAsg_e, cAsg_1, sRet_e, cRt_1, sDrop_e, cDr_1, sIf_e, cIf_t, cIf_f, sSkip_e, sBrk_e, sCnt_e, sPar_e, cPar_1, cPar2_1, sFor_e, cFor_1, gVar_e, eVar_e, eC_e, eOp_e, cOp_1, eUn_e, aNil_e, aCons_e, cA_1, cA2_1, eCall_e, oCall_e, iCall_e, iVal_e, toB_1, bVal_e, bAnd_e, cAnd_1, bOr_e, cOr_1, bNot_e, cNot_1, eAnd_e, cEAnd_1, cEAnd2_1, eOr_e, cEOr_1, cEOr2_1, eNot_e, cENot_1, cENot2_1, eIf_e, cEIf_1, eChain_e, cCh_1, cCh1_1, cCh2_1, cCh3_1, eTup_e, cTup_1, oLst_e, cLst_1, eFz_e, cFz_1, ePtr_e, cPtr_1, oLc_e, cLc_1, eSh_e, itF_1, itF_2, itF_3, addF_1, addF_2, addF_3, intF_1, subF_1, modF_1, fdvF_1, powF_1, mulF_1, mulF_2, negF_1, ltF_1, leF_1, gtF_1, geF_1, atE_1, ixF_1, ixF_2, ixF_3, pxE_1, ixF_4, plE_1, lenF_4, eMt_e, cMt_1, eCut_e, cCut_1, cCut2_1, qNone_e, qSome_e, toI_1, cutF_1, cutF_2, cutF_3, cutF_4, eCallK_e, cK_1, cK2_1, eDic0_e, oCat_e, cCat_1, cCat2_1, cCat3_1, lsT_1, lsT_2, rcv_p, apE_1, appF_1, stL_app, set_app, stL_0, stL_k, stL_c, stL_s, set_0, set_k, shE_1, shF_1, lenF_1, lenF_2, lenF_3, absF_1, intOfF_1, intOfF_2, rng1F_1, rng2F_1, Ar_e, mkD_e, fin_1, fin_2, fin_3, few_e, tupOfF_1, tupOfF_2, tupOfF_3, lstOfF_1, lstOfF_2, lstOfF_3, isF_1, gStar_1, cIf_1, Option.isSome_some, List.length_map, List.length_append, List.append_assoc, Nat.add_assoc, slots, wpD, List.map_cons, List.map_nil, List.cons_append, List.nil_append, List.length_cons, List.length_nil, List.replicate, List.set_cons_succ, List.set_cons_zero, List.getElem?_cons_zero, List.getElem?_cons_succ, if_true, if_false, ite_true, ite_false, reduceIte, Nat.reduceAdd, Nat.reduceSub, Nat.reduceLeDiff, Nat.zero_add, Nat.sub_zero, Nat.sub_self, Bool.not_true, Bool.not_false, Bool.false_eq_true, decide_true, decide_false, Bool.true_and, Bool.and_true, Bool.or_true, Bool.true_or, Bool.false_and, Bool.and_false, Bool.or_false, Bool.false_or, decide_eq_true_eq, id_eq, Int.reduceLT, Int.reduceLE, Int.reduceNeg, Int.reduceAdd, Int.reduceSub, Int.reduceMul, Int.reduceMod, Int.reduceDiv, Int.reducePow, Int.reduceToNat, and_self, true_and, and_true, gStar_1, eqF_int, isiF_tup, isiF_lst, isiF_int, isiF_str, isiF_bl, at_0, gSet_e, seO_1, seI_1, lenF_5, addF_4, sxE_1, ixF_5, itF_4, max2F_e, min2F_e, eM1_c, cM1_1, oM1_c, cN1_1, intAnyF_b, intAnyF_s, strOfF_1, eqF_str, eqH_int, eqH_str, dvmF_1, gTwo_1, eIf_e, d_is_shape, b_is_shape, t1, t2, c1, c2, allF, lsS, blDs, hw1, hw2, List.all, in_rr, hr, l4, eq_true hg, a1, a2, m1, m2]
        · simp (config := { decide := true }) only [bd_1, bd_2, bs_1, bs_2, sq_1, sq_2, sq_3, sq_4, sq_5, vr_1, ga_1, lcE_1, sSeq_e, sAsg_e, cAsg_1, sRet_e, cRt_1, sDrop_e, cDr_1, sIf_e, cIf_t, cIf_f, sSkip_e, sBrk_e, sCnt_e, sPar_e, cPar_1, cPar2_1, sFor_e, cFor_1, gVar_e, eVar_e, eC_e, eOp_e, cOp_1, eUn_e, aNil_e, aCons_e, cA_1, cA2_1, eCall_e, oCall_e, iCall_e, iVal_e, toB_1, bVal_e, bAnd_e, cAnd_1, bOr_e, cOr_1, bNot_e, cNot_1, eAnd_e, cEAnd_1, cEAnd2_1, eOr_e, cEOr_1, cEOr2_1, eNot_e, cENot_1, cENot2_1, eIf_e, cEIf_1, eChain_e, cCh_1, cCh1_1, cCh2_1, cCh3_1, eTup_e, cTup_1, oLst_e, cLst_1, eFz_e, cFz_1, ePtr_e, cPtr_1, oLc_e, cLc_1, eSh_e, itF_1, itF_2, itF_3, addF_1, addF_2, addF_3, intF_1, subF_1, modF_1, fdvF_1, powF_1, mulF_1, mulF_2, negF_1, ltF_1, leF_1, gtF_1, geF_1, atE_1, ixF_1, ixF_2, ixF_3, pxE_1, ixF_4, plE_1, lenF_4, eMt_e, cMt_1, eCut_e, cCut_1, cCut2_1, qNone_e, qSome_e, toI_1, cutF_1, cutF_2, cutF_3, cutF_4, eCallK_e, cK_1, cK2_1, eDic0_e, oCat_e, cCat_1, cCat2_1, cCat3_1, lsT_1, lsT_2, rcv_p, apE_1, appF_1, stL_app, set_app, stL_0, stL_k, stL_c, stL_s, set_0, set_k, shE_1, shF_1, lenF_1, lenF_2, lenF_3, absF_1, intOfF_1, intOfF_2, rng1F_1, rng2F_1, Ar_e, mkD_e, fin_1, fin_2, fin_3, few_e, tupOfF_1, tupOfF_2, tupOfF_3, lstOfF_1, lstOfF_2, lstOfF_3, isF_1, gStar_1, cIf_1, Option.isSome_some, List.length_map, List.length_append, List.append_assoc, Nat.add_assoc, slots, wpD, List.map_cons, List.map_nil, List.cons_append, List.nil_append, List.length_cons, List.length_nil, List.replicate, List.set_cons_succ, List.set_cons_zero, List.getElem?_cons_zero, List.getElem?_cons_succ, if_true, if_false, ite_true, ite_false, reduceIte, Nat.reduceAdd, Nat.reduceSub, Nat.reduceLeDiff, Nat.zero_add, Nat.sub_zero, Nat.sub_self, Bool.not_true, Bool.not_false, Bool.false_eq_true, decide_true, decide_false, Bool.true_and, Bool.and_true, Bool.or_true, Bool.true_or, Bool.false_and, Bool.and_false, Bool.or_false, Bool.false_or, decide_eq_true_eq, id_eq, Int.reduceLT, Int.reduceLE, Int.reduceNeg, Int.reduceAdd, Int.reduceSub, Int.reduceMul, Int.reduceMod, Int.reduceDiv, Int.reducePow, Int.reduceToNat, and_self, true_and, and_true, gStar_1, eqF_int, isiF_tup, isiF_lst, isiF_int, isiF_str, isiF_bl, at_0, gSet_e, seO_1, seI_1, lenF_5, addF_4, sxE_1, ixF_5, itF_4, max2F_e, min2F_e, eM1_c, cM1_1, oM1_c, cN1_1, intAnyF_b, intAnyF_s, strOfF_1, eqF_str, eqH_int, eqH_str, dvmF_1, gTwo_1, eIf_e, d__law_is_shape, b__law_is_shape, t1, t2, in23, v2, c1, c3, e0, List.isEmpty, l3, eq_true hg, a1, a2, m1, m2, lt]
      · refine ⟨false, ?_, ?_⟩
        · simp (config := { decide := true }) only [bd_1, bd_2, bs_1, bs_2, sq_1, sq_2, sq_3, sq_4, sq_5, vr_1, ga_1, lcE_1, sSeq_e, sAsg_e, cAsg_1, sRet_e, cRt_1, sDrop_e, cDr_1, sIf_e, cIf_t, cIf_f, sSkip_e, sBrk_e, sCnt_e, sPar_e, cPar_1, cPar2_1, sFor_e, cFor_1, gVar_e, eVar_e, eC_e, eOp_e, cOp_1, eUn_e, aNil_e, aCons_e, cA_1, cA2_1, eCall_e, oCall_e, iCall_e, iVal_e, toB_1, bVal_e, bAnd_e, cAnd_1, bOr_e, cOr_1, bNot_e, cNot_1, eAnd_e, cEAnd_1, cEAnd2_1, eOr_e, cEOr_1, cEOr2_1, eNot_e, cENot_1, cENot2_1, eIf_e, cEIf_1, eChain_e, cCh_1, cCh1_1, cCh2_1, cCh3_1, eTup_e, cTup_1, oLst_e, cLst_1, eFz_e, cFz_1, ePtr_e, cPtr_1, oLc_e, cLc_1, eSh_e, itF_1, itF_2, itF_3, addF_1, addF_2, addF_3, intF_1, subF_1, modF_1, fdvF_1, powF_1, mulF_1, mulF_2, negF_1, ltF_1, leF_1, gtF_1, geF_1, atE_1, ixF_1, ixF_2, ixF_3, pxE_1, ixF_4, plE_1, lenF_4, eMt_e, cMt_1, eCut_e, cCut_1, cCut2_1, qNone_e, qSome_e, toI_1, cutF_1, cutF_2, cutF_3, cutF_4, eCallK_e, cK_1, cK2_1, eDic0_e, oCat_e, cCat_1, cCat2_1, cCat3_1, lsT_1, lsT_2, rcv_p, apE_1, appF_1, stL_app, set_app, stL_0, stL_k, stL_c, stL_s, set_0, set_k, shE_1, shF_1, lenF_1, lenF_2, lenF_3, absF_1, intOfF_1, intOfF_2, rng1F_1, rng2F_1, Ar_e, mkD_e, fin_1, fin_2, fin_3, few_e, tupOfF_1, tupOfF_2, tupOfF_3, lstOfF_1, lstOfF_2, lstOfF_3, isF_1, gStar_1, cIf_1, Option.isSome_some, List.length_map, List.length_append, List.append_assoc, Nat.add_assoc, slots, wpD, List.map_cons, List.map_nil, List.cons_append, List.nil_append, List.length_cons, List.length_nil, List.replicate, List.set_cons_succ, List.set_cons_zero, List.getElem?_cons_zero, List.getElem?_cons_succ, if_true, if_false, ite_true, ite_false, reduceIte, Nat.reduceAdd, Nat.reduceSub, Nat.reduceLeDiff, Nat.zero_add, Nat.sub_zero, Nat.sub_self, Bool.not_true, Bool.not_false, Bool.false_eq_true, decide_true, decide_false, Bool.true_and, Bool.and_true, Bool.or_true, Bool.true_or, Bool.false_and, Bool.and_false, Bool.or_false, Bool.false_or, decide_eq_true_eq, id_eq, Int.reduceLT, Int.reduceLE, Int.reduceNeg, Int.reduceAdd, Int.reduceSub, Int.reduceMul, Int.reduceMod, Int.reduceDiv, Int.reducePow, Int.reduceToNat, and_self, true_and, and_true, gStar_1, eqF_int, isiF_tup, isiF_lst, isiF_int, isiF_str, isiF_bl, at_0, gSet_e, seO_1, seI_1, lenF_5, addF_4, sxE_1, ixF_5, itF_4, max2F_e, min2F_e, eM1_c, cM1_1, oM1_c, cN1_1, intAnyF_b, intAnyF_s, strOfF_1, eqF_str, eqH_int, eqH_str, dvmF_1, gTwo_1, eIf_e, d_is_shape, b_is_shape, t1, t2, c1, c2, allF, lsS, blDs, hw1, hw2, List.all, in_rr, hr, eq_false hg]
        · simp (config := { decide := true }) only [bd_1, bd_2, bs_1, bs_2, sq_1, sq_2, sq_3, sq_4, sq_5, vr_1, ga_1, lcE_1, sSeq_e, sAsg_e, cAsg_1, sRet_e, cRt_1, sDrop_e, cDr_1, sIf_e, cIf_t, cIf_f, sSkip_e, sBrk_e, sCnt_e, sPar_e, cPar_1, cPar2_1, sFor_e, cFor_1, gVar_e, eVar_e, eC_e, eOp_e, cOp_1, eUn_e, aNil_e, aCons_e, cA_1, cA2_1, eCall_e, oCall_e, iCall_e, iVal_e, toB_1, bVal_e, bAnd_e, cAnd_1, bOr_e, cOr_1, bNot_e, cNot_1, eAnd_e, cEAnd_1, cEAnd2_1, eOr_e, cEOr_1, cEOr2_1, eNot_e, cENot_1, cENot2_1, eIf_e, cEIf_1, eChain_e, cCh_1, cCh1_1, cCh2_1, cCh3_1, eTup_e, cTup_1, oLst_e, cLst_1, eFz_e, cFz_1, ePtr_e, cPtr_1, oLc_e, cLc_1, eSh_e, itF_1, itF_2, itF_3, addF_1, addF_2, addF_3, intF_1, subF_1, modF_1, fdvF_1, powF_1, mulF_1, mulF_2, negF_1, ltF_1, leF_1, gtF_1, geF_1, atE_1, ixF_1, ixF_2, ixF_3, pxE_1, ixF_4, plE_1, lenF_4, eMt_e, cMt_1, eCut_e, cCut_1, cCut2_1, qNone_e, qSome_e, toI_1, cutF_1, cutF_2, cutF_3, cutF_4, eCallK_e, cK_1, cK2_1, eDic0_e, oCat_e, cCat_1, cCat2_1, cCat3_1, lsT_1, lsT_2, rcv_p, apE_1, appF_1, stL_app, set_app, stL_0, stL_k, stL_c, stL_s, set_0, set_k, shE_1, shF_1, lenF_1, lenF_2, lenF_3, absF_1, intOfF_1, intOfF_2, rng1F_1, rng2F_1, Ar_e, mkD_e, fin_1, fin_2, fin_3, few_e, tupOfF_1, tupOfF_2, tupOfF_3, lstOfF_1, lstOfF_2, lstOfF_3, isF_1, gStar_1, cIf_1, Option.isSome_some, List.length_map, List.length_append, List.append_assoc, Nat.add_assoc, slots, wpD, List.map_cons, List.map_nil, List.cons_append, List.nil_append, List.length_cons, List.length_nil, List.replicate, List.set_cons_succ, List.set_cons_zero, List.getElem?_cons_zero, List.getElem?_cons_succ, if_true, if_false, ite_true, ite_false, reduceIte, Nat.reduceAdd, Nat.reduceSub, Nat.reduceLeDiff, Nat.zero_add, Nat.sub_zero, Nat.sub_self, Bool.not_true, Bool.not_false, Bool.false_eq_true, decide_true, decide_false, Bool.true_and, Bool.and_true, Bool.or_true, Bool.true_or, Bool.false_and, Bool.and_false, Bool.or_false, Bool.false_or, decide_eq_true_eq, id_eq, Int.reduceLT, Int.reduceLE, Int.reduceNeg, Int.reduceAdd, Int.reduceSub, Int.reduceMul, Int.reduceMod, Int.reduceDiv, Int.reducePow, Int.reduceToNat, and_self, true_and, and_true, gStar_1, eqF_int, isiF_tup, isiF_lst, isiF_int, isiF_str, isiF_bl, at_0, gSet_e, seO_1, seI_1, lenF_5, addF_4, sxE_1, ixF_5, itF_4, max2F_e, min2F_e, eM1_c, cM1_1, oM1_c, cN1_1, intAnyF_b, intAnyF_s, strOfF_1, eqF_str, eqH_int, eqH_str, dvmF_1, gTwo_1, eIf_e, d__law_is_shape, b__law_is_shape, t1, t2, in23, v2, c1, c3, e0, List.isEmpty, l3, eq_false hg]
  · have f1 : ([d, e].filter (fun d => !wh d)).isEmpty = false := by
      rw [List.isEmpty_eq_false_iff]
      intro q
      have := List.filter_eq_nil_iff.mp q
      exact hw ⟨by simpa using this d (by simp), by simpa using this e (by simp)⟩
    have hf : ∀ x ∈ [d, e].filter (fun d => !wh d), Item x := fun x hx => hi x (List.mem_filter.mp hx).1
    have e0 := eqH_nil (f := not) (S := S) hf
    rw [f1] at e0
    have al : ([d, e].map wh).all id = false := by
      rw [Bool.eq_false_iff]
      intro q
      have := List.all_eq_true.mp q
      exact hw ⟨by simpa using this (wh d) (by simp), by simpa using this (wh e) (by simp)⟩
    have al2 : allF (fun bs => bs.all id) [.lst (([d, e].map wh).map D.bl)] S = some (.ok (.bl false), S) := by
      unfold allF
      simp only [lsS, blDs_map, al]
    have lf : ([d, e].filter (fun d => !wh d)).length ≤ 100000 := Nat.le_trans (List.length_filter_le ..) (by simp)
    have lb : (([d, e].map wh).map D.bl).length ≤ 100000 := by simp
    generalize [d, e].filter (fun d => !wh d) = fl at *
    generalize ([d, e].map wh).map D.bl = bl at *
    refine ⟨false, ?_, ?_⟩
    · simp (config := { decide := true }) only [bd_1, bd_2, bs_1, bs_2, sq_1, sq_2, sq_3, sq_4, sq_5, vr_1, ga_1, lcE_1, sSeq_e, sAsg_e, cAsg_1, sRet_e, cRt_1, sDrop_e, cDr_1, sIf_e, cIf_t, cIf_f, sSkip_e, sBrk_e, sCnt_e, sPar_e, cPar_1, cPar2_1, sFor_e, cFor_1, gVar_e, eVar_e, eC_e, eOp_e, cOp_1, eUn_e, aNil_e, aCons_e, cA_1, cA2_1, eCall_e, oCall_e, iCall_e, iVal_e, toB_1, bVal_e, bAnd_e, cAnd_1, bOr_e, cOr_1, bNot_e, cNot_1, eAnd_e, cEAnd_1, cEAnd2_1, eOr_e, cEOr_1, cEOr2_1, eNot_e, cENot_1, cENot2_1, eIf_e, cEIf_1, eChain_e, cCh_1, cCh1_1, cCh2_1, cCh3_1, eTup_e, cTup_1, oLst_e, cLst_1, eFz_e, cFz_1, ePtr_e, cPtr_1, oLc_e, cLc_1, eSh_e, itF_1, itF_2, itF_3, addF_1, addF_2, addF_3, intF_1, subF_1, modF_1, fdvF_1, powF_1, mulF_1, mulF_2, negF_1, ltF_1, leF_1, gtF_1, geF_1, atE_1, ixF_1, ixF_2, ixF_3, pxE_1, ixF_4, plE_1, lenF_4, eMt_e, cMt_1, eCut_e, cCut_1, cCut2_1, qNone_e, qSome_e, toI_1, cutF_1, cutF_2, cutF_3, cutF_4, eCallK_e, cK_1, cK2_1, eDic0_e, oCat_e, cCat_1, cCat2_1, cCat3_1, lsT_1, lsT_2, rcv_p, apE_1, appF_1, stL_app, set_app, stL_0, stL_k, stL_c, stL_s, set_0, set_k, shE_1, shF_1, lenF_1, lenF_2, lenF_3, absF_1, intOfF_1, intOfF_2, rng1F_1, rng2F_1, Ar_e, mkD_e, fin_1, fin_2, fin_3, few_e, tupOfF_1, tupOfF_2, tupOfF_3, lstOfF_1, lstOfF_2, lstOfF_3, isF_1, gStar_1, cIf_1, Option.isSome_some, List.length_map, List.length_append, List.append_assoc, Nat.add_assoc, slots, wpD, List.map_cons, List.map_nil, List.cons_append, List.nil_append, List.length_cons, List.length_nil, List.replicate, List.set_cons_succ, List.set_cons_zero, List.getElem?_cons_zero, List.getElem?_cons_succ, if_true, if_false, ite_true, ite_false, reduceIte, Nat.reduceAdd, Nat.reduceSub, Nat.reduceLeDiff, Nat.zero_add, Nat.sub_zero, Nat.sub_self, Bool.not_true, Bool.not_false, Bool.false_eq_true, decide_true, decide_false, Bool.true_and, Bool.and_true, Bool.or_true, Bool.true_or, Bool.false_and, Bool.and_false, Bool.or_false, Bool.false_or, decide_eq_true_eq, id_eq, Int.reduceLT, Int.reduceLE, Int.reduceNeg, Int.reduceAdd, Int.reduceSub, Int.reduceMul, Int.reduceMod, Int.reduceDiv, Int.reducePow, Int.reduceToNat, and_self, true_and, and_true, gStar_1, eqF_int, isiF_tup, isiF_lst, isiF_int, isiF_str, isiF_bl, at_0, gSet_e, seO_1, seI_1, lenF_5, addF_4, sxE_1, ixF_5, itF_4, max2F_e, min2F_e, eM1_c, cM1_1, oM1_c, cN1_1, intAnyF_b, intAnyF_s, strOfF_1, eqF_str, eqH_int, eqH_str, dvmF_1, gTwo_1, eIf_e, d_is_shape, b_is_shape, t1, t2, c1, c2, lb, al2]
    · simp (config := { decide := true }) only [bd_1, bd_2, bs_1, bs_2, sq_1, sq_2, sq_3, sq_4, sq_5, vr_1, ga_1, lcE_1, sSeq_e, sAsg_e, cAsg_1, sRet_e, cRt_1, sDrop_e, cDr_1, sIf_e, cIf_t, cIf_f, sSkip_e, sBrk_e, sCnt_e, sPar_e, cPar_1, cPar2_1, sFor_e, cFor_1, gVar_e, eVar_e, eC_e, eOp_e, cOp_1, eUn_e, aNil_e, aCons_e, cA_1, cA2_1, eCall_e, oCall_e, iCall_e, iVal_e, toB_1, bVal_e, bAnd_e, cAnd_1, bOr_e, cOr_1, bNot_e, cNot_1, eAnd_e, cEAnd_1, cEAnd2_1, eOr_e, cEOr_1, cEOr2_1, eNot_e, cENot_1, cENot2_1, eIf_e, cEIf_1, eChain_e, cCh_1, cCh1_1, cCh2_1, cCh3_1, eTup_e, cTup_1, oLst_e, cLst_1, eFz_e, cFz_1, ePtr_e, cPtr_1, oLc_e, cLc_1, eSh_e, itF_1, itF_2, itF_3, addF_1, addF_2, addF_3, intF_1, subF_1, modF_1, fdvF_1, powF_1, mulF_1, mulF_2, negF_1, ltF_1, leF_1, gtF_1, geF_1, atE_1, ixF_1, ixF_2, ixF_3, pxE_1, ixF_4, plE_1, lenF_4, eMt_e, cMt_1, eCut_e, cCut_1, cCut2_1, qNone_e, qSome_e, toI_1, cutF_1, cutF_2, cutF_3, cutF_4, eCallK_e, cK_1, cK2_1, eDic0_e, oCat_e, cCat_1, cCat2_1, cCat3_1, lsT_1, lsT_2, rcv_p, apE_1, appF_1, stL_app, set_app, stL_0, stL_k, stL_c, stL_s, set_0, set_k, shE_1, shF_1, lenF_1, lenF_2, lenF_3, absF_1, intOfF_1, intOfF_2, rng1F_1, rng2F_1, Ar_e, mkD_e, fin_1, fin_2, fin_3, few_e, tupOfF_1, tupOfF_2, tupOfF_3, lstOfF_1, lstOfF_2, lstOfF_3, isF_1, gStar_1, cIf_1, Option.isSome_some, List.length_map, List.length_append, List.append_assoc, Nat.add_assoc, slots, wpD, List.map_cons, List.map_nil, List.cons_append, List.nil_append, List.length_cons, List.length_nil, List.replicate, List.set_cons_succ, List.set_cons_zero, List.getElem?_cons_zero, List.getElem?_cons_succ, if_true, if_false, ite_true, ite_false, reduceIte, Nat.reduceAdd, Nat.reduceSub, Nat.reduceLeDiff, Nat.zero_add, Nat.sub_zero, Nat.sub_self, Bool.not_true, Bool.not_false, Bool.false_eq_true, decide_true, decide_false, Bool.true_and, Bool.and_true, Bool.or_true, Bool.true_or, Bool.false_and, Bool.and_false, Bool.or_false, Bool.false_or, decide_eq_true_eq, id_eq, Int.reduceLT, Int.reduceLE, Int.reduceNeg, Int.reduceAdd, Int.reduceSub, Int.reduceMul, Int.reduceMod, Int.reduceDiv, Int.reducePow, Int.reduceToNat, and_self, true_and, and_true, gStar_1, eqF_int, isiF_tup, isiF_lst, isiF_int, isiF_str, isiF_bl, at_0, gSet_e, seO_1, seI_1, lenF_5, addF_4, sxE_1, ixF_5, itF_4, max2F_e, min2F_e, eM1_c, cM1_1, oM1_c, cN1_1, intAnyF_b, intAnyF_s, strOfF_1, eqF_str, eqH_int, eqH_str, dvmF_1, gTwo_1, eIf_e, d__law_is_shape, b__law_is_shape, t1, t2, in23, v2, c1, c3, lf, e0]
theorem many_eq (z : Str) (ds : List D) (hl : 3 ≤ ds.length) (hm : ds.length ≤ 1000) (hi : ∀ d ∈ ds, Item d) (S : ST) : d_is_shape [.tup (.str z :: ds)] S = some (.ok (.bl false), S) ∧ d__law_is_shape [.tup (.str z :: ds)] S = some (.ok (.bl false), S) := by
  have c1 := cut1 (.str z) ds
  have c2 := cm_is (x := some (.tup (.str z :: ds))) S ds hi
  have t1 : isaB "tuple" "tuple" = true := by decide
  have t2 : isaB "str" "str" = true := by decide
  have l0 : ¬ ((ds.length + 1 : Nat) : Int) < 2 := by omega
  have l2 : (((ds.length + 1 : Nat) : Int) == 2) = false := by
    rw [beq_eq_false_iff_ne]
    omega
  have l3 : (((ds.length + 1 : Nat) : Int) == 3) = false := by
    rw [beq_eq_false_iff_ne]
    omega
  have lm : ds.length ≤ 100000 := by omega
  have v : inV (.int ((ds.length + 1 : Nat) : Int)) [.int 2, .int 3] = false := by
    have e : inV (.int ((ds.length + 1 : Nat) : Int)) [.int 2, .int 3] = ((2 : Int) == ((ds.length + 1 : Nat) : Int) || ((3 : Int) == ((ds.length + 1 : Nat) : Int) || false)) := rfl
    rw [e, Bool.or_false, Bool.or_eq_false_iff]
    constructor <;> (rw [beq_eq_false_iff_ne]; omega)
  have al : ∀ b, (ds.map wh).all id = b → allF (fun bs => bs.all id) [.lst ((ds.map wh).map D.bl)] S = some (.ok (.bl b), S) := by
    intro b hb
    unfold allF
    simp only [lsS, blDs_map, hb]
  constructor
  · cases ha : (ds.map wh).all id with
    | false =>
      have al := al _ ha
      simp (config := { decide := true }) only [bd_1, bd_2, bs_1, bs_2, sq_1, sq_2, sq_3, sq_4, sq_5, vr_1, ga_1, lcE_1, sSeq_e, sAsg_e, cAsg_1, sRet_e, cRt_1, sDrop_e, cDr_1, sIf_e, cIf_t, cIf_f, sSkip_e, sBrk_e, sCnt_e, sPar_e, cPar_1, cPar2_1, sFor_e, cFor_1, gVar_e, eVar_e, eC_e, eOp_e, cOp_1, eUn_e, aNil_e, aCons_e, cA_1, cA2_1, eCall_e, oCall_e, iCall_e, iVal_e, toB_1, bVal_e, bAnd_e, cAnd_1, bOr_e, cOr_1, bNot_e, cNot_1, eAnd_e, cEAnd_1, cEAnd2_1, eOr_e, cEOr_1, cEOr2_1, eNot_e, cENot_1, cENot2_1, eIf_e, cEIf_1, eChain_e, cCh_1, cCh1_1, cCh2_1, cCh3_1, eTup_e, cTup_1, oLst_e, cLst_1, eFz_e, cFz_1, ePtr_e, cPtr_1, oLc_e, cLc_1, eSh_e, itF_1, itF_2, itF_3, addF_1, addF_2, addF_3, intF_1, subF_1, modF_1, fdvF_1, powF_1, mulF_1, mulF_2, negF_1, ltF_1, leF_1, gtF_1, geF_1, atE_1, ixF_1, ixF_2, ixF_3, pxE_1, ixF_4, plE_1, lenF_4, eMt_e, cMt_1, eCut_e, cCut_1, cCut2_1, qNone_e, qSome_e, toI_1, cutF_1, cutF_2, cutF_3, cutF_4, eCallK_e, cK_1, cK2_1, eDic0_e, oCat_e, cCat_1, cCat2_1, cCat3_1, lsT_1, lsT_2, rcv_p, apE_1, appF_1, stL_app, set_app, stL_0, stL_k, stL_c, stL_s, set_0, set_k, shE_1, shF_1, lenF_1, lenF_2, lenF_3, absF_1, intOfF_1, intOfF_2, rng1F_1, rng2F_1, Ar_e, mkD_e, fin_1, fin_2, fin_3, few_e, tupOfF_1, tupOfF_2, tupOfF_3, lstOfF_1, lstOfF_2, lstOfF_3, isF_1, gStar_1, cIf_1, Option.isSome_some, List.length_map, List.length_append, List.append_assoc, Nat.add_assoc, slots, wpD, List.map_cons, List.map_nil, List.cons_append, List.nil_append, List.length_cons, List.length_nil, List.replicate, List.set_cons_succ, List.set_cons_zero, List.getElem?_cons_zero, List.getElem?_cons_succ, if_true, if_false, ite_true, ite_false, reduceIte, Nat.reduceAdd, Nat.reduceSub, Nat.reduceLeDiff, Nat.zero_add, Nat.sub_zero, Nat.sub_self, Bool.not_true, Bool.not_false, Bool.false_eq_true, decide_true, decide_false, Bool.true_and, Bool.and_true, Bool.or_true, Bool.true_or, Bool.false_and, Bool.and_false, Bool.or_false, Bool.false_or, decide_eq_true_eq, id_eq, Int.reduceLT, Int.reduceLE, Int.reduceNeg, Int.reduceAdd, Int.reduceSub, Int.reduceMul, Int.reduceMod, Int.reduceDiv, Int.reducePow, Int.reduceToNat, and_self, true_and, and_true, gStar_1, eqF_int, isiF_tup, isiF_lst, isiF_int, isiF_str, isiF_bl, at_0, gSet_e, seO_1, seI_1, lenF_5, addF_4, sxE_1, ixF_5, itF_4, max2F_e, min2F_e, eM1_c, cM1_1, oM1_c, cN1_1, intAnyF_b, intAnyF_s, strOfF_1, eqF_str, eqH_int, eqH_str, dvmF_1, gTwo_1, eIf_e, d_is_shape, b_is_shape, t1, t2, l0, c1, c2, lm, al]
    | true =>
      have al := al _ ha
      cases hr : rr z with
      | true => simp (config := { decide := true }) only [bd_1, bd_2, bs_1, bs_2, sq_1, sq_2, sq_3, sq_4, sq_5, vr_1, ga_1, lcE_1, sSeq_e, sAsg_e, cAsg_1, sRet_e, cRt_1, sDrop_e, cDr_1, sIf_e, cIf_t, cIf_f, sSkip_e, sBrk_e, sCnt_e, sPar_e, cPar_1, cPar2_1, sFor_e, cFor_1, gVar_e, eVar_e, eC_e, eOp_e, cOp_1, eUn_e, aNil_e, aCons_e, cA_1, cA2_1, eCall_e, oCall_e, iCall_e, iVal_e, toB_1, bVal_e, bAnd_e, cAnd_1, bOr_e, cOr_1, bNot_e, cNot_1, eAnd_e, cEAnd_1, cEAnd2_1, eOr_e, cEOr_1, cEOr2_1, eNot_e, cENot_1, cENot2_1, eIf_e, cEIf_1, eChain_e, cCh_1, cCh1_1, cCh2_1, cCh3_1, eTup_e, cTup_1, oLst_e, cLst_1, eFz_e, cFz_1, ePtr_e, cPtr_1, oLc_e, cLc_1, eSh_e, itF_1, itF_2, itF_3, addF_1, addF_2, addF_3, intF_1, subF_1, modF_1, fdvF_1, powF_1, mulF_1, mulF_2, negF_1, ltF_1, leF_1, gtF_1, geF_1, atE_1, ixF_1, ixF_2, ixF_3, pxE_1, ixF_4, plE_1, lenF_4, eMt_e, cMt_1, eCut_e, cCut_1, cCut2_1, qNone_e, qSome_e, toI_1, cutF_1, cutF_2, cutF_3, cutF_4, eCallK_e, cK_1, cK2_1, eDic0_e, oCat_e, cCat_1, cCat2_1, cCat3_1, lsT_1, lsT_2, rcv_p, apE_1, appF_1, stL_app, set_app, stL_0, stL_k, stL_c, stL_s, set_0, set_k, shE_1, shF_1, lenF_1, lenF_2, lenF_3, absF_1, intOfF_1, intOfF_2, rng1F_1, rng2F_1, Ar_e, mkD_e, fin_1, fin_2, fin_3, few_e, tupOfF_1, tupOfF_2, tupOfF_3, lstOfF_1, lstOfF_2, lstOfF_3, isF_1, gStar_1, cIf_1, Option.isSome_some, List.length_map, List.length_append, List.append_assoc, Nat.add_assoc, slots, wpD, List.map_cons, List.map_nil, List.cons_append, List.nil_append, List.length_cons, List.length_nil, List.replicate, List.set_cons_succ, List.set_cons_zero, List.getElem?_cons_zero, List.getElem?_cons_succ, if_true, if_false, ite_true, ite_false, reduceIte, Nat.reduceAdd, Nat.reduceSub, Nat.reduceLeDiff, Nat.zero_add, Nat.sub_zero, Nat.sub_self, Bool.not_true, Bool.not_false, Bool.false_eq_true, decide_true, decide_false, Bool.true_and, Bool.and_true, Bool.or_true, Bool.true_or, Bool.false_and, Bool.and_false, Bool.or_false, Bool.false_or, decide_eq_true_eq, id_eq, Int.reduceLT, Int.reduceLE, Int.reduceNeg, Int.reduceAdd, Int.reduceSub, Int.reduceMul, Int.reduceMod, Int.reduceDiv, Int.reducePow, Int.reduceToNat, and_self, true_and, and_true, gStar_1, eqF_int, isiF_tup, isiF_lst, isiF_int, isiF_str, isiF_bl, at_0, gSet_e, seO_1, seI_1, lenF_5, addF_4, sxE_1, ixF_5, itF_4, max2F_e, min2F_e, eM1_c, cM1_1, oM1_c, cN1_1, intAnyF_b, intAnyF_s, strOfF_1, eqF_str, eqH_int, eqH_str, dvmF_1, gTwo_1, eIf_e, d_is_shape, b_is_shape, t1, t2, l0, c1, c2, lm, al, in_rr, hr, l2]
      | false =>
        by_cases hg : z = Str.ofString "grid"
        · simp (config := { decide := true }) only [bd_1, bd_2, bs_1, bs_2, sq_1, sq_2, sq_3, sq_4, sq_5, vr_1, ga_1, lcE_1, sSeq_e, sAsg_e, cAsg_1, sRet_e, cRt_1, sDrop_e, cDr_1, sIf_e, cIf_t, cIf_f, sSkip_e, sBrk_e, sCnt_e, sPar_e, cPar_1, cPar2_1, sFor_e, cFor_1, gVar_e, eVar_e, eC_e, eOp_e, cOp_1, eUn_e, aNil_e, aCons_e, cA_1, cA2_1, eCall_e, oCall_e, iCall_e, iVal_e, toB_1, bVal_e, bAnd_e, cAnd_1, bOr_e, cOr_1, bNot_e, cNot_1, eAnd_e, cEAnd_1, cEAnd2_1, eOr_e, cEOr_1, cEOr2_1, eNot_e, cENot_1, cENot2_1, eIf_e, cEIf_1, eChain_e, cCh_1, cCh1_1, cCh2_1, cCh3_1, eTup_e, cTup_1, oLst_e, cLst_1, eFz_e, cFz_1, ePtr_e, cPtr_1, oLc_e, cLc_1, eSh_e, itF_1, itF_2, itF_3, addF_1, addF_2, addF_3, intF_1, subF_1, modF_1, fdvF_1, powF_1, mulF_1, mulF_2, negF_1, ltF_1, leF_1, gtF_1, geF_1, atE_1, ixF_1, ixF_2, ixF_3, pxE_1, ixF_4, plE_1, lenF_4, eMt_e, cMt_1, eCut_e, cCut_1, cCut2_1, qNone_e, qSome_e, toI_1, cutF_1, cutF_2, cutF_3, cutF_4, eCallK_e, cK_1, cK2_1, eDic0_e, oCat_e, cCat_1, cCat2_1, cCat3_1, lsT_1, lsT_2, rcv_p, apE_1, appF_1, stL_app, set_app, stL_0, stL_k, stL_c, stL_s, set_0, set_k, shE_1, shF_1, lenF_1, lenF_2, lenF_3, absF_1, intOfF_1, intOfF_2, rng1F_1, rng2F_1, Ar_e, mkD_e, fin_1, fin_2, fin_3, few_e, tupOfF_1, tupOfF_2, tupOfF_3, lstOfF_1, lstOfF_2, lstOfF_3, isF_1, gStar_1, cIf_1, Option.isSome_some, List.length_map, List.length_append, List.append_assoc, Nat.add_assoc, slots, wpD, List.map_cons, List.map_nil, List.cons_append, List.nil_append, List.length_cons, List.length_nil, List.replicate, List.set_cons_succ, List.set_cons_zero, List.getElem?_cons_zero, List.getElem?_cons_succ, if_true, if_false, ite_true, ite_false, reduceIte, Nat.reduceAdd, Nat.reduceSub, Nat.reduceLeDiff, Nat.zero_add, Nat.sub_zero, Nat.sub_self, Bool.not_true, Bool.not_false, Bool.false_eq_true, decide_true, decide_false, Bool.true_and, Bool.and_true, Bool.or_true, Bool.true_or, Bool.false_and, Bool.and_false, Bool.or_false, Bool.false_or, decide_eq_true_eq, id_eq, Int.reduceLT, Int.reduceLE, Int.reduceNeg, Int.reduceAdd, Int.reduceSub, Int.reduceMul, Int.reduceMod, Int.reduceDiv, Int.reducePow, Int.reduceToNat, and_self, true_and, and_true, gStar_1, eqF_int, isiF_tup, isiF_lst, isiF_int, isiF_str, isiF_bl, at_0, gSet_e, seO_1, seI_1, lenF_5, addF_4, sxE_1, ixF_5, itF_4, max2F_e, min2F_e, eM1_c, cM1_1, oM1_c, cN1_1, intAnyF_b, intAnyF_s, strOfF_1, eqF_str, eqH_int, eqH_str, dvmF_1, gTwo_1, eIf_e, d_is_shape, b_is_shape, t1, t2, l0, c1, c2, lm, al, in_rr, hr, l3, eq_true hg]
        · simp (config := { decide := true }) only [bd_1, bd_2, bs_1, bs_2, sq_1, sq_2, sq_3, sq_4, sq_5, vr_1, ga_1, lcE_1, sSeq_e, sAsg_e, cAsg_1, sRet_e, cRt_1, sDrop_e, cDr_1, sIf_e, cIf_t, cIf_f, sSkip_e, sBrk_e, sCnt_e, sPar_e, cPar_1, cPar2_1, sFor_e, cFor_1, gVar_e, eVar_e, eC_e, eOp_e, cOp_1, eUn_e, aNil_e, aCons_e, cA_1, cA2_1, eCall_e, oCall_e, iCall_e, iVal_e, toB_1, bVal_e, bAnd_e, cAnd_1, bOr_e, cOr_1, bNot_e, cNot_1, eAnd_e, cEAnd_1, cEAnd2_1, eOr_e, cEOr_1, cEOr2_1, eNot_e, cENot_1, cENot2_1, eIf_e, cEIf_1, eChain_e, cCh_1, cCh1_1, cCh2_1, cCh3_1, eTup_e, cTup_1, oLst_e, cLst_1, eFz_e, cFz_1, ePtr_e, cPtr_1, oLc_e, cLc_1, eSh_e, itF_1, itF_2, itF_3, addF_1, addF_2, addF_3, intF_1, subF_1, modF_1, fdvF_1, powF_1, mulF_1, mulF_2, negF_1, ltF_1, leF_1, gtF_1, geF_1, atE_1, ixF_1, ixF_2, ixF_3, pxE_1, ixF_4, plE_1, lenF_4, eMt_e, cMt_1, eCut_e, cCut_1, cCut2_1, qNone_e, qSome_e, toI_1, cutF_1, cutF_2, cutF_3, cutF_4, eCallK_e, cK_1, cK2_1, eDic0_e, oCat_e, cCat_1, cCat2_1, cCat3_1, lsT_1, lsT_2, rcv_p, apE_1, appF_1, stL_app, set_app, stL_0, stL_k, stL_c, stL_s, set_0, set_k, shE_1, shF_1, lenF_1, lenF_2, lenF_3, absF_1, intOfF_1, intOfF_2, rng1F_1, rng2F_1, Ar_e, mkD_e, fin_1, fin_2, fin_3, few_e, tupOfF_1, tupOfF_2, tupOfF_3, lstOfF_1, lstOfF_2, lstOfF_3, isF_1, gStar_1, cIf_1, Option.isSome_some, List.length_map, List.length_append, List.append_assoc, Nat.add_assoc, slots, wpD, List.map_cons, List.map_nil, List.cons_append, List.nil_append, List.length_cons, List.length_nil, List.replicate, List.set_cons_succ, List.set_cons_zero, List.getElem?_cons_zero, List.getElem?_cons_succ, if_true, if_false, ite_true, ite_false, reduceIte, Nat.reduceAdd, Nat.reduceSub, Nat.reduceLeDiff, Nat.zero_add, Nat.sub_zero, Nat.sub_self, Bool.not_true, Bool.not_false, Bool.false_eq_true, decide_true, decide_false, Bool.true_and, Bool.and_true, Bool.or_true, Bool.true_or, Bool.false_and, Bool.and_false, Bool.or_false, Bool.false_or, decide_eq_true_eq, id_eq, Int.reduceLT, Int.reduceLE, Int.reduceNeg, Int.reduceAdd, Int.reduceSub, Int.reduceMul, Int.reduceMod, Int.reduceDiv, Int.reducePow, Int.reduceToNat, and_self, true_and, and_true, gStar_1, eqF_int, isiF_tup, isiF_lst, isiF_int, isiF_str, isiF_bl, at_0, gSet_e, seO_1, seI_1, lenF_5, addF_4, sxE_1, ixF_5, itF_4, max2F_e, min2F_e, eM1_c, cM1_1, oM1_c, cN1_1, intAnyF_b, intAnyF_s, strOfF_1, eqF_str, eqH_int, eqH_str, dvmF_1, gTwo_1, eIf_e, d_is_shape, b_is_shape, t1, t2, l0, c1, c2, lm, al, in_rr, hr, eq_false hg]
  · simp (config := { decide := true }) only [bd_1, bd_2, bs_1, bs_2, sq_1, sq_2, sq_3, sq_4, sq_5, vr_1, ga_1, lcE_1, sSeq_e, sAsg_e, cAsg_1, sRet_e, cRt_1, sDrop_e, cDr_1, sIf_e, cIf_t, cIf_f, sSkip_e, sBrk_e, sCnt_e, sPar_e, cPar_1, cPar2_1, sFor_e, cFor_1, gVar_e, eVar_e, eC_e, eOp_e, cOp_1, eUn_e, aNil_e, aCons_e, cA_1, cA2_1, eCall_e, oCall_e, iCall_e, iVal_e, toB_1, bVal_e, bAnd_e, cAnd_1, bOr_e, cOr_1, bNot_e, cNot_1, eAnd_e, cEAnd_1, cEAnd2_1, eOr_e, cEOr_1, cEOr2_1, eNot_e, cENot_1, cENot2_1, eIf_e, cEIf_1, eChain_e, cCh_1, cCh1_1, cCh2_1, cCh3_1, eTup_e, cTup_1, oLst_e, cLst_1, eFz_e, cFz_1, ePtr_e, cPtr_1, oLc_e, cLc_1, eSh_e, itF_1, itF_2, itF_3, addF_1, addF_2, addF_3, intF_1, subF_1, modF_1, fdvF_1, powF_1, mulF_1, mulF_2, negF_1, ltF_1, leF_1, gtF_1, geF_1, atE_1, ixF_1, ixF_2, ixF_3, pxE_1, ixF_4, plE_1, lenF_4, eMt_e, cMt_1, eCut_e, cCut_1, cCut2_1, qNone_e, qSome_e, toI_1, cutF_1, cutF_2, cutF_3, cutF_4, eCallK_e, cK_1, cK2_1, eDic0_e, oCat_e, cCat_1, cCat2_1, cCat3_1, lsT_1, lsT_2, rcv_p, apE_1, appF_1, stL_app, set_app, stL_0, stL_k, stL_c, stL_s, set_0, set_k, shE_1, shF_1, lenF_1, lenF_2, lenF_3, absF_1, intOfF_1, intOfF_2, rng1F_1, rng2F_1, Ar_e, mkD_e, fin_1, fin_2, fin_3, few_e, tupOfF_1, tupOfF_2, tupOfF_3, lstOfF_1, lstOfF_2, lstOfF_3, isF_1, gStar_1, cIf_1, Option.isSome_some, List.length_map, List.length_append, List.append_assoc, Nat.add_assoc, slots, wpD, List.map_cons, List.map_nil, List.cons_append, List.nil_append, List.length_cons, List.length_nil, List.replicate, List.set_cons_succ, List.set_cons_zero, List.getElem?_cons_zero, List.getElem?_cons_succ, if_true, if_false, ite_true, ite_false, reduceIte, Nat.reduceAdd, Nat.reduceSub, Nat.reduceLeDiff, Nat.zero_add, Nat.sub_zero, Nat.sub_self, Bool.not_true, Bool.not_false, Bool.false_eq_true, decide_true, decide_false, Bool.true_and, Bool.and_true, Bool.or_true, Bool.true_or, Bool.false_and, Bool.and_false, Bool.or_false, Bool.false_or, decide_eq_true_eq, id_eq, Int.reduceLT, Int.reduceLE, Int.reduceNeg, Int.reduceAdd, Int.reduceSub, Int.reduceMul, Int.reduceMod, Int.reduceDiv, Int.reducePow, Int.reduceToNat, and_self, true_and, and_true, gStar_1, eqF_int, isiF_tup, isiF_lst, isiF_int, isiF_str, isiF_bl, at_0, gSet_e, seO_1, seI_1, lenF_5, addF_4, sxE_1, ixF_5, itF_4, max2F_e, min2F_e, eM1_c, cM1_1, oM1_c, cN1_1, intAnyF_b, intAnyF_s, strOfF_1, eqF_str, eqH_int, eqH_str, dvmF_1, gTwo_1, eIf_e, d__law_is_shape, b__law_is_shape, t1, t2, in23, v]
/-- a thing that is asked -/
def Asked (d : D) : Prop := (∃ t : String, t ≠ "tuple" ∧ ∀ T, tyD T d = some t) ∨ d = .tup [] ∨ ∃ d0 ds, d = .tup (d0 :: ds) ∧ ((∃ z, d0 = .str z) ∨ ∃ t : String, t ≠ "str" ∧ ∀ T, tyD T d0 = some t) ∧ ds.length ≤ 1000 ∧ ∀ x ∈ ds, Item x
theorem asked_eq {d : D} (h : Asked d) (S : ST) : ∃ b, d_is_shape [d] S = some (.ok (.bl b), S) ∧ d__law_is_shape [d] S = some (.ok (.bl b), S) := by
  rcases h with ⟨t, ht, hT⟩ | rfl | ⟨d0, ds, rfl, h0, hl, hi⟩
  · have q : isaB t "tuple" = false := by unfold isaB; simp [ht]
    refine ⟨false, ?_, ?_⟩
    · simp (config := { decide := true }) only [bd_1, bd_2, bs_1, bs_2, sq_1, sq_2, sq_3, sq_4, sq_5, vr_1, ga_1, lcE_1, sSeq_e, sAsg_e, cAsg_1, sRet_e, cRt_1, sDrop_e, cDr_1, sIf_e, cIf_t, cIf_f, sSkip_e, sBrk_e, sCnt_e, sPar_e, cPar_1, cPar2_1, sFor_e, cFor_1, gVar_e, eVar_e, eC_e, eOp_e, cOp_1, eUn_e, aNil_e, aCons_e, cA_1, cA2_1, eCall_e, oCall_e, iCall_e, iVal_e, toB_1, bVal_e, bAnd_e, cAnd_1, bOr_e, cOr_1, bNot_e, cNot_1, eAnd_e, cEAnd_1, cEAnd2_1, eOr_e, cEOr_1, cEOr2_1, eNot_e, cENot_1, cENot2_1, eIf_e, cEIf_1, eChain_e, cCh_1, cCh1_1, cCh2_1, cCh3_1, eTup_e, cTup_1, oLst_e, cLst_1, eFz_e, cFz_1, ePtr_e, cPtr_1, oLc_e, cLc_1, eSh_e, itF_1, itF_2, itF_3, addF_1, addF_2, addF_3, intF_1, subF_1, modF_1, fdvF_1, powF_1, mulF_1, mulF_2, negF_1, ltF_1, leF_1, gtF_1, geF_1, atE_1, ixF_1, ixF_2, ixF_3, pxE_1, ixF_4, plE_1, lenF_4, eMt_e, cMt_1, eCut_e, cCut_1, cCut2_1, qNone_e, qSome_e, toI_1, cutF_1, cutF_2, cutF_3, cutF_4, eCallK_e, cK_1, cK2_1, eDic0_e, oCat_e, cCat_1, cCat2_1, cCat3_1, lsT_1, lsT_2, rcv_p, apE_1, appF_1, stL_app, set_app, stL_0, stL_k, stL_c, stL_s, set_0, set_k, shE_1, shF_1, lenF_1, lenF_2, lenF_3, absF_1, intOfF_1, intOfF_2, rng1F_1, rng2F_1, Ar_e, mkD_e, fin_1, fin_2, fin_3, few_e, tupOfF_1, tupOfF_2, tupOfF_3, lstOfF_1, lstOfF_2, lstOfF_3, isF_1, gStar_1, cIf_1, Option.isSome_some, List.length_map, List.length_append, List.append_assoc, Nat.add_assoc, slots, wpD, List.map_cons, List.map_nil, List.cons_append, List.nil_append, List.length_cons, List.length_nil, List.replicate, List.set_cons_succ, List.set_cons_zero, List.getElem?_cons_zero, List.getElem?_cons_succ, if_true, if_false, ite_true, ite_false, reduceIte, Nat.reduceAdd, Nat.reduceSub, Nat.reduceLeDiff, Nat.zero_add, Nat.sub_zero, Nat.sub_self, Bool.not_true, Bool.not_false, Bool.false_eq_true, decide_true, decide_false, Bool.true_and, Bool.and_true, Bool.or_true, Bool.true_or, Bool.false_and, Bool.and_false, Bool.or_false, Bool.false_or, decide_eq_true_eq, id_eq, Int.reduceLT, Int.reduceLE, Int.reduceNeg, Int.reduceAdd, Int.reduceSub, Int.reduceMul, Int.reduceMod, Int.reduceDiv, Int.reducePow, Int.reduceToNat, and_self, true_and, and_true, gStar_1, eqF_int, isiF_tup, isiF_lst, isiF_int, isiF_str, isiF_bl, at_0, gSet_e, seO_1, seI_1, lenF_5, addF_4, sxE_1, ixF_5, itF_4, max2F_e, min2F_e, eM1_c, cM1_1, oM1_c, cN1_1, intAnyF_b, intAnyF_s, strOfF_1, eqF_str, eqH_int, eqH_str, dvmF_1, gTwo_1, eIf_e, d_is_shape, b_is_shape, isiF_1 (hT S), q]
    · simp (config := { decide := true }) only [bd_1, bd_2, bs_1, bs_2, sq_1, sq_2, sq_3, sq_4, sq_5, vr_1, ga_1, lcE_1, sSeq_e, sAsg_e, cAsg_1, sRet_e, cRt_1, sDrop_e, cDr_1, sIf_e, cIf_t, cIf_f, sSkip_e, sBrk_e, sCnt_e, sPar_e, cPar_1, cPar2_1, sFor_e, cFor_1, gVar_e, eVar_e, eC_e, eOp_e, cOp_1, eUn_e, aNil_e, aCons_e, cA_1, cA2_1, eCall_e, oCall_e, iCall_e, iVal_e, toB_1, bVal_e, bAnd_e, cAnd_1, bOr_e, cOr_1, bNot_e, cNot_1, eAnd_e, cEAnd_1, cEAnd2_1, eOr_e, cEOr_1, cEOr2_1, eNot_e, cENot_1, cENot2_1, eIf_e, cEIf_1, eChain_e, cCh_1, cCh1_1, cCh2_1, cCh3_1, eTup_e, cTup_1, oLst_e, cLst_1, eFz_e, cFz_1, ePtr_e, cPtr_1, oLc_e, cLc_1, eSh_e, itF_1, itF_2, itF_3, addF_1, addF_2, addF_3, intF_1, subF_1, modF_1, fdvF_1, powF_1, mulF_1, mulF_2, negF_1, ltF_1, leF_1, gtF_1, geF_1, atE_1, ixF_1, ixF_2, ixF_3, pxE_1, ixF_4, plE_1, lenF_4, eMt_e, cMt_1, eCut_e, cCut_1, cCut2_1, qNone_e, qSome_e, toI_1, cutF_1, cutF_2, cutF_3, cutF_4, eCallK_e, cK_1, cK2_1, eDic0_e, oCat_e, cCat_1, cCat2_1, cCat3_1, lsT_1, lsT_2, rcv_p, apE_1, appF_1, stL_app, set_app, stL_0, stL_k, stL_c, stL_s, set_0, set_k, shE_1, shF_1, lenF_1, lenF_2, lenF_3, absF_1, intOfF_1, intOfF_2, rng1F_1, rng2F_1, Ar_e, mkD_e, fin_1, fin_2, fin_3, few_e, tupOfF_1, tupOfF_2, tupOfF_3, lstOfF_1, lstOfF_2, lstOfF_3, isF_1, gStar_1, cIf_1, Option.isSome_some, List.length_map, List.length_append, List.append_assoc, Nat.add_assoc, slots, wpD, List.map_cons, List.map_nil, List.cons_append, List.nil_append, List.length_cons, List.length_nil, List.replicate, List.set_cons_succ, List.set_cons_zero, List.getElem?_cons_zero, List.getElem?_cons_succ, if_true, if_false, ite_true, ite_false, reduceIte, Nat.reduceAdd, Nat.reduceSub, Nat.reduceLeDiff, Nat.zero_add, Nat.sub_zero, Nat.sub_self, Bool.not_true, Bool.not_false, Bool.false_eq_true, decide_true, decide_false, Bool.true_and, Bool.and_true, Bool.or_true, Bool.true_or, Bool.false_and, Bool.and_false, Bool.or_false, Bool.false_or, decide_eq_true_eq, id_eq, Int.reduceLT, Int.reduceLE, Int.reduceNeg, Int.reduceAdd, Int.reduceSub, Int.reduceMul, Int.reduceMod, Int.reduceDiv, Int.reducePow, Int.reduceToNat, and_self, true_and, and_true, gStar_1, eqF_int, isiF_tup, isiF_lst, isiF_int, isiF_str, isiF_bl, at_0, gSet_e, seO_1, seI_1, lenF_5, addF_4, sxE_1, ixF_5, itF_4, max2F_e, min2F_e, eM1_c, cM1_1, oM1_c, cN1_1, intAnyF_b, intAnyF_s, strOfF_1, eqF_str, eqH_int, eqH_str, dvmF_1, gTwo_1, eIf_e, d__law_is_shape, b__law_is_shape, isiF_1 (hT S), q]
  · exact ⟨false, by kernel_rfl, by kernel_rfl⟩
  · rcases h0 with ⟨z, rfl⟩ | ⟨t, ht, hT⟩
    · match ds, hl, hi with
      | [], _, _ => exact ⟨false, tup_len1 S⟩
      | [d], _, hi => exact two_eq z d (hi d (by simp)) S
      | [d, e], _, hi => exact three_eq z d e (hi d (by simp)) (hi e (by simp)) S
      | a :: b :: c :: r, hl, hi => exact ⟨false, many_eq z _ (by simp) hl hi S⟩
    · cases ds with
      | nil => exact ⟨false, tup_len1 S⟩
      | cons d ds => exact ⟨false, no_str hT ht (by simp) S⟩
end W04

set_option Elab.async false
set_option linter.all false
set_option maxRecDepth 100000
set_option maxHeartbeats 4000000
namespace W04
open PySem L2 U
/-! things drawn -/
def El (d : D) : Prop := Item d ∧ ((∃ z, d = .str z) ∨ ∃ t : String, t ≠ "str" ∧ ∀ T, tyD T d = some t)
theorem el_int (i : Int) : El (.int i) := ⟨.inl ⟨i, rfl⟩, .inr ⟨"int", by decide, fun _ => rfl⟩⟩
theorem el_str (z : Str) (h : SeqAt.shaped (.str z) = true) : El (.str z) := ⟨.inr ⟨"str", .str z, fun _ => rfl, ⟨by decide, fun _ => by decide⟩, fun _ => rfl, h, Nat.zero_le _, fun _ => by simp⟩, .inl ⟨z, rfl⟩⟩
theorem el_other (t : String) (p : PyData) (d : D) (ht : t ≠ "int") (hs : t ≠ "str") (h1 : ∀ T, tyD T d = some t) (h2 : ∀ T, pyF T 11 d = some p) (h3 : SeqAt.shaped p = true) (h4 : p.depth ≤ 60) (h5 : ∀ i, d ≠ .int i) : El d := ⟨.inr ⟨t, p, h1, ⟨ht, fun _ => ht⟩, h2, h3, h4, h5⟩, .inr ⟨t, hs, h1⟩⟩
def numbers : List D := [.int 0, .int 1, .int 12, .int 13, .int (-1), .bl true, .str "3", .non, .int 3, .int 4, .int 6, .tup [.int 3], .int 100000000000000000000000000000]
def words : List D := [.str "row", .str "ring", .str "grid", .str "Row", .str "", .non, .int 7, .tup [.str "row"]]
theorem el_numbers : ∀ d ∈ numbers, El d := by
  intro d hd
  simp only [numbers, List.mem_cons, List.not_mem_nil, or_false] at hd
  rcases hd with rfl | rfl | rfl | rfl | rfl | rfl | rfl | rfl | rfl | rfl | rfl | rfl | rfl
  iterate 5 exact el_int _
  · exact el_other "bool" (.bool true) _ (by decide) (by decide) (fun _ => rfl) (fun _ => rfl) rfl (Nat.zero_le _) (fun _ => by simp)
  · exact el_str _ (by decide +kernel)
  · exact el_other "NoneType" .none _ (by decide) (by decide) (fun _ => rfl) (fun _ => rfl) rfl (Nat.zero_le _) (fun _ => by simp)
  iterate 3 exact el_int _
  · exact el_other "tuple" (.tuple [.int 3]) _ (by decide) (by decide) (fun _ => rfl) (fun _ => rfl) (by decide +kernel) (by decide +kernel) (fun _ => by simp)
  · exact el_int _
theorem el_words : ∀ d ∈ words, El d := by
  intro d hd
  simp only [words, List.mem_cons, List.not_mem_nil, or_false] at hd
  rcases hd with rfl | rfl | rfl | rfl | rfl | rfl | rfl | rfl
  iterate 5 exact el_str _ (by decide +kernel)
  · exact el_other "NoneType" .none _ (by decide) (by decide) (fun _ => rfl) (fun _ => rfl) rfl (Nat.zero_le _) (fun _ => by simp)
  · exact el_int _
  · exact el_other "tuple" (.tuple [.str "row"]) _ (by decide) (by decide) (fun _ => rfl) (fun _ => rfl) (by decide +kernel) (by decide +kernel) (fun _ => by simp)
theorem asked_tup {ds : List D} (h : ∀ d ∈ ds, El d) (hl : ds.length ≤ 1000) : Asked (.tup ds) := by
  cases ds with
  | nil => exact .inr (.inl rfl)
  | cons d ds =>
    refine .inr (.inr ⟨d, ds, rfl, (h d (List.mem_cons_self ..)).2, ?_, fun x hx => (h x (List.mem_cons_of_mem _ hx)).1⟩)
    simp only [List.length_cons] at hl
    omega
theorem cut_mem {ds : List D} {lo hi : Option Int} {x : D} (h : x ∈ cutD ds lo hi) : x ∈ ds := List.mem_of_mem_drop (List.mem_of_mem_take h)
theorem cut_len {ds : List D} {lo hi : Option Int} : (cutD ds lo hi).length ≤ ds.length := by
  unfold cutD
  simp only [List.length_take, List.length_drop]
  omega
def OddI (n : Nat) (form : D) (c0 : Nat) (k : Nat) (g : EV) (S : ST) : Prop := ∃ (fs : List D) (a5 a6 a7 : Option D), g = [some (.ptr n), some form, some (.lst numbers), some (.lst words), some (.lst fs), a5, a6, a7] ∧ (∀ d ∈ fs, El d) ∧ fs.length + 5 ≤ 8 * 3 ^ k ∧ Bag n (c0 + 3 * k) S
theorem odd_step {n c0 k : Nat} {form : D} {g : EV} {S : ST} (hc : c0 ≤ 800) (hk : k < 2) (x : D) (h : OddI n form c0 k g S) : ∃ g2 S2, lp__law_odd_1 (g.set 5 (some x)) S = some (.nx g2, S2) ∧ OddI n form c0 (k + 1) g2 S2 := by
  obtain ⟨fs, a5, a6, a7, rfl, hf, hl, B⟩ := h
  have hl2 : fs.length ≤ 100 := by
    have : 3 ^ k ≤ 3 ^ 1 := Nat.pow_le_pow_right (by decide) (by omega)
    omega
  obtain ⟨r1, S1, e1, l1, h1, B⟩ := take_ok (m := (fs.length : Int) + 1) B (by omega) (by omega) (by
    have : ((fs.length : Int) + 1).natAbs ≠ 0 := by omega
    exact Nat.lt_trans ((Nat.log2_lt this).mpr (by have : (2 : Nat) ^ 20 = 1048576 := by decide
                                                   omega : ((fs.length : Int) + 1).natAbs < 2 ^ 20)) (by decide))
  obtain ⟨some_, hsome, hsl, hel⟩ : ∃ ls : List D, (if (r1 == 0) = true then D.lst words else D.lst numbers) = .lst ls ∧ (ls.length = 8 ∨ ls.length = 13) ∧ ∀ d ∈ ls, El d := by
    split
    · exact ⟨words, rfl, .inl rfl, el_words⟩
    · exact ⟨numbers, rfl, .inr rfl, el_numbers⟩
  obtain ⟨r2, S2, e2, l2, h2, B⟩ := take_ok (m := (some_.length : Int)) B (by omega) (by omega) (by rcases hsl with h | h <;> rw [h] <;> decide)
  obtain ⟨y, hy, ay⟩ := at_mem (xs := some_) l2 h2
  obtain ⟨r3, S3, e3, l3, h3, B⟩ := take_ok (m := 2) B (by omega) (by decide) (by decide)
  have q1 : (cutD fs none (some r1)).length ≤ fs.length := cut_len
  have q2 : (cutD fs (some (r1 + r3)) none).length ≤ fs.length := cut_len
  have f1 : (cutD fs none (some r1)).length + 1 ≤ 100000 := by omega
  have f2 : (cutD fs none (some r1)).length + (1 + (cutD fs (some (r1 + r3)) none).length) ≤ 100000 := by omega
  refine ⟨[some (.ptr n), some form, some (.lst numbers), some (.lst words), some (.lst (cutD fs none (some r1) ++ ([y] ++ cutD fs (some (r1 + r3)) none))), some x, some (.int r1), some (.lst some_)], S3, ?_, ⟨_, _, _, _, rfl, ?_, ?_, by rw [show c0 + 3 * (k + 1) = c0 + 3 * k + 1 + 1 + 1 by omega]; exact B⟩⟩
  · cases hz : (r1 == 0) with
    | true =>
      rw [hz] at hsome
      have hw : words = some_ := by simpa using hsome
      simp (config := { decide := true }) only [bd_1, bd_2, bs_1, bs_2, sq_1, sq_2, sq_3, sq_4, sq_5, vr_1, ga_1, lcE_1, sSeq_e, sAsg_e, cAsg_1, sRet_e, cRt_1, sDrop_e, cDr_1, sIf_e, cIf_t, cIf_f, sSkip_e, sBrk_e, sCnt_e, sPar_e, cPar_1, cPar2_1, sFor_e, cFor_1, gVar_e, eVar_e, eC_e, eOp_e, cOp_1, eUn_e, aNil_e, aCons_e, cA_1, cA2_1, eCall_e, oCall_e, iCall_e, iVal_e, toB_1, bVal_e, bAnd_e, cAnd_1, bOr_e, cOr_1, bNot_e, cNot_1, eAnd_e, cEAnd_1, cEAnd2_1, eOr_e, cEOr_1, cEOr2_1, eNot_e, cENot_1, cENot2_1, eIf_e, cEIf_1, eChain_e, cCh_1, cCh1_1, cCh2_1, cCh3_1, eTup_e, cTup_1, oLst_e, cLst_1, eFz_e, cFz_1, ePtr_e, cPtr_1, oLc_e, cLc_1, eSh_e, itF_1, itF_2, itF_3, addF_1, addF_2, addF_3, intF_1, subF_1, modF_1, fdvF_1, powF_1, mulF_1, mulF_2, negF_1, ltF_1, leF_1, gtF_1, geF_1, atE_1, ixF_1, ixF_2, ixF_3, pxE_1, ixF_4, plE_1, lenF_4, eMt_e, cMt_1, eCut_e, cCut_1, cCut2_1, qNone_e, qSome_e, toI_1, cutF_1, cutF_2, cutF_3, cutF_4, eCallK_e, cK_1, cK2_1, eDic0_e, oCat_e, cCat_1, cCat2_1, cCat3_1, lsT_1, lsT_2, rcv_p, apE_1, appF_1, stL_app, set_app, stL_0, stL_k, stL_c, stL_s, set_0, set_k, shE_1, shF_1, lenF_1, lenF_2, lenF_3, absF_1, intOfF_1, intOfF_2, rng1F_1, rng2F_1, Ar_e, mkD_e, fin_1, fin_2, fin_3, few_e, tupOfF_1, tupOfF_2, tupOfF_3, lstOfF_1, lstOfF_2, lstOfF_3, isF_1, gStar_1, cIf_1, Option.isSome_some, List.length_map, List.length_append, List.append_assoc, Nat.add_assoc, slots, wpD, List.map_cons, List.map_nil, List.cons_append, List.nil_append, List.length_cons, List.length_nil, List.replicate, List.set_cons_succ, List.set_cons_zero, List.getElem?_cons_zero, List.getElem?_cons_succ, if_true, if_false, ite_true, ite_false, reduceIte, Nat.reduceAdd, Nat.reduceSub, Nat.reduceLeDiff, Nat.zero_add, Nat.sub_zero, Nat.sub_self, Bool.not_true, Bool.not_false, Bool.false_eq_true, decide_true, decide_false, Bool.true_and, Bool.and_true, Bool.or_true, Bool.true_or, Bool.false_and, Bool.and_false, Bool.or_false, Bool.false_or, decide_eq_true_eq, id_eq, Int.reduceLT, Int.reduceLE, Int.reduceNeg, Int.reduceAdd, Int.reduceSub, Int.reduceMul, Int.reduceMod, Int.reduceDiv, Int.reducePow, Int.reduceToNat, and_self, true_and, and_true, gStar_1, eqF_int, isiF_tup, isiF_lst, isiF_int, isiF_str, isiF_bl, at_0, gSet_e, seO_1, seI_1, lenF_5, addF_4, sxE_1, ixF_5, itF_4, max2F_e, min2F_e, eM1_c, cM1_1, oM1_c, cN1_1, intAnyF_b, intAnyF_s, strOfF_1, eqF_str, eqH_int, eqH_str, dvmF_1, gTwo_1, eIf_e, lp__law_odd_1, e1, hz, hw, e2, ay, e3, f1, f2]
    | false =>
      rw [hz] at hsome
      have hw : numbers = some_ := by simpa using hsome
      simp (config := { decide := true }) only [bd_1, bd_2, bs_1, bs_2, sq_1, sq_2, sq_3, sq_4, sq_5, vr_1, ga_1, lcE_1, sSeq_e, sAsg_e, cAsg_1, sRet_e, cRt_1, sDrop_e, cDr_1, sIf_e, cIf_t, cIf_f, sSkip_e, sBrk_e, sCnt_e, sPar_e, cPar_1, cPar2_1, sFor_e, cFor_1, gVar_e, eVar_e, eC_e, eOp_e, cOp_1, eUn_e, aNil_e, aCons_e, cA_1, cA2_1, eCall_e, oCall_e, iCall_e, iVal_e, toB_1, bVal_e, bAnd_e, cAnd_1, bOr_e, cOr_1, bNot_e, cNot_1, eAnd_e, cEAnd_1, cEAnd2_1, eOr_e, cEOr_1, cEOr2_1, eNot_e, cENot_1, cENot2_1, eIf_e, cEIf_1, eChain_e, cCh_1, cCh1_1, cCh2_1, cCh3_1, eTup_e, cTup_1, oLst_e, cLst_1, eFz_e, cFz_1, ePtr_e, cPtr_1, oLc_e, cLc_1, eSh_e, itF_1, itF_2, itF_3, addF_1, addF_2, addF_3, intF_1, subF_1, modF_1, fdvF_1, powF_1, mulF_1, mulF_2, negF_1, ltF_1, leF_1, gtF_1, geF_1, atE_1, ixF_1, ixF_2, ixF_3, pxE_1, ixF_4, plE_1, lenF_4, eMt_e, cMt_1, eCut_e, cCut_1, cCut2_1, qNone_e, qSome_e, toI_1, cutF_1, cutF_2, cutF_3, cutF_4, eCallK_e, cK_1, cK2_1, eDic0_e, oCat_e, cCat_1, cCat2_1, cCat3_1, lsT_1, lsT_2, rcv_p, apE_1, appF_1, stL_app, set_app, stL_0, stL_k, stL_c, stL_s, set_0, set_k, shE_1, shF_1, lenF_1, lenF_2, lenF_3, absF_1, intOfF_1, intOfF_2, rng1F_1, rng2F_1, Ar_e, mkD_e, fin_1, fin_2, fin_3, few_e, tupOfF_1, tupOfF_2, tupOfF_3, lstOfF_1, lstOfF_2, lstOfF_3, isF_1, gStar_1, cIf_1, Option.isSome_some, List.length_map, List.length_append, List.append_assoc, Nat.add_assoc, slots, wpD, List.map_cons, List.map_nil, List.cons_append, List.nil_append, List.length_cons, List.length_nil, List.replicate, List.set_cons_succ, List.set_cons_zero, List.getElem?_cons_zero, List.getElem?_cons_succ, if_true, if_false, ite_true, ite_false, reduceIte, Nat.reduceAdd, Nat.reduceSub, Nat.reduceLeDiff, Nat.zero_add, Nat.sub_zero, Nat.sub_self, Bool.not_true, Bool.not_false, Bool.false_eq_true, decide_true, decide_false, Bool.true_and, Bool.and_true, Bool.or_true, Bool.true_or, Bool.false_and, Bool.and_false, Bool.or_false, Bool.false_or, decide_eq_true_eq, id_eq, Int.reduceLT, Int.reduceLE, Int.reduceNeg, Int.reduceAdd, Int.reduceSub, Int.reduceMul, Int.reduceMod, Int.reduceDiv, Int.reducePow, Int.reduceToNat, and_self, true_and, and_true, gStar_1, eqF_int, isiF_tup, isiF_lst, isiF_int, isiF_str, isiF_bl, at_0, gSet_e, seO_1, seI_1, lenF_5, addF_4, sxE_1, ixF_5, itF_4, max2F_e, min2F_e, eM1_c, cM1_1, oM1_c, cN1_1, intAnyF_b, intAnyF_s, strOfF_1, eqF_str, eqH_int, eqH_str, dvmF_1, gTwo_1, eIf_e, lp__law_odd_1, e1, hz, hw, e2, ay, e3, f1, f2]
  · intro d hd
    rcases List.mem_append.mp hd with h | h
    · exact hf d (cut_mem h)
    · rcases List.mem_append.mp h with h | h
      · rw [List.mem_singleton.mp h]
        exact hel y hy
      · exact hf d (cut_mem h)
  · simp only [List.length_append, List.length_singleton]
    rw [Nat.pow_succ]
    omega
theorem form_els {d : D} (h : Form d) : ∃ fs : List D, d = .tup fs ∧ (∀ x ∈ fs, El x) ∧ fs.length ≤ 3 ∧ 2 ≤ fs.length := by
  cases h with
  | row n h1 h2 =>
    refine ⟨_, rfl, ?_, by simp, by simp⟩
    intro x hx
    simp only [List.mem_cons, List.not_mem_nil, or_false] at hx
    rcases hx with rfl | rfl
    · exact el_str _ (by decide +kernel)
    · exact el_int _
  | ring n h1 h2 =>
    refine ⟨_, rfl, ?_, by simp, by simp⟩
    intro x hx
    simp only [List.mem_cons, List.not_mem_nil, or_false] at hx
    rcases hx with rfl | rfl
    · exact el_str _ (by decide +kernel)
    · exact el_int _
  | grid w h h1 h2 h3 =>
    refine ⟨_, rfl, ?_, by simp, by simp⟩
    intro x hx
    simp only [List.mem_cons, List.not_mem_nil, or_false] at hx
    rcases hx with rfl | rfl | rfl
    · exact el_str _ (by decide +kernel)
    · exact el_int _
    · exact el_int _
theorem num_e (g : EV) (S : ST) : (eFz (oLst (aCons (eC (.int 0)) (aCons (eC (.int 1)) (aCons (eC (.int 12)) (aCons (eC (.int 13)) (aCons (eUn negF (eC (.int 1))) (aCons (eC (.bl true)) (aCons (eC (.str "3")) (aCons (eC .non) (aCons (eC (.int 3)) (aCons (eC (.int 4)) (aCons (eC (.int 6)) (aCons (eTup (aCons (eC (.int 3)) aNil)) (aCons (eOp powF (eC (.int 10)) (eC (.int 29))) aNil))))))))))))))) g S = some (.ok (.lst numbers), S) := by kernel_rfl
theorem wrd_e (g : EV) (S : ST) : (eFz (oLst (aCons (eC (.str "row")) (aCons (eC (.str "ring")) (aCons (eC (.str "grid")) (aCons (eC (.str "Row")) (aCons (eC (.str "")) (aCons (eC .non) (aCons (eC (.int 7)) (aCons (eTup (aCons (eC (.str "row")) aNil)) aNil)))))))))) g S = some (.ok (.lst words), S) := by kernel_rfl
theorem odd_ok {n c : Nat} {S : ST} {form : D} (hf : Form form) (B : Bag n c S) (hc : c ≤ 700) : ∃ d S' c', d__law_odd [.ptr n, form] S = some (.ok d, S') ∧ Asked d ∧ Bag n c' S' ∧ c' ≤ c + 8 := by
  obtain ⟨fs, rfl, hel, hl, _⟩ := form_els hf
  obtain ⟨r1, S1, e1, l1, h1, B⟩ := take_ok (m := 2) B (by omega) (by decide) (by decide)
  have hrl : (rngD 0 (1 + r1)).length ≤ 2 := by simp [rngD]; omega
  obtain ⟨g', S2, e2, fs2, a5, a6, a7, rfl, hel2, hl2, B⟩ := for_inv_n (tg := gVar 5) (body := lp__law_odd_1) (OddI n (.tup fs) (c + 1)) (rngD 0 (1 + r1)) 0 [some (.ptr n), some (.tup fs), some (.lst numbers), some (.lst words), some (.lst fs), none, none, none] S1 (by
    intro i d hd g S h
    have hi := (List.getElem?_eq_some_iff.mp hd).1
    obtain ⟨g2, S2, e, h2⟩ := odd_step (n := n) (c0 := c + 1) (k := i) (form := .tup fs) (g := g) (S := S) (by omega) (by omega) d (by simpa using h)
    exact ⟨_, _, g2, S2, rfl, e, by simpa using h2⟩) ⟨fs, none, none, none, rfl, hel, by simp; omega, by simpa using B⟩
  generalize (rngD 0 (1 + r1)).length = k at *
  have hb : fs2.length ≤ 100 := by
    have : 3 ^ (0 + k) ≤ 3 ^ 2 := Nat.pow_le_pow_right (by decide) (by omega)
    omega
  obtain ⟨r3, S3, e3, l3, h3, B⟩ := take_ok (m := 4) B (by omega) (by decide) (by decide)
  obtain ⟨d, hd, ed⟩ := at_mem (xs := [D.tup fs2, .tup fs2, .lst fs2, .tup (cutD fs2 none (some 1))]) l3 (by simpa using h3)
  refine ⟨d, S3, _, ?_, ?_, B, by omega⟩
  · have o1 : okI (1 + r1) = true := by unfold okI; rw [Bool.and_eq_true, decide_eq_true_eq, decide_eq_true_eq]; omega
    simp only [d__law_odd, b__law_odd, mkD_e, sSeq_e, sAsg_e, num_e, wrd_e, bs_1, cAsg_1, gVar_e, ga_1, sq_1, slots, List.map_cons, List.map_nil, List.length_cons, List.length_nil, List.replicate, List.cons_append, List.nil_append, List.set_cons_succ, List.set_cons_zero, Nat.reduceAdd, Nat.reduceSub, Nat.zero_add]
    simp (config := { decide := true }) only [bd_1, bd_2, bs_1, bs_2, sq_1, sq_2, sq_3, sq_4, sq_5, vr_1, ga_1, lcE_1, sSeq_e, sAsg_e, cAsg_1, sRet_e, cRt_1, sDrop_e, cDr_1, sIf_e, cIf_t, cIf_f, sSkip_e, sBrk_e, sCnt_e, sPar_e, cPar_1, cPar2_1, sFor_e, cFor_1, gVar_e, eVar_e, eC_e, eOp_e, cOp_1, eUn_e, aNil_e, aCons_e, cA_1, cA2_1, eCall_e, oCall_e, iCall_e, iVal_e, toB_1, bVal_e, bAnd_e, cAnd_1, bOr_e, cOr_1, bNot_e, cNot_1, eAnd_e, cEAnd_1, cEAnd2_1, eOr_e, cEOr_1, cEOr2_1, eNot_e, cENot_1, cENot2_1, eIf_e, cEIf_1, eChain_e, cCh_1, cCh1_1, cCh2_1, cCh3_1, eTup_e, cTup_1, oLst_e, cLst_1, eFz_e, cFz_1, ePtr_e, cPtr_1, oLc_e, cLc_1, eSh_e, itF_1, itF_2, itF_3, addF_1, addF_2, addF_3, intF_1, subF_1, modF_1, fdvF_1, powF_1, mulF_1, mulF_2, negF_1, ltF_1, leF_1, gtF_1, geF_1, atE_1, ixF_1, ixF_2, ixF_3, pxE_1, ixF_4, plE_1, lenF_4, eMt_e, cMt_1, eCut_e, cCut_1, cCut2_1, qNone_e, qSome_e, toI_1, cutF_1, cutF_2, cutF_3, cutF_4, eCallK_e, cK_1, cK2_1, eDic0_e, oCat_e, cCat_1, cCat2_1, cCat3_1, lsT_1, lsT_2, rcv_p, apE_1, appF_1, stL_app, set_app, stL_0, stL_k, stL_c, stL_s, set_0, set_k, shE_1, shF_1, lenF_1, lenF_2, lenF_3, absF_1, intOfF_1, intOfF_2, rng1F_1, rng2F_1, Ar_e, mkD_e, fin_1, fin_2, fin_3, few_e, tupOfF_1, tupOfF_2, tupOfF_3, lstOfF_1, lstOfF_2, lstOfF_3, isF_1, gStar_1, cIf_1, Option.isSome_some, List.length_map, List.length_append, List.append_assoc, Nat.add_assoc, slots, wpD, List.map_cons, List.map_nil, List.cons_append, List.nil_append, List.length_cons, List.length_nil, List.replicate, List.set_cons_succ, List.set_cons_zero, List.getElem?_cons_zero, List.getElem?_cons_succ, if_true, if_false, ite_true, ite_false, reduceIte, Nat.reduceAdd, Nat.reduceSub, Nat.reduceLeDiff, Nat.zero_add, Nat.sub_zero, Nat.sub_self, Bool.not_true, Bool.not_false, Bool.false_eq_true, decide_true, decide_false, Bool.true_and, Bool.and_true, Bool.or_true, Bool.true_or, Bool.false_and, Bool.and_false, Bool.or_false, Bool.false_or, decide_eq_true_eq, id_eq, Int.reduceLT, Int.reduceLE, Int.reduceNeg, Int.reduceAdd, Int.reduceSub, Int.reduceMul, Int.reduceMod, Int.reduceDiv, Int.reducePow, Int.reduceToNat, and_self, true_and, and_true, gStar_1, eqF_int, isiF_tup, isiF_lst, isiF_int, isiF_str, isiF_bl, at_0, gSet_e, seO_1, seI_1, lenF_5, addF_4, sxE_1, ixF_5, itF_4, max2F_e, min2F_e, eM1_c, cM1_1, oM1_c, cN1_1, intAnyF_b, intAnyF_s, strOfF_1, eqF_str, eqH_int, eqH_str, dvmF_1, gTwo_1, eIf_e, e1, o1, e2, e3, ed]
  · simp only [List.mem_cons, List.not_mem_nil, or_false] at hd
    rcases hd with rfl | rfl | rfl | rfl
    · exact asked_tup hel2 (by omega)
    · exact asked_tup hel2 (by omega)
    · exact .inl ⟨"list", by decide, fun _ => rfl⟩
    · exact asked_tup (fun x hx => hel2 x (cut_mem hx)) (Nat.le_trans cut_len (by omega))
theorem any_ok {n c : Nat} {S : ST} (B : Bag n c S) (hc : c < 900) : ∃ d S', d__law_any [.ptr n] S = some (.ok d, S') ∧ Asked d ∧ Bag n (c + 1) S' := by
  obtain ⟨r1, S1, e1, l1, h1, B1⟩ := take_ok (m := 15) B (by omega) (by decide) (by decide)
  obtain ⟨d, hd, e⟩ := at_mem (xs := [D.non, .bl true, .bl false, .int (-1), .int 100000000000000000000000000000, .str "", .str "no", .str "a b", .lst [], .lst [.str "a"], .tup [.str "a"], .tup [], .dic [], .dic [(Sum.inr (Str.ofString "a"), .int 1)], .lst [.lst [.int 1]]]) l1 (by simpa using h1)
  refine ⟨d, S1, ?_, ?_, B1⟩
  · have k1 : keyD (.str "a") = some (Sum.inr (Str.ofString "a")) := rfl
    simp (config := { decide := true }) only [bd_1, bd_2, bs_1, bs_2, sq_1, sq_2, sq_3, sq_4, sq_5, vr_1, ga_1, lcE_1, sSeq_e, sAsg_e, cAsg_1, sRet_e, cRt_1, sDrop_e, cDr_1, sIf_e, cIf_t, cIf_f, sSkip_e, sBrk_e, sCnt_e, sPar_e, cPar_1, cPar2_1, sFor_e, cFor_1, gVar_e, eVar_e, eC_e, eOp_e, cOp_1, eUn_e, aNil_e, aCons_e, cA_1, cA2_1, eCall_e, oCall_e, iCall_e, iVal_e, toB_1, bVal_e, bAnd_e, cAnd_1, bOr_e, cOr_1, bNot_e, cNot_1, eAnd_e, cEAnd_1, cEAnd2_1, eOr_e, cEOr_1, cEOr2_1, eNot_e, cENot_1, cENot2_1, eIf_e, cEIf_1, eChain_e, cCh_1, cCh1_1, cCh2_1, cCh3_1, eTup_e, cTup_1, oLst_e, cLst_1, eFz_e, cFz_1, ePtr_e, cPtr_1, oLc_e, cLc_1, eSh_e, itF_1, itF_2, itF_3, addF_1, addF_2, addF_3, intF_1, subF_1, modF_1, fdvF_1, powF_1, mulF_1, mulF_2, negF_1, ltF_1, leF_1, gtF_1, geF_1, atE_1, ixF_1, ixF_2, ixF_3, pxE_1, ixF_4, plE_1, lenF_4, eMt_e, cMt_1, eCut_e, cCut_1, cCut2_1, qNone_e, qSome_e, toI_1, cutF_1, cutF_2, cutF_3, cutF_4, eCallK_e, cK_1, cK2_1, eDic0_e, oCat_e, cCat_1, cCat2_1, cCat3_1, lsT_1, lsT_2, rcv_p, apE_1, appF_1, stL_app, set_app, stL_0, stL_k, stL_c, stL_s, set_0, set_k, shE_1, shF_1, lenF_1, lenF_2, lenF_3, absF_1, intOfF_1, intOfF_2, rng1F_1, rng2F_1, Ar_e, mkD_e, fin_1, fin_2, fin_3, few_e, tupOfF_1, tupOfF_2, tupOfF_3, lstOfF_1, lstOfF_2, lstOfF_3, isF_1, gStar_1, cIf_1, Option.isSome_some, List.length_map, List.length_append, List.append_assoc, Nat.add_assoc, slots, wpD, List.map_cons, List.map_nil, List.cons_append, List.nil_append, List.length_cons, List.length_nil, List.replicate, List.set_cons_succ, List.set_cons_zero, List.getElem?_cons_zero, List.getElem?_cons_succ, if_true, if_false, ite_true, ite_false, reduceIte, Nat.reduceAdd, Nat.reduceSub, Nat.reduceLeDiff, Nat.zero_add, Nat.sub_zero, Nat.sub_self, Bool.not_true, Bool.not_false, Bool.false_eq_true, decide_true, decide_false, Bool.true_and, Bool.and_true, Bool.or_true, Bool.true_or, Bool.false_and, Bool.and_false, Bool.or_false, Bool.false_or, decide_eq_true_eq, id_eq, Int.reduceLT, Int.reduceLE, Int.reduceNeg, Int.reduceAdd, Int.reduceSub, Int.reduceMul, Int.reduceMod, Int.reduceDiv, Int.reducePow, Int.reduceToNat, and_self, true_and, and_true, gStar_1, eqF_int, isiF_tup, isiF_lst, isiF_int, isiF_str, isiF_bl, at_0, gSet_e, seO_1, seI_1, lenF_5, addF_4, sxE_1, ixF_5, itF_4, max2F_e, min2F_e, eM1_c, cM1_1, oM1_c, cN1_1, intAnyF_b, intAnyF_s, strOfF_1, eqF_str, eqH_int, eqH_str, dvmF_1, gTwo_1, eIf_e, d__law_any, b__law_any, e1, e, eDic1, k1]
  · have oth : ∀ (ty : String) (d : D), ty ≠ "tuple" → (∀ T, tyD T d = some ty) → Asked d := fun ty d h1 h2 => .inl ⟨ty, h1, h2⟩
    simp only [List.mem_cons, List.not_mem_nil, or_false] at hd
    rcases hd with rfl | rfl | rfl | rfl | rfl | rfl | rfl | rfl | rfl | rfl | rfl | rfl | rfl | rfl | rfl
    · exact oth "NoneType" _ (by decide) fun _ => rfl
    · exact oth "bool" _ (by decide) fun _ => rfl
    · exact oth "bool" _ (by decide) fun _ => rfl
    · exact oth "int" _ (by decide) fun _ => rfl
    · exact oth "int" _ (by decide) fun _ => rfl
    · exact oth "str" _ (by decide) fun _ => rfl
    · exact oth "str" _ (by decide) fun _ => rfl
    · exact oth "str" _ (by decide) fun _ => rfl
    · exact oth "list" _ (by decide) fun _ => rfl
    · exact oth "list" _ (by decide) fun _ => rfl
    · exact .inr (.inr ⟨.str "a", [], rfl, .inl ⟨_, rfl⟩, by simp, by simp⟩)
    · exact .inr (.inl rfl)
    · exact oth "dict" _ (by decide) fun _ => rfl
    · exact oth "dict" _ (by decide) fun _ => rfl
    · exact oth "list" _ (by decide) fun _ => rfl
end W04

set_option Elab.async false
set_option linter.all false
set_option maxRecDepth 100000
set_option maxHeartbeats 4000000
namespace W04
open PySem L2 U
/-! the rest hangs on the form alone: all forms are looked through -/
def rest (f : D) : Bool := match is__law_right_1 [none, some f, none, none, none, none, none, none, none, none, none, none, none, none] [] with
  | some (.rt (.bl true), _) => true
  | _ => false
theorem t_row_1 : rest (.tup [.str "row", .int ((1 : Nat) : Int)]) = true := by decide +kernel
theorem t_row_2 : rest (.tup [.str "row", .int ((2 : Nat) : Int)]) = true := by decide +kernel
theorem t_row_3 : rest (.tup [.str "row", .int ((3 : Nat) : Int)]) = true := by decide +kernel
theorem t_row_4 : rest (.tup [.str "row", .int ((4 : Nat) : Int)]) = true := by decide +kernel
theorem t_row_5 : rest (.tup [.str "row", .int ((5 : Nat) : Int)]) = true := by decide +kernel
theorem t_row_6 : rest (.tup [.str "row", .int ((6 : Nat) : Int)]) = true := by decide +kernel
theorem t_row_7 : rest (.tup [.str "row", .int ((7 : Nat) : Int)]) = true := by decide +kernel
theorem t_row_8 : rest (.tup [.str "row", .int ((8 : Nat) : Int)]) = true := by decide +kernel
theorem t_row_9 : rest (.tup [.str "row", .int ((9 : Nat) : Int)]) = true := by decide +kernel
theorem t_row_10 : rest (.tup [.str "row", .int ((10 : Nat) : Int)]) = true := by decide +kernel
theorem t_row_11 : rest (.tup [.str "row", .int ((11 : Nat) : Int)]) = true := by decide +kernel
theorem t_row_12 : rest (.tup [.str "row", .int ((12 : Nat) : Int)]) = true := by decide +kernel
theorem t_ring_1 : rest (.tup [.str "ring", .int ((1 : Nat) : Int)]) = true := by decide +kernel
theorem t_ring_2 : rest (.tup [.str "ring", .int ((2 : Nat) : Int)]) = true := by decide +kernel
theorem t_ring_3 : rest (.tup [.str "ring", .int ((3 : Nat) : Int)]) = true := by decide +kernel
theorem t_ring_4 : rest (.tup [.str "ring", .int ((4 : Nat) : Int)]) = true := by decide +kernel
theorem t_ring_5 : rest (.tup [.str "ring", .int ((5 : Nat) : Int)]) = true := by decide +kernel
theorem t_ring_6 : rest (.tup [.str "ring", .int ((6 : Nat) : Int)]) = true := by decide +kernel
theorem t_ring_7 : rest (.tup [.str "ring", .int ((7 : Nat) : Int)]) = true := by decide +kernel
theorem t_ring_8 : rest (.tup [.str "ring", .int ((8 : Nat) : Int)]) = true := by decide +kernel
theorem t_ring_9 : rest (.tup [.str "ring", .int ((9 : Nat) : Int)]) = true := by decide +kernel
theorem t_ring_10 : rest (.tup [.str "ring", .int ((10 : Nat) : Int)]) = true := by decide +kernel
theorem t_ring_11 : rest (.tup [.str "ring", .int ((11 : Nat) : Int)]) = true := by decide +kernel
theorem t_ring_12 : rest (.tup [.str "ring", .int ((12 : Nat) : Int)]) = true := by decide +kernel
theorem t_grid_1_1 : rest (.tup [.str "grid", .int ((1 : Nat) : Int), .int ((1 : Nat) : Int)]) = true := by decide +kernel
theorem t_grid_1_2 : rest (.tup [.str "grid", .int ((1 : Nat) : Int), .int ((2 : Nat) : Int)]) = true := by decide +kernel
theorem t_grid_1_3 : rest (.tup [.str "grid", .int ((1 : Nat) : Int), .int ((3 : Nat) : Int)]) = true := by decide +kernel
theorem t_grid_1_4 : rest (.tup [.str "grid", .int ((1 : Nat) : Int), .int ((4 : Nat) : Int)]) = true := by decide +kernel
theorem t_grid_1_5 : rest (.tup [.str "grid", .int ((1 : Nat) : Int), .int ((5 : Nat) : Int)]) = true := by decide +kernel
theorem t_grid_1_6 : rest (.tup [.str "grid", .int ((1 : Nat) : Int), .int ((6 : Nat) : Int)]) = true := by decide +kernel
theorem t_grid_1_7 : rest (.tup [.str "grid", .int ((1 : Nat) : Int), .int ((7 : Nat) : Int)]) = true := by decide +kernel
theorem t_grid_1_8 : rest (.tup [.str "grid", .int ((1 : Nat) : Int), .int ((8 : Nat) : Int)]) = true := by decide +kernel
theorem t_grid_1_9 : rest (.tup [.str "grid", .int ((1 : Nat) : Int), .int ((9 : Nat) : Int)]) = true := by decide +kernel
theorem t_grid_1_10 : rest (.tup [.str "grid", .int ((1 : Nat) : Int), .int ((10 : Nat) : Int)]) = true := by decide +kernel
theorem t_grid_1_11 : rest (.tup [.str "grid", .int ((1 : Nat) : Int), .int ((11 : Nat) : Int)]) = true := by decide +kernel
theorem t_grid_1_12 : rest (.tup [.str "grid", .int ((1 : Nat) : Int), .int ((12 : Nat) : Int)]) = true := by decide +kernel
theorem t_grid_2_1 : rest (.tup [.str "grid", .int ((2 : Nat) : Int), .int ((1 : Nat) : Int)]) = true := by decide +kernel
theorem t_grid_2_2 : rest (.tup [.str "grid", .int ((2 : Nat) : Int), .int ((2 : Nat) : Int)]) = true := by decide +kernel
theorem t_grid_2_3 : rest (.tup [.str "grid", .int ((2 : Nat) : Int), .int ((3 : Nat) : Int)]) = true := by decide +kernel
theorem t_grid_2_4 : rest (.tup [.str "grid", .int ((2 : Nat) : Int), .int ((4 : Nat) : Int)]) = true := by decide +kernel
theorem t_grid_2_5 : rest (.tup [.str "grid", .int ((2 : Nat) : Int), .int ((5 : Nat) : Int)]) = true := by decide +kernel
theorem t_grid_2_6 : rest (.tup [.str "grid", .int ((2 : Nat) : Int), .int ((6 : Nat) : Int)]) = true := by decide +kernel
theorem t_grid_3_1 : rest (.tup [.str "grid", .int ((3 : Nat) : Int), .int ((1 : Nat) : Int)]) = true := by decide +kernel
theorem t_grid_3_2 : rest (.tup [.str "grid", .int ((3 : Nat) : Int), .int ((2 : Nat) : Int)]) = true := by decide +kernel
theorem t_grid_3_3 : rest (.tup [.str "grid", .int ((3 : Nat) : Int), .int ((3 : Nat) : Int)]) = true := by decide +kernel
theorem t_grid_3_4 : rest (.tup [.str "grid", .int ((3 : Nat) : Int), .int ((4 : Nat) : Int)]) = true := by decide +kernel
theorem t_grid_4_1 : rest (.tup [.str "grid", .int ((4 : Nat) : Int), .int ((1 : Nat) : Int)]) = true := by decide +kernel
theorem t_grid_4_2 : rest (.tup [.str "grid", .int ((4 : Nat) : Int), .int ((2 : Nat) : Int)]) = true := by decide +kernel
theorem t_grid_4_3 : rest (.tup [.str "grid", .int ((4 : Nat) : Int), .int ((3 : Nat) : Int)]) = true := by decide +kernel
theorem t_grid_5_1 : rest (.tup [.str "grid", .int ((5 : Nat) : Int), .int ((1 : Nat) : Int)]) = true := by decide +kernel
theorem t_grid_5_2 : rest (.tup [.str "grid", .int ((5 : Nat) : Int), .int ((2 : Nat) : Int)]) = true := by decide +kernel
theorem t_grid_6_1 : rest (.tup [.str "grid", .int ((6 : Nat) : Int), .int ((1 : Nat) : Int)]) = true := by decide +kernel
theorem t_grid_6_2 : rest (.tup [.str "grid", .int ((6 : Nat) : Int), .int ((2 : Nat) : Int)]) = true := by decide +kernel
theorem t_grid_7_1 : rest (.tup [.str "grid", .int ((7 : Nat) : Int), .int ((1 : Nat) : Int)]) = true := by decide +kernel
theorem t_grid_8_1 : rest (.tup [.str "grid", .int ((8 : Nat) : Int), .int ((1 : Nat) : Int)]) = true := by decide +kernel
theorem t_grid_9_1 : rest (.tup [.str "grid", .int ((9 : Nat) : Int), .int ((1 : Nat) : Int)]) = true := by decide +kernel
theorem t_grid_10_1 : rest (.tup [.str "grid", .int ((10 : Nat) : Int), .int ((1 : Nat) : Int)]) = true := by decide +kernel
theorem t_grid_11_1 : rest (.tup [.str "grid", .int ((11 : Nat) : Int), .int ((1 : Nat) : Int)]) = true := by decide +kernel
theorem t_grid_12_1 : rest (.tup [.str "grid", .int ((12 : Nat) : Int), .int ((1 : Nat) : Int)]) = true := by decide +kernel
theorem form_rest {f : D} (h : Form f) : rest f = true := by
  cases h with
  | row n h1 h2 =>
    rcases (show n = 1 ∨ n = 2 ∨ n = 3 ∨ n = 4 ∨ n = 5 ∨ n = 6 ∨ n = 7 ∨ n = 8 ∨ n = 9 ∨ n = 10 ∨ n = 11 ∨ n = 12 by omega) with rfl | rfl | rfl | rfl | rfl | rfl | rfl | rfl | rfl | rfl | rfl | rfl
    · exact t_row_1
    · exact t_row_2
    · exact t_row_3
    · exact t_row_4
    · exact t_row_5
    · exact t_row_6
    · exact t_row_7
    · exact t_row_8
    · exact t_row_9
    · exact t_row_10
    · exact t_row_11
    · exact t_row_12
  | ring n h1 h2 =>
    rcases (show n = 1 ∨ n = 2 ∨ n = 3 ∨ n = 4 ∨ n = 5 ∨ n = 6 ∨ n = 7 ∨ n = 8 ∨ n = 9 ∨ n = 10 ∨ n = 11 ∨ n = 12 by omega) with rfl | rfl | rfl | rfl | rfl | rfl | rfl | rfl | rfl | rfl | rfl | rfl
    · exact t_ring_1
    · exact t_ring_2
    · exact t_ring_3
    · exact t_ring_4
    · exact t_ring_5
    · exact t_ring_6
    · exact t_ring_7
    · exact t_ring_8
    · exact t_ring_9
    · exact t_ring_10
    · exact t_ring_11
    · exact t_ring_12
  | grid w h h1 h2 h3 =>
    have hw : w ≤ 12 := Nat.le_trans (Nat.le_mul_of_pos_right w (by omega)) h3
    rcases (show w = 1 ∨ w = 2 ∨ w = 3 ∨ w = 4 ∨ w = 5 ∨ w = 6 ∨ w = 7 ∨ w = 8 ∨ w = 9 ∨ w = 10 ∨ w = 11 ∨ w = 12 by omega) with rfl | rfl | rfl | rfl | rfl | rfl | rfl | rfl | rfl | rfl | rfl | rfl
    · rcases (show h = 1 ∨ h = 2 ∨ h = 3 ∨ h = 4 ∨ h = 5 ∨ h = 6 ∨ h = 7 ∨ h = 8 ∨ h = 9 ∨ h = 10 ∨ h = 11 ∨ h = 12 by omega) with rfl | rfl | rfl | rfl | rfl | rfl | rfl | rfl | rfl | rfl | rfl | rfl
      · exact t_grid_1_1
      · exact t_grid_1_2
      · exact t_grid_1_3
      · exact t_grid_1_4
      · exact t_grid_1_5
      · exact t_grid_1_6
      · exact t_grid_1_7
      · exact t_grid_1_8
      · exact t_grid_1_9
      · exact t_grid_1_10
      · exact t_grid_1_11
      · exact t_grid_1_12
    · rcases (show h = 1 ∨ h = 2 ∨ h = 3 ∨ h = 4 ∨ h = 5 ∨ h = 6 by omega) with rfl | rfl | rfl | rfl | rfl | rfl
      · exact t_grid_2_1
      · exact t_grid_2_2
      · exact t_grid_2_3
      · exact t_grid_2_4
      · exact t_grid_2_5
      · exact t_grid_2_6
    · rcases (show h = 1 ∨ h = 2 ∨ h = 3 ∨ h = 4 by omega) with rfl | rfl | rfl | rfl
      · exact t_grid_3_1
      · exact t_grid_3_2
      · exact t_grid_3_3
      · exact t_grid_3_4
    · rcases (show h = 1 ∨ h = 2 ∨ h = 3 by omega) with rfl | rfl | rfl
      · exact t_grid_4_1
      · exact t_grid_4_2
      · exact t_grid_4_3
    · rcases (show h = 1 ∨ h = 2 by omega) with rfl | rfl
      · exact t_grid_5_1
      · exact t_grid_5_2
    · rcases (show h = 1 ∨ h = 2 by omega) with rfl | rfl
      · exact t_grid_6_1
      · exact t_grid_6_2
    · obtain rfl : h = 1 := by omega
      exact t_grid_7_1
    · obtain rfl : h = 1 := by omega
      exact t_grid_8_1
    · obtain rfl : h = 1 := by omega
      exact t_grid_9_1
    · obtain rfl : h = 1 := by omega
      exact t_grid_10_1
    · obtain rfl : h = 1 := by omega
      exact t_grid_11_1
    · obtain rfl : h = 1 := by omega
      exact t_grid_12_1
theorem form_np {f : D} (h : Form f) : nP f = true := by cases h <;> rfl
theorem iso_ok {f : D} (h : Form f) (S : ST) (x0 x2 x3 : Option D) : sIso [1] is__law_right_1 [x0, some f, x2, x3, none, none, none, none, none, none, none, none, none, none] S = some (.rt (.bl true), S) := by
  have hk : keepS [1] [x0, some f, x2, x3, none, none, none, none, none, none, none, none, none, none] = [none, some f, none, none, none, none, none, none, none, none, none, none, none, none] := by
    have hn : noP 16 f = true := form_np h
    cases x0 <;> cases x2 <;> cases x3 <;> simp [keepS, hn]
  have hr := form_rest h
  unfold rest at hr
  unfold sIso
  rw [hk]
  split at hr
  · rename_i e
    rw [e]
    rfl
  · cases hr
theorem eqH_bb (b : Bool) (S : ST) : eqH not (.bl b) (.bl b) S = some (.ok (.bl false), S) := by cases b <;> rfl
theorem right_ok {n : Nat} {S : ST} (B : Bag n 0 S) : ∃ S', d__law_right [.ptr n] S = some (.ok (.bl true), S') := by
  obtain ⟨f, S1, c1, e1, hf, B, h1⟩ := shape_ok B (by omega)
  obtain ⟨o1, S2, c2, e2, q1, B, h2⟩ := odd_ok hf B (by omega)
  obtain ⟨o2, S3, c3, e3, q2, B, h3⟩ := odd_ok hf B (by omega)
  obtain ⟨o3, S4, e4, q3, B⟩ := any_ok B (by omega)
  obtain ⟨fs, rfl, hel, hl, _⟩ := form_els hf
  have qf : Asked (.tup fs) := asked_tup hel (by omega)
  have ql : Asked (.lst fs) := .inl ⟨"list", by decide, fun _ => rfl⟩
  have qe : Asked (.tup []) := .inr (.inl rfl)
  have hall : ∀ d ∈ [D.tup fs, .lst fs, o1, o2, o3, .tup []], Asked d := by
    intro d hd
    simp only [List.mem_cons, List.not_mem_nil, or_false] at hd
    rcases hd with rfl | rfl | rfl | rfl | rfl | rfl <;> assumption
  obtain ⟨g', S', elp, x2, x3, rfl⟩ := for_inv (tg := gVar 2) (body := lp__law_right_5) (fun g _ => ∃ x2 x3, g = [some (.ptr n), some (.tup fs), x2, x3, none, none, none, none, none, none, none, none, none, none]) [D.tup fs, .lst fs, o1, o2, o3, .tup []] [some (.ptr n), some (.tup fs), none, none, none, none, none, none, none, none, none, none, none, none] S4 (by
    intro d hd g S hg
    obtain ⟨x2, x3, rfl⟩ := hg
    obtain ⟨b, eb1, eb2⟩ := asked_eq (hall d hd) S
    refine ⟨_, _, [some (.ptr n), some (.tup fs), some d, some (.bl b), none, none, none, none, none, none, none, none, none, none], S, rfl, ?_, _, _, rfl⟩
    have t1 : isaB "bool" "bool" = true := by decide
    simp (config := { decide := true }) only [bd_1, bd_2, bs_1, bs_2, sq_1, sq_2, sq_3, sq_4, sq_5, vr_1, ga_1, lcE_1, sSeq_e, sAsg_e, cAsg_1, sRet_e, cRt_1, sDrop_e, cDr_1, sIf_e, cIf_t, cIf_f, sSkip_e, sBrk_e, sCnt_e, sPar_e, cPar_1, cPar2_1, sFor_e, cFor_1, gVar_e, eVar_e, eC_e, eOp_e, cOp_1, eUn_e, aNil_e, aCons_e, cA_1, cA2_1, eCall_e, oCall_e, iCall_e, iVal_e, toB_1, bVal_e, bAnd_e, cAnd_1, bOr_e, cOr_1, bNot_e, cNot_1, eAnd_e, cEAnd_1, cEAnd2_1, eOr_e, cEOr_1, cEOr2_1, eNot_e, cENot_1, cENot2_1, eIf_e, cEIf_1, eChain_e, cCh_1, cCh1_1, cCh2_1, cCh3_1, eTup_e, cTup_1, oLst_e, cLst_1, eFz_e, cFz_1, ePtr_e, cPtr_1, oLc_e, cLc_1, eSh_e, itF_1, itF_2, itF_3, addF_1, addF_2, addF_3, intF_1, subF_1, modF_1, fdvF_1, powF_1, mulF_1, mulF_2, negF_1, ltF_1, leF_1, gtF_1, geF_1, atE_1, ixF_1, ixF_2, ixF_3, pxE_1, ixF_4, plE_1, lenF_4, eMt_e, cMt_1, eCut_e, cCut_1, cCut2_1, qNone_e, qSome_e, toI_1, cutF_1, cutF_2, cutF_3, cutF_4, eCallK_e, cK_1, cK2_1, eDic0_e, oCat_e, cCat_1, cCat2_1, cCat3_1, lsT_1, lsT_2, rcv_p, apE_1, appF_1, stL_app, set_app, stL_0, stL_k, stL_c, stL_s, set_0, set_k, shE_1, shF_1, lenF_1, lenF_2, lenF_3, absF_1, intOfF_1, intOfF_2, rng1F_1, rng2F_1, Ar_e, mkD_e, fin_1, fin_2, fin_3, few_e, tupOfF_1, tupOfF_2, tupOfF_3, lstOfF_1, lstOfF_2, lstOfF_3, isF_1, gStar_1, cIf_1, Option.isSome_some, List.length_map, List.length_append, List.append_assoc, Nat.add_assoc, slots, wpD, List.map_cons, List.map_nil, List.cons_append, List.nil_append, List.length_cons, List.length_nil, List.replicate, List.set_cons_succ, List.set_cons_zero, List.getElem?_cons_zero, List.getElem?_cons_succ, if_true, if_false, ite_true, ite_false, reduceIte, Nat.reduceAdd, Nat.reduceSub, Nat.reduceLeDiff, Nat.zero_add, Nat.sub_zero, Nat.sub_self, Bool.not_true, Bool.not_false, Bool.false_eq_true, decide_true, decide_false, Bool.true_and, Bool.and_true, Bool.or_true, Bool.true_or, Bool.false_and, Bool.and_false, Bool.or_false, Bool.false_or, decide_eq_true_eq, id_eq, Int.reduceLT, Int.reduceLE, Int.reduceNeg, Int.reduceAdd, Int.reduceSub, Int.reduceMul, Int.reduceMod, Int.reduceDiv, Int.reducePow, Int.reduceToNat, and_self, true_and, and_true, gStar_1, eqF_int, isiF_tup, isiF_lst, isiF_int, isiF_str, isiF_bl, at_0, gSet_e, seO_1, seI_1, lenF_5, addF_4, sxE_1, ixF_5, itF_4, max2F_e, min2F_e, eM1_c, cM1_1, oM1_c, cN1_1, intAnyF_b, intAnyF_s, strOfF_1, eqF_str, eqH_int, eqH_str, dvmF_1, gTwo_1, eIf_e, lp__law_right_5, eb1, eb2, t1, eqH_bb]) ⟨_, _, rfl⟩
  refine ⟨S', ?_⟩
  have ei := iso_ok hf S' (some (.ptr n)) x2 x3
  simp (config := { decide := true }) only [bd_1, bd_2, bs_1, bs_2, sq_1, sq_2, sq_3, sq_4, sq_5, vr_1, ga_1, lcE_1, sSeq_e, sAsg_e, cAsg_1, sRet_e, cRt_1, sDrop_e, cDr_1, sIf_e, cIf_t, cIf_f, sSkip_e, sBrk_e, sCnt_e, sPar_e, cPar_1, cPar2_1, sFor_e, cFor_1, gVar_e, eVar_e, eC_e, eOp_e, cOp_1, eUn_e, aNil_e, aCons_e, cA_1, cA2_1, eCall_e, oCall_e, iCall_e, iVal_e, toB_1, bVal_e, bAnd_e, cAnd_1, bOr_e, cOr_1, bNot_e, cNot_1, eAnd_e, cEAnd_1, cEAnd2_1, eOr_e, cEOr_1, cEOr2_1, eNot_e, cENot_1, cENot2_1, eIf_e, cEIf_1, eChain_e, cCh_1, cCh1_1, cCh2_1, cCh3_1, eTup_e, cTup_1, oLst_e, cLst_1, eFz_e, cFz_1, ePtr_e, cPtr_1, oLc_e, cLc_1, eSh_e, itF_1, itF_2, itF_3, addF_1, addF_2, addF_3, intF_1, subF_1, modF_1, fdvF_1, powF_1, mulF_1, mulF_2, negF_1, ltF_1, leF_1, gtF_1, geF_1, atE_1, ixF_1, ixF_2, ixF_3, pxE_1, ixF_4, plE_1, lenF_4, eMt_e, cMt_1, eCut_e, cCut_1, cCut2_1, qNone_e, qSome_e, toI_1, cutF_1, cutF_2, cutF_3, cutF_4, eCallK_e, cK_1, cK2_1, eDic0_e, oCat_e, cCat_1, cCat2_1, cCat3_1, lsT_1, lsT_2, rcv_p, apE_1, appF_1, stL_app, set_app, stL_0, stL_k, stL_c, stL_s, set_0, set_k, shE_1, shF_1, lenF_1, lenF_2, lenF_3, absF_1, intOfF_1, intOfF_2, rng1F_1, rng2F_1, Ar_e, mkD_e, fin_1, fin_2, fin_3, few_e, tupOfF_1, tupOfF_2, tupOfF_3, lstOfF_1, lstOfF_2, lstOfF_3, isF_1, gStar_1, cIf_1, Option.isSome_some, List.length_map, List.length_append, List.append_assoc, Nat.add_assoc, slots, wpD, List.map_cons, List.map_nil, List.cons_append, List.nil_append, List.length_cons, List.length_nil, List.replicate, List.set_cons_succ, List.set_cons_zero, List.getElem?_cons_zero, List.getElem?_cons_succ, if_true, if_false, ite_true, ite_false, reduceIte, Nat.reduceAdd, Nat.reduceSub, Nat.reduceLeDiff, Nat.zero_add, Nat.sub_zero, Nat.sub_self, Bool.not_true, Bool.not_false, Bool.false_eq_true, decide_true, decide_false, Bool.true_and, Bool.and_true, Bool.or_true, Bool.true_or, Bool.false_and, Bool.and_false, Bool.or_false, Bool.false_or, decide_eq_true_eq, id_eq, Int.reduceLT, Int.reduceLE, Int.reduceNeg, Int.reduceAdd, Int.reduceSub, Int.reduceMul, Int.reduceMod, Int.reduceDiv, Int.reducePow, Int.reduceToNat, and_self, true_and, and_true, gStar_1, eqF_int, isiF_tup, isiF_lst, isiF_int, isiF_str, isiF_bl, at_0, gSet_e, seO_1, seI_1, lenF_5, addF_4, sxE_1, ixF_5, itF_4, max2F_e, min2F_e, eM1_c, cM1_1, oM1_c, cN1_1, intAnyF_b, intAnyF_s, strOfF_1, eqF_str, eqH_int, eqH_str, dvmF_1, gTwo_1, eIf_e, d__law_right, b__law_right, e1, e2, e3, e4, elp, ei]
theorem law_true (ns : List Int) (h : ns.length ≤ 63) : ∃ S', d_law [.kls (ns.map .int)] [] = some (.ok (.bl true), S') := by
  have cell : ∀ (k : Nat) (S : ST), ∃ x : Int, d__law_cell [.kls (ns.map .int), .int k] S = some (.ok (.int x), S) := by
    intro k S
    by_cases h1 : k < ns.length
    · have h1' : (k : Int) < ns.length := by omega
      have hk : atI (ns.map D.int) (k : Int) = some (.int (ns.getD k 0)) := at_int k h1
      exact ⟨ns.getD k 0, by simp (config := { decide := true }) only [bd_1, bd_2, bs_1, bs_2, sq_1, sq_2, sq_3, sq_4, sq_5, vr_1, ga_1, lcE_1, sSeq_e, sAsg_e, cAsg_1, sRet_e, cRt_1, sDrop_e, cDr_1, sIf_e, cIf_t, cIf_f, sSkip_e, sBrk_e, sCnt_e, sPar_e, cPar_1, cPar2_1, sFor_e, cFor_1, gVar_e, eVar_e, eC_e, eOp_e, cOp_1, eUn_e, aNil_e, aCons_e, cA_1, cA2_1, eCall_e, oCall_e, iCall_e, iVal_e, toB_1, bVal_e, bAnd_e, cAnd_1, bOr_e, cOr_1, bNot_e, cNot_1, eAnd_e, cEAnd_1, cEAnd2_1, eOr_e, cEOr_1, cEOr2_1, eNot_e, cENot_1, cENot2_1, eIf_e, cEIf_1, eChain_e, cCh_1, cCh1_1, cCh2_1, cCh3_1, eTup_e, cTup_1, oLst_e, cLst_1, eFz_e, cFz_1, ePtr_e, cPtr_1, oLc_e, cLc_1, eSh_e, itF_1, itF_2, itF_3, addF_1, addF_2, addF_3, intF_1, subF_1, modF_1, fdvF_1, powF_1, mulF_1, mulF_2, negF_1, ltF_1, leF_1, gtF_1, geF_1, atE_1, ixF_1, ixF_2, ixF_3, pxE_1, ixF_4, plE_1, lenF_4, eMt_e, cMt_1, eCut_e, cCut_1, cCut2_1, qNone_e, qSome_e, toI_1, cutF_1, cutF_2, cutF_3, cutF_4, eCallK_e, cK_1, cK2_1, eDic0_e, oCat_e, cCat_1, cCat2_1, cCat3_1, lsT_1, lsT_2, rcv_p, apE_1, appF_1, stL_app, set_app, stL_0, stL_k, stL_c, stL_s, set_0, set_k, shE_1, shF_1, lenF_1, lenF_2, lenF_3, absF_1, intOfF_1, intOfF_2, rng1F_1, rng2F_1, Ar_e, mkD_e, fin_1, fin_2, fin_3, few_e, tupOfF_1, tupOfF_2, tupOfF_3, lstOfF_1, lstOfF_2, lstOfF_3, isF_1, gStar_1, cIf_1, Option.isSome_some, List.length_map, List.length_append, List.append_assoc, Nat.add_assoc, slots, wpD, List.map_cons, List.map_nil, List.cons_append, List.nil_append, List.length_cons, List.length_nil, List.replicate, List.set_cons_succ, List.set_cons_zero, List.getElem?_cons_zero, List.getElem?_cons_succ, if_true, if_false, ite_true, ite_false, reduceIte, Nat.reduceAdd, Nat.reduceSub, Nat.reduceLeDiff, Nat.zero_add, Nat.sub_zero, Nat.sub_self, Bool.not_true, Bool.not_false, Bool.false_eq_true, decide_true, decide_false, Bool.true_and, Bool.and_true, Bool.or_true, Bool.true_or, Bool.false_and, Bool.and_false, Bool.or_false, Bool.false_or, decide_eq_true_eq, id_eq, Int.reduceLT, Int.reduceLE, Int.reduceNeg, Int.reduceAdd, Int.reduceSub, Int.reduceMul, Int.reduceMod, Int.reduceDiv, Int.reducePow, Int.reduceToNat, and_self, true_and, and_true, gStar_1, eqF_int, isiF_tup, isiF_lst, isiF_int, isiF_str, isiF_bl, at_0, gSet_e, seO_1, seI_1, lenF_5, addF_4, sxE_1, ixF_5, itF_4, max2F_e, min2F_e, eM1_c, cM1_1, oM1_c, cN1_1, intAnyF_b, intAnyF_s, strOfF_1, eqF_str, eqH_int, eqH_str, dvmF_1, gTwo_1, eIf_e, d__law_cell, b__law_cell, h1', hk]⟩
    · have h1' : ¬ (k : Int) < ns.length := by omega
      exact ⟨48611 * k + 41, by simp (config := { decide := true }) only [bd_1, bd_2, bs_1, bs_2, sq_1, sq_2, sq_3, sq_4, sq_5, vr_1, ga_1, lcE_1, sSeq_e, sAsg_e, cAsg_1, sRet_e, cRt_1, sDrop_e, cDr_1, sIf_e, cIf_t, cIf_f, sSkip_e, sBrk_e, sCnt_e, sPar_e, cPar_1, cPar2_1, sFor_e, cFor_1, gVar_e, eVar_e, eC_e, eOp_e, cOp_1, eUn_e, aNil_e, aCons_e, cA_1, cA2_1, eCall_e, oCall_e, iCall_e, iVal_e, toB_1, bVal_e, bAnd_e, cAnd_1, bOr_e, cOr_1, bNot_e, cNot_1, eAnd_e, cEAnd_1, cEAnd2_1, eOr_e, cEOr_1, cEOr2_1, eNot_e, cENot_1, cENot2_1, eIf_e, cEIf_1, eChain_e, cCh_1, cCh1_1, cCh2_1, cCh3_1, eTup_e, cTup_1, oLst_e, cLst_1, eFz_e, cFz_1, ePtr_e, cPtr_1, oLc_e, cLc_1, eSh_e, itF_1, itF_2, itF_3, addF_1, addF_2, addF_3, intF_1, subF_1, modF_1, fdvF_1, powF_1, mulF_1, mulF_2, negF_1, ltF_1, leF_1, gtF_1, geF_1, atE_1, ixF_1, ixF_2, ixF_3, pxE_1, ixF_4, plE_1, lenF_4, eMt_e, cMt_1, eCut_e, cCut_1, cCut2_1, qNone_e, qSome_e, toI_1, cutF_1, cutF_2, cutF_3, cutF_4, eCallK_e, cK_1, cK2_1, eDic0_e, oCat_e, cCat_1, cCat2_1, cCat3_1, lsT_1, lsT_2, rcv_p, apE_1, appF_1, stL_app, set_app, stL_0, stL_k, stL_c, stL_s, set_0, set_k, shE_1, shF_1, lenF_1, lenF_2, lenF_3, absF_1, intOfF_1, intOfF_2, rng1F_1, rng2F_1, Ar_e, mkD_e, fin_1, fin_2, fin_3, few_e, tupOfF_1, tupOfF_2, tupOfF_3, lstOfF_1, lstOfF_2, lstOfF_3, isF_1, gStar_1, cIf_1, Option.isSome_some, List.length_map, List.length_append, List.append_assoc, Nat.add_assoc, slots, wpD, List.map_cons, List.map_nil, List.cons_append, List.nil_append, List.length_cons, List.length_nil, List.replicate, List.set_cons_succ, List.set_cons_zero, List.getElem?_cons_zero, List.getElem?_cons_succ, if_true, if_false, ite_true, ite_false, reduceIte, Nat.reduceAdd, Nat.reduceSub, Nat.reduceLeDiff, Nat.zero_add, Nat.sub_zero, Nat.sub_self, Bool.not_true, Bool.not_false, Bool.false_eq_true, decide_true, decide_false, Bool.true_and, Bool.and_true, Bool.or_true, Bool.true_or, Bool.false_and, Bool.and_false, Bool.or_false, Bool.false_or, decide_eq_true_eq, id_eq, Int.reduceLT, Int.reduceLE, Int.reduceNeg, Int.reduceAdd, Int.reduceSub, Int.reduceMul, Int.reduceMod, Int.reduceDiv, Int.reducePow, Int.reduceToNat, and_self, true_and, and_true, gStar_1, eqF_int, isiF_tup, isiF_lst, isiF_int, isiF_str, isiF_bl, at_0, gSet_e, seO_1, seI_1, lenF_5, addF_4, sxE_1, ixF_5, itF_4, max2F_e, min2F_e, eM1_c, cM1_1, oM1_c, cN1_1, intAnyF_b, intAnyF_s, strOfF_1, eqF_str, eqH_int, eqH_str, dvmF_1, gTwo_1, eIf_e, d__law_cell, b__law_cell, h1']⟩
  have bag : ∀ (x : Int) (S : ST), ∃ S', d__law_bag [.int x] S = some (.ok (.ptr S.length), S') ∧ Bag S.length 0 S' := by
    intro x S
    have m0 : 0 ≤ x % 2147483629 := Int.emod_nonneg _ (by decide)
    have m1 : x % 2147483629 < 2147483629 := Int.emod_lt_of_pos _ (by decide)
    refine ⟨S ++ [.lst [.int (if x - 1000000000000000000 > 0 then x - 1000000000000000000 else 0), .int (x % 2147483629), .int 0]], ?_, ⟨_, _, 0, stL_app, ?_, m0, m1, Nat.le_refl 0⟩⟩
    · simp (config := { decide := true }) only [bd_1, bd_2, bs_1, bs_2, sq_1, sq_2, sq_3, sq_4, sq_5, vr_1, ga_1, lcE_1, sSeq_e, sAsg_e, cAsg_1, sRet_e, cRt_1, sDrop_e, cDr_1, sIf_e, cIf_t, cIf_f, sSkip_e, sBrk_e, sCnt_e, sPar_e, cPar_1, cPar2_1, sFor_e, cFor_1, gVar_e, eVar_e, eC_e, eOp_e, cOp_1, eUn_e, aNil_e, aCons_e, cA_1, cA2_1, eCall_e, oCall_e, iCall_e, iVal_e, toB_1, bVal_e, bAnd_e, cAnd_1, bOr_e, cOr_1, bNot_e, cNot_1, eAnd_e, cEAnd_1, cEAnd2_1, eOr_e, cEOr_1, cEOr2_1, eNot_e, cENot_1, cENot2_1, eIf_e, cEIf_1, eChain_e, cCh_1, cCh1_1, cCh2_1, cCh3_1, eTup_e, cTup_1, oLst_e, cLst_1, eFz_e, cFz_1, ePtr_e, cPtr_1, oLc_e, cLc_1, eSh_e, itF_1, itF_2, itF_3, addF_1, addF_2, addF_3, intF_1, subF_1, modF_1, fdvF_1, powF_1, mulF_1, mulF_2, negF_1, ltF_1, leF_1, gtF_1, geF_1, atE_1, ixF_1, ixF_2, ixF_3, pxE_1, ixF_4, plE_1, lenF_4, eMt_e, cMt_1, eCut_e, cCut_1, cCut2_1, qNone_e, qSome_e, toI_1, cutF_1, cutF_2, cutF_3, cutF_4, eCallK_e, cK_1, cK2_1, eDic0_e, oCat_e, cCat_1, cCat2_1, cCat3_1, lsT_1, lsT_2, rcv_p, apE_1, appF_1, stL_app, set_app, stL_0, stL_k, stL_c, stL_s, set_0, set_k, shE_1, shF_1, lenF_1, lenF_2, lenF_3, absF_1, intOfF_1, intOfF_2, rng1F_1, rng2F_1, Ar_e, mkD_e, fin_1, fin_2, fin_3, few_e, tupOfF_1, tupOfF_2, tupOfF_3, lstOfF_1, lstOfF_2, lstOfF_3, isF_1, gStar_1, cIf_1, Option.isSome_some, List.length_map, List.length_append, List.append_assoc, Nat.add_assoc, slots, wpD, List.map_cons, List.map_nil, List.cons_append, List.nil_append, List.length_cons, List.length_nil, List.replicate, List.set_cons_succ, List.set_cons_zero, List.getElem?_cons_zero, List.getElem?_cons_succ, if_true, if_false, ite_true, ite_false, reduceIte, Nat.reduceAdd, Nat.reduceSub, Nat.reduceLeDiff, Nat.zero_add, Nat.sub_zero, Nat.sub_self, Bool.not_true, Bool.not_false, Bool.false_eq_true, decide_true, decide_false, Bool.true_and, Bool.and_true, Bool.or_true, Bool.true_or, Bool.false_and, Bool.and_false, Bool.or_false, Bool.false_or, decide_eq_true_eq, id_eq, Int.reduceLT, Int.reduceLE, Int.reduceNeg, Int.reduceAdd, Int.reduceSub, Int.reduceMul, Int.reduceMod, Int.reduceDiv, Int.reducePow, Int.reduceToNat, and_self, true_and, and_true, gStar_1, eqF_int, isiF_tup, isiF_lst, isiF_int, isiF_str, isiF_bl, at_0, gSet_e, seO_1, seI_1, lenF_5, addF_4, sxE_1, ixF_5, itF_4, max2F_e, min2F_e, eM1_c, cM1_1, oM1_c, cN1_1, intAnyF_b, intAnyF_s, strOfF_1, eqF_str, eqH_int, eqH_str, dvmF_1, gTwo_1, eIf_e, d__law_bag, b__law_bag]
    · split <;> omega
  have n1 : ∀ m : Int, m ≤ 12 → -4611686018427387904 ≤ (if m > 3 then m else 3) ∧ (if m > 3 then m else 3) < 4611686018427387904 := by
    intro m hm
    split <;> omega
  have n2 : (if (ns.length : Int) < 12 then (ns.length : Int) else 12) ≤ 12 := by split <;> omega
  obtain ⟨q1, q2⟩ := n1 _ n2
  obtain ⟨g', S', e, b1, rfl⟩ := for_inv (tg := gVar 1) (body := lp_law_1) (fun g _ => ∃ b1, g = [some (.kls (ns.map .int)), b1]) (rngD 0 (if (if (ns.length : Int) < 12 then (ns.length : Int) else 12) > 3 then (if (ns.length : Int) < 12 then (ns.length : Int) else 12) else 3)) [some (.kls (ns.map .int)), none] [] (by
    intro d hd g S hg
    obtain ⟨b1, rfl⟩ := hg
    obtain ⟨k, _, rfl⟩ := rng_mem hd
    obtain ⟨x, hx⟩ := cell k S
    obtain ⟨S1, e1, B⟩ := bag x S
    obtain ⟨S2, e2⟩ := right_ok B
    refine ⟨_, _, [some (.kls (ns.map .int)), some (.int k)], S2, rfl, ?_, _, rfl⟩
    simp (config := { decide := true }) only [bd_1, bd_2, bs_1, bs_2, sq_1, sq_2, sq_3, sq_4, sq_5, vr_1, ga_1, lcE_1, sSeq_e, sAsg_e, cAsg_1, sRet_e, cRt_1, sDrop_e, cDr_1, sIf_e, cIf_t, cIf_f, sSkip_e, sBrk_e, sCnt_e, sPar_e, cPar_1, cPar2_1, sFor_e, cFor_1, gVar_e, eVar_e, eC_e, eOp_e, cOp_1, eUn_e, aNil_e, aCons_e, cA_1, cA2_1, eCall_e, oCall_e, iCall_e, iVal_e, toB_1, bVal_e, bAnd_e, cAnd_1, bOr_e, cOr_1, bNot_e, cNot_1, eAnd_e, cEAnd_1, cEAnd2_1, eOr_e, cEOr_1, cEOr2_1, eNot_e, cENot_1, cENot2_1, eIf_e, cEIf_1, eChain_e, cCh_1, cCh1_1, cCh2_1, cCh3_1, eTup_e, cTup_1, oLst_e, cLst_1, eFz_e, cFz_1, ePtr_e, cPtr_1, oLc_e, cLc_1, eSh_e, itF_1, itF_2, itF_3, addF_1, addF_2, addF_3, intF_1, subF_1, modF_1, fdvF_1, powF_1, mulF_1, mulF_2, negF_1, ltF_1, leF_1, gtF_1, geF_1, atE_1, ixF_1, ixF_2, ixF_3, pxE_1, ixF_4, plE_1, lenF_4, eMt_e, cMt_1, eCut_e, cCut_1, cCut2_1, qNone_e, qSome_e, toI_1, cutF_1, cutF_2, cutF_3, cutF_4, eCallK_e, cK_1, cK2_1, eDic0_e, oCat_e, cCat_1, cCat2_1, cCat3_1, lsT_1, lsT_2, rcv_p, apE_1, appF_1, stL_app, set_app, stL_0, stL_k, stL_c, stL_s, set_0, set_k, shE_1, shF_1, lenF_1, lenF_2, lenF_3, absF_1, intOfF_1, intOfF_2, rng1F_1, rng2F_1, Ar_e, mkD_e, fin_1, fin_2, fin_3, few_e, tupOfF_1, tupOfF_2, tupOfF_3, lstOfF_1, lstOfF_2, lstOfF_3, isF_1, gStar_1, cIf_1, Option.isSome_some, List.length_map, List.length_append, List.append_assoc, Nat.add_assoc, slots, wpD, List.map_cons, List.map_nil, List.cons_append, List.nil_append, List.length_cons, List.length_nil, List.replicate, List.set_cons_succ, List.set_cons_zero, List.getElem?_cons_zero, List.getElem?_cons_succ, if_true, if_false, ite_true, ite_false, reduceIte, Nat.reduceAdd, Nat.reduceSub, Nat.reduceLeDiff, Nat.zero_add, Nat.sub_zero, Nat.sub_self, Bool.not_true, Bool.not_false, Bool.false_eq_true, decide_true, decide_false, Bool.true_and, Bool.and_true, Bool.or_true, Bool.true_or, Bool.false_and, Bool.and_false, Bool.or_false, Bool.false_or, decide_eq_true_eq, id_eq, Int.reduceLT, Int.reduceLE, Int.reduceNeg, Int.reduceAdd, Int.reduceSub, Int.reduceMul, Int.reduceMod, Int.reduceDiv, Int.reducePow, Int.reduceToNat, and_self, true_and, and_true, gStar_1, eqF_int, isiF_tup, isiF_lst, isiF_int, isiF_str, isiF_bl, at_0, gSet_e, seO_1, seI_1, lenF_5, addF_4, sxE_1, ixF_5, itF_4, max2F_e, min2F_e, eM1_c, cM1_1, oM1_c, cN1_1, intAnyF_b, intAnyF_s, strOfF_1, eqF_str, eqH_int, eqH_str, dvmF_1, gTwo_1, eIf_e, lp_law_1, hx, e1, e2]) ⟨_, rfl⟩
  refine ⟨S', ?_⟩
  simp (config := { decide := true }) only [bd_1, bd_2, bs_1, bs_2, sq_1, sq_2, sq_3, sq_4, sq_5, vr_1, ga_1, lcE_1, sSeq_e, sAsg_e, cAsg_1, sRet_e, cRt_1, sDrop_e, cDr_1, sIf_e, cIf_t, cIf_f, sSkip_e, sBrk_e, sCnt_e, sPar_e, cPar_1, cPar2_1, sFor_e, cFor_1, gVar_e, eVar_e, eC_e, eOp_e, cOp_1, eUn_e, aNil_e, aCons_e, cA_1, cA2_1, eCall_e, oCall_e, iCall_e, iVal_e, toB_1, bVal_e, bAnd_e, cAnd_1, bOr_e, cOr_1, bNot_e, cNot_1, eAnd_e, cEAnd_1, cEAnd2_1, eOr_e, cEOr_1, cEOr2_1, eNot_e, cENot_1, cENot2_1, eIf_e, cEIf_1, eChain_e, cCh_1, cCh1_1, cCh2_1, cCh3_1, eTup_e, cTup_1, oLst_e, cLst_1, eFz_e, cFz_1, ePtr_e, cPtr_1, oLc_e, cLc_1, eSh_e, itF_1, itF_2, itF_3, addF_1, addF_2, addF_3, intF_1, subF_1, modF_1, fdvF_1, powF_1, mulF_1, mulF_2, negF_1, ltF_1, leF_1, gtF_1, geF_1, atE_1, ixF_1, ixF_2, ixF_3, pxE_1, ixF_4, plE_1, lenF_4, eMt_e, cMt_1, eCut_e, cCut_1, cCut2_1, qNone_e, qSome_e, toI_1, cutF_1, cutF_2, cutF_3, cutF_4, eCallK_e, cK_1, cK2_1, eDic0_e, oCat_e, cCat_1, cCat2_1, cCat3_1, lsT_1, lsT_2, rcv_p, apE_1, appF_1, stL_app, set_app, stL_0, stL_k, stL_c, stL_s, set_0, set_k, shE_1, shF_1, lenF_1, lenF_2, lenF_3, absF_1, intOfF_1, intOfF_2, rng1F_1, rng2F_1, Ar_e, mkD_e, fin_1, fin_2, fin_3, few_e, tupOfF_1, tupOfF_2, tupOfF_3, lstOfF_1, lstOfF_2, lstOfF_3, isF_1, gStar_1, cIf_1, Option.isSome_some, List.length_map, List.length_append, List.append_assoc, Nat.add_assoc, slots, wpD, List.map_cons, List.map_nil, List.cons_append, List.nil_append, List.length_cons, List.length_nil, List.replicate, List.set_cons_succ, List.set_cons_zero, List.getElem?_cons_zero, List.getElem?_cons_succ, if_true, if_false, ite_true, ite_false, reduceIte, Nat.reduceAdd, Nat.reduceSub, Nat.reduceLeDiff, Nat.zero_add, Nat.sub_zero, Nat.sub_self, Bool.not_true, Bool.not_false, Bool.false_eq_true, decide_true, decide_false, Bool.true_and, Bool.and_true, Bool.or_true, Bool.true_or, Bool.false_and, Bool.and_false, Bool.or_false, Bool.false_or, decide_eq_true_eq, id_eq, Int.reduceLT, Int.reduceLE, Int.reduceNeg, Int.reduceAdd, Int.reduceSub, Int.reduceMul, Int.reduceMod, Int.reduceDiv, Int.reducePow, Int.reduceToNat, and_self, true_and, and_true, gStar_1, eqF_int, isiF_tup, isiF_lst, isiF_int, isiF_str, isiF_bl, at_0, gSet_e, seO_1, seI_1, lenF_5, addF_4, sxE_1, ixF_5, itF_4, max2F_e, min2F_e, eM1_c, cM1_1, oM1_c, cN1_1, intAnyF_b, intAnyF_s, strOfF_1, eqF_str, eqH_int, eqH_str, dvmF_1, gTwo_1, eIf_e, d_law, b_law, okI, q1, q2, e]
end W04

set_option Elab.async false
set_option linter.all false
set_option maxRecDepth 100000
set_option maxHeartbeats 0
namespace W04
open PySem PySem.Spec PyProof.Rows L2 U
def dd__law_take : He.DefD := ⟨("_law_take", none), "_law_take", "_law_take", defArgs s__law_take, defBody s__law_take, defScope s__law_take, [], []⟩
def dd__law_shape : He.DefD := ⟨("_law_shape", none), "_law_shape", "_law_shape", defArgs s__law_shape, defBody s__law_shape, defScope s__law_shape, [], []⟩
def dd__law_odd : He.DefD := ⟨("_law_odd", none), "_law_odd", "_law_odd", defArgs s__law_odd, defBody s__law_odd, defScope s__law_odd, [], []⟩
def dd__law_any : He.DefD := ⟨("_law_any", none), "_law_any", "_law_any", defArgs s__law_any, defBody s__law_any, defScope s__law_any, [], []⟩
def dd_is_whole : He.DefD := ⟨("is_whole", none), "is_whole", "is_whole", defArgs s_is_whole, defBody s_is_whole, defScope s_is_whole, [], []⟩
def dd_is_shape : He.DefD := ⟨("is_shape", none), "is_shape", "is_shape", defArgs s_is_shape, defBody s_is_shape, defScope s_is_shape, [], []⟩
def dd__law_size : He.DefD := ⟨("_law_size", none), "_law_size", "_law_size", defArgs s__law_size, defBody s__law_size, defScope s__law_size, [], []⟩
def dd__law_beside : He.DefD := ⟨("_law_beside", none), "_law_beside", "_law_beside", defArgs s__law_beside, defBody s__law_beside, defScope s__law_beside, [], []⟩
def dd_need_shape : He.DefD := ⟨("need_shape", none), "need_shape", "need_shape", defArgs s_need_shape, defBody s_need_shape, defScope s_need_shape, [], []⟩
def dd_many_places : He.DefD := ⟨("many_places", none), "many_places", "many_places", defArgs s_many_places, defBody s_many_places, defScope s_many_places, [], []⟩
def dd_rows_of : He.DefD := ⟨("rows_of", none), "rows_of", "rows_of", defArgs s_rows_of, defBody s_rows_of, defScope s_rows_of, [], []⟩
def dd_need_place : He.DefD := ⟨("need_place", none), "need_place", "need_place", defArgs s_need_place, defBody s_need_place, defScope s_need_place, [], []⟩
def dd_are_near : He.DefD := ⟨("are_near", none), "are_near", "are_near", defArgs s_are_near, defBody s_are_near, defScope s_are_near, [], []⟩
def dd_nears : He.DefD := ⟨("nears", none), "nears", "nears", defArgs s_nears, defBody s_nears, defScope s_nears, [], []⟩
def dd__law_whole : He.DefD := ⟨("_law_whole", none), "_law_whole", "_law_whole", defArgs s__law_whole, defBody s__law_whole, defScope s__law_whole, [], []⟩
def dd__law_is_shape : He.DefD := ⟨("_law_is_shape", none), "_law_is_shape", "_law_is_shape", defArgs s__law_is_shape, defBody s__law_is_shape, defScope s__law_is_shape, [], []⟩
def dd_near : He.DefD := ⟨("near", none), "near", "near", defArgs s_near, defBody s_near, defScope s_near, [], []⟩
def dd__law_right : He.DefD := ⟨("_law_right", none), "_law_right", "_law_right", defArgs s__law_right, defBody s__law_right, defScope s__law_right, [], []⟩
def dd__law_bag : He.DefD := ⟨("_law_bag", none), "_law_bag", "_law_bag", defArgs s__law_bag, defBody s__law_bag, defScope s__law_bag, [], []⟩
def dd__law_cell : He.DefD := ⟨("_law_cell", none), "_law_cell", "_law_cell", defArgs s__law_cell, defBody s__law_cell, defScope s__law_cell, [], []⟩
def dd_law : He.DefD := ⟨("law", none), "law", "law", defArgs s_law, defBody s_law, defScope s_law, [], []⟩
def fn : List He.DefD := [dd__law_take, dd__law_shape, dd__law_odd, dd__law_any, dd_is_whole, dd_is_shape, dd__law_size, dd__law_beside, dd_need_shape, dd_many_places, dd_rows_of, dd_need_place, dd_are_near, dd_nears, dd__law_whole, dd__law_is_shape, dd_near, dd__law_right, dd__law_bag, dd__law_cell, dd_law]
def fa : List He.Fa := [.glo "_law_take", .glo "_law_shape", .glo "_law_odd", .glo "_law_any", .glo "is_whole", .glo "is_shape", .glo "_law_size", .glo "_law_beside", .glo "need_shape", .glo "many_places", .glo "rows_of", .glo "need_place", .glo "are_near", .glo "nears", .glo "_law_whole", .glo "_law_is_shape", .glo "near", .glo "_law_right", .glo "_law_bag", .glo "_law_cell", .glo "law", .free "list", .free "range", .free "len", .free "tuple", .free "isinstance", .free "int", .free "bool", .free "str", .free "all", .free "sorted", .free "divmod", .free "abs", .free "repr", .free "max", .free "min", .int "MOST_PLACES" 12, .glo "LINES"]
abbrev R : PySem.W.OpenRow := PySem.W.OpenLaw.row PySem.Challenge.rw_rulesplay_k04_places_near_one_another
def ex (K : Fr) : Bool := He.tupB K "LINES" [.str "row", .str "ring"] && true
abbrev hk : PySem.W.Hook := U.hookB 4 fa fn ex
def ob (s : PySem.W.SharedT) : He.AlD × Bool := U.obsB 4 fa fn ex (HandSHeadRun.getT s)
theorem ob_eq (s : PySem.W.SharedT) : ob s = hk.obs s.abs := U.obsB_eq (HandSHeadRun.getT_eq s)
def loose : List Str := (["PlayError", "Absent", "NoShape", "NoPlace", "is_whole", "MOST_PLACES", "LINES", "is_shape", "need_shape", "many_places", "need_place", "are_near", "near", "nears", "rows_of", "_law_cell", "_law_bag", "_law_take", "_law_any", "_law_shape", "_law_size", "_law_beside", "_law_whole", "_law_odd", "_law_is_shape", "_law_right"] : List Str)
theorem run (w : World) : HandSHeadRun.RunEq R (PySem.W.view R.prog [30]) hk ob 4000 loose w := by
  intro os
  kernel_rfl
theorem facts {P : Program} {w : World} {K : PySem.W.Frag} {h : Heap} {mg : Str → Option Value} {f : Addr} {cl : Cl} (X : K.In h) (G : h.Ns mainGlobals mg) (hfa : mg ("law" : Str) = some (.ref f)) (c : He.SaysD fa fn K) (cx : ex K = true) :
    ∃ fd : FuncData, (∀ (s : Shared) (v : Value), BindsTo s fd ⟨[v], []⟩ [("_law_script", v)]) ∧ ∀ base : Heap, K.In base → base.Ns mainGlobals mg → FnG P w K mg base (L2.CX P w) 8 f fd ["_law_script"] (spM K cl 1 d_law) := by
  have T : Txt K mg := ⟨He.free_ok X G (c.fact 21 (f := .free "list") rfl), He.free_ok X G (c.fact 22 (f := .free "range") rfl), He.free_ok X G (c.fact 23 (f := .free "len") rfl), He.free_ok X G (c.fact 24 (f := .free "tuple") rfl), He.free_ok X G (c.fact 25 (f := .free "isinstance") rfl), He.free_ok X G (c.fact 26 (f := .free "int") rfl), He.free_ok X G (c.fact 27 (f := .free "bool") rfl), He.free_ok X G (c.fact 28 (f := .free "str") rfl), He.free_ok X G (c.fact 29 (f := .free "all") rfl), He.free_ok X G (c.fact 30 (f := .free "sorted") rfl), He.free_ok X G (c.fact 31 (f := .free "divmod") rfl), He.free_ok X G (c.fact 32 (f := .free "abs") rfl), He.free_ok X G (c.fact 33 (f := .free "repr") rfl), He.free_ok X G (c.fact 34 (f := .free "max") rfl), He.free_ok X G (c.fact 35 (f := .free "min") rfl), He.int_ok X G (c.fact 36 (f := .int "MOST_PLACES" 12) rfl), ⟨_, He.glo_ok X G (c.fact 37 (f := .glo "LINES") rfl), fun _ _ H => .tup (He.tupB_ok (U.and_l (cx)) H) (.cons (.str _) (.cons (.str _) .nil))⟩⟩
  obtain ⟨fd__law_take, F__law_take⟩ := c.def_ 0 (d := dd__law_take) rfl
  have g__law_take := He.glo_ok X G (c.fact 0 (f := .glo "_law_take") rfl)
  obtain ⟨fd__law_shape, F__law_shape⟩ := c.def_ 1 (d := dd__law_shape) rfl
  have g__law_shape := He.glo_ok X G (c.fact 1 (f := .glo "_law_shape") rfl)
  obtain ⟨fd__law_odd, F__law_odd⟩ := c.def_ 2 (d := dd__law_odd) rfl
  have g__law_odd := He.glo_ok X G (c.fact 2 (f := .glo "_law_odd") rfl)
  obtain ⟨fd__law_any, F__law_any⟩ := c.def_ 3 (d := dd__law_any) rfl
  have g__law_any := He.glo_ok X G (c.fact 3 (f := .glo "_law_any") rfl)
  obtain ⟨fd_is_whole, F_is_whole⟩ := c.def_ 4 (d := dd_is_whole) rfl
  have g_is_whole := He.glo_ok X G (c.fact 4 (f := .glo "is_whole") rfl)
  obtain ⟨fd_is_shape, F_is_shape⟩ := c.def_ 5 (d := dd_is_shape) rfl
  have g_is_shape := He.glo_ok X G (c.fact 5 (f := .glo "is_shape") rfl)
  obtain ⟨fd__law_size, F__law_size⟩ := c.def_ 6 (d := dd__law_size) rfl
  have g__law_size := He.glo_ok X G (c.fact 6 (f := .glo "_law_size") rfl)
  obtain ⟨fd__law_beside, F__law_beside⟩ := c.def_ 7 (d := dd__law_beside) rfl
  have g__law_beside := He.glo_ok X G (c.fact 7 (f := .glo "_law_beside") rfl)
  obtain ⟨fd_need_shape, F_need_shape⟩ := c.def_ 8 (d := dd_need_shape) rfl
  have g_need_shape := He.glo_ok X G (c.fact 8 (f := .glo "need_shape") rfl)
  obtain ⟨fd_many_places, F_many_places⟩ := c.def_ 9 (d := dd_many_places) rfl
  have g_many_places := He.glo_ok X G (c.fact 9 (f := .glo "many_places") rfl)
  obtain ⟨fd_rows_of, F_rows_of⟩ := c.def_ 10 (d := dd_rows_of) rfl
  have g_rows_of := He.glo_ok X G (c.fact 10 (f := .glo "rows_of") rfl)
  obtain ⟨fd_need_place, F_need_place⟩ := c.def_ 11 (d := dd_need_place) rfl
  have g_need_place := He.glo_ok X G (c.fact 11 (f := .glo "need_place") rfl)
  obtain ⟨fd_are_near, F_are_near⟩ := c.def_ 12 (d := dd_are_near) rfl
  have g_are_near := He.glo_ok X G (c.fact 12 (f := .glo "are_near") rfl)
  obtain ⟨fd_nears, F_nears⟩ := c.def_ 13 (d := dd_nears) rfl
  have g_nears := He.glo_ok X G (c.fact 13 (f := .glo "nears") rfl)
  obtain ⟨fd__law_whole, F__law_whole⟩ := c.def_ 14 (d := dd__law_whole) rfl
  have g__law_whole := He.glo_ok X G (c.fact 14 (f := .glo "_law_whole") rfl)
  obtain ⟨fd__law_is_shape, F__law_is_shape⟩ := c.def_ 15 (d := dd__law_is_shape) rfl
  have g__law_is_shape := He.glo_ok X G (c.fact 15 (f := .glo "_law_is_shape") rfl)
  obtain ⟨fd_near, F_near⟩ := c.def_ 16 (d := dd_near) rfl
  have g_near := He.glo_ok X G (c.fact 16 (f := .glo "near") rfl)
  obtain ⟨fd__law_right, F__law_right⟩ := c.def_ 17 (d := dd__law_right) rfl
  have g__law_right := He.glo_ok X G (c.fact 17 (f := .glo "_law_right") rfl)
  obtain ⟨fd__law_bag, F__law_bag⟩ := c.def_ 18 (d := dd__law_bag) rfl
  have g__law_bag := He.glo_ok X G (c.fact 18 (f := .glo "_law_bag") rfl)
  obtain ⟨fd__law_cell, F__law_cell⟩ := c.def_ 19 (d := dd__law_cell) rfl
  have g__law_cell := He.glo_ok X G (c.fact 19 (f := .glo "_law_cell") rfl)
  obtain ⟨fd_law, F_law⟩ := c.def_ 20 (d := dd_law) rfl
  have g_law := He.glo_ok X G (c.fact 20 (f := .glo "law") rfl)
  have e := hfa.symm.trans g_law
  cases e
  have b := FunD.bindsA (ps := ["_law_script"]) F_law fun _ _ _ _ _ _ us hl => match us, hl with | [_], _ => rfl
  refine ⟨fd_law, fun s v => b s [v] rfl, fun base _ _ => ?_⟩
  have o__law_take := ok__law_take (P := P) (w := w) (base := base) (cl := cl) T F__law_take g__law_take 
  have o__law_shape := ok__law_shape (P := P) (w := w) (base := base) (cl := cl) T F__law_shape g__law_shape o__law_take.okf
  have o__law_odd := ok__law_odd (P := P) (w := w) (base := base) (cl := cl) T F__law_odd g__law_odd o__law_take.okf
  have o__law_any := ok__law_any (P := P) (w := w) (base := base) (cl := cl) T F__law_any g__law_any o__law_take.okf
  have o_is_whole := ok_is_whole (P := P) (w := w) (base := base) (cl := cl) T F_is_whole g_is_whole 
  have o_is_shape := ok_is_shape (P := P) (w := w) (base := base) (cl := cl) T F_is_shape g_is_shape o_is_whole.okf
  have o__law_size := ok__law_size (P := P) (w := w) (base := base) (cl := cl) T F__law_size g__law_size 
  have o__law_beside := ok__law_beside (P := P) (w := w) (base := base) (cl := cl) T F__law_beside g__law_beside o__law_size.okf
  have o_need_shape := ok_need_shape (P := P) (w := w) (base := base) (cl := cl) T F_need_shape g_need_shape o_is_shape.okf
  have o_many_places := ok_many_places (P := P) (w := w) (base := base) (cl := cl) T F_many_places g_many_places o_need_shape.okf
  have o_rows_of := ok_rows_of (P := P) (w := w) (base := base) (cl := cl) T F_rows_of g_rows_of o_many_places.okf
  have o_need_place := ok_need_place (P := P) (w := w) (base := base) (cl := cl) T F_need_place g_need_place o_is_whole.okf o_many_places.okf
  have o_are_near := ok_are_near (P := P) (w := w) (base := base) (cl := cl) T F_are_near g_are_near 
  have o_nears := ok_nears (P := P) (w := w) (base := base) (cl := cl) T F_nears g_nears o_need_place.okf o_many_places.okf o_are_near.okf
  have k_nears_0_place_shape := okk_plain (n := 0) (ks := ["place", "shape"]) o_nears F_nears gd_nears_0_place_shape (fun h1 h2 => pks_vals h1 h2 _) (fun _ _ _ _ _ _ us ws h1 h2 => match us, ws, h1, h2 with | [], [_, _], _, _ => rfl) fun _ _ _ _ _ _ _ _ _ h1 h2 => pks_dts h1 h2 _
  have o__law_whole := ok__law_whole (P := P) (w := w) (base := base) (cl := cl) T F__law_whole g__law_whole 
  have o__law_is_shape := ok__law_is_shape (P := P) (w := w) (base := base) (cl := cl) T F__law_is_shape g__law_is_shape o__law_whole.okf
  have o_near := ok_near (P := P) (w := w) (base := base) (cl := cl) T F_near g_near o_need_place.okf o_are_near.okf
  have o__law_right := ok__law_right (P := P) (w := w) (base := base) (cl := cl) T F__law_right g__law_right o__law_beside.okf o__law_size.okf o_many_places.okf o_rows_of.okf o_near.okf o__law_any.okf o__law_odd.okf o_is_shape.okf o__law_is_shape.okf o__law_shape.okf k_nears_0_place_shape
  have o__law_bag := ok__law_bag (P := P) (w := w) (base := base) (cl := cl) T F__law_bag g__law_bag 
  have o__law_cell := ok__law_cell (P := P) (w := w) (base := base) (cl := cl) T F__law_cell g__law_cell 
  have o_law := ok_law (P := P) (w := w) (base := base) (cl := cl) T F_law g_law o__law_right.okf o__law_bag.okf o__law_cell.okf
  exact o_law.1
end W04
open PySem PySem.W PySem.Calls PyProof.Rows in
theorem PySem.Challenge.cw_rulesplay_k04_places_near_one_another_holds : PySem.Challenge.rw_rulesplay_k04_places_near_one_another.Holds := by
  w_on; o_law
  refine HandSHeadRun.head_any (r := OpenLaw.row PySem.Challenge.rw_rulesplay_k04_places_near_one_another) (q := view (OpenLaw.row PySem.Challenge.rw_rulesplay_k04_places_near_one_another).prog [30]) (H := W04.hk) (ob := W04.ob) (M := 4000) (loose := W04.loose) (d := HandSHeadRun.topDef (OpenLaw.row PySem.Challenge.rw_rulesplay_k04_places_near_one_another).prog 30) (kwd := []) W04.ob_eq
    (by kernel_rfl) (fun s => by kernel_rfl) W04.run (by kernel_rfl) (by kernel_rfl) (by kernel_rfl) (by rfl) (by first | assumption | decide +kernel) (by decide +kernel) ⟨rfl, rfl, rfl, rfl, rfl, by decide +kernel⟩ ?hw ?hc
  case hw => w_witness2
  case hc =>
    refine U.walk_w (l := PySem.Challenge.rw_rulesplay_k04_places_near_one_another) (k := 8) (x := "_law_script") (dm := W04.d_law) rfl (by kernel_rfl) ⟨⟨rfl, by decide, by decide⟩, rfl⟩ ?F W04.law_true
    intro w mg fa h Y G hmg0
    obtain ⟨K, KX, c, cx⟩ := Y
    have hmg : mg ("law" : PySem.Str) = some (.ref fa) := by
      have e : (HandSHeadRun.topDef (OpenLaw.row PySem.Challenge.rw_rulesplay_k04_places_near_one_another).prog 30).name = ("law" : PySem.Str) := by kernel_rfl
      rw [← e]
      exact hmg0
    obtain ⟨fd, hb, hF⟩ := W04.facts (P := (PySem.Challenge.rw_rulesplay_k04_places_near_one_another).prog) (w := w) (cl := fun _ => 0) KX G hmg c cx
    exact ⟨K, fd, KX, hb, hF⟩

